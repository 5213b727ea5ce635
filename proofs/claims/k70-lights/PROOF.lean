import PyProof.Rows.All
import Wide.All
import OpenK.AllK
import Wide.FinOn
import HandS.ForMost
import KE.SortData
import KE.DataCmp
import KE.DataMinMax
import HandS.TupAny
import HandS.IsInst
import HandS.Deep
import HandS.Wide
import HandS.Conv
import HandS.TupMul
import HandS.Exc
import HandS.ExcOwn
import HandS.TryMany
import HandS.CallSlots
import HandS.WordsExc
import HandS.Comp
import HandS.Zip
import HandS.TupSets
import KE.GoesMore
import KE.GoesZip
import KE.GoesRaise
import HandS.Style
import KE.KRevSl
import PySem.Challenge.RW_leadwright_k70_whole_lights
set_option Elab.async false
set_option linter.all false
set_option maxRecDepth 100000
set_option maxRecDepth 100000
/-! Lw1: owned things over the abstract heap; frozen data lie in a sub-heap F, owned trees beside it. -/
namespace Lw
open PySem L2

/-! ### what a variable holds -/
inductive O where
  | d (x : PyData)
  | lst (os : List O)
  | dct (ks : List PyData) (os : List O)
  | ins (C : Str) (ns : List Str) (os : List O)
  | scr (ns : List Int)

mutual
def O.toD : O → Option PyData
  | .d x => some x
  | .lst os => match O.toDs os with
    | some xs => some (.list xs)
    | none => none
  | .dct _ _ => none
  | .ins _ _ _ => none
  | .scr _ => none
def O.toDs : List O → Option (List PyData)
  | [] => some []
  | o :: os => match O.toD o, O.toDs os with
    | some x, some xs => some (x :: xs)
    | _, _ => none
end
theorem O.toDs_map (xs : List PyData) : O.toDs (xs.map O.d) = some xs := by
  induction xs with
  | nil => rfl
  | cons x xs ih => rw [List.map_cons, O.toDs, ih]; simp [O.toD]
theorem O.toD_lst (xs : List PyData) : O.toD (.lst (xs.map O.d)) = some (.list xs) := by
  rw [O.toD, O.toDs_map]

abbrev AS := Addr → Prop
def keyD : Key → PyData
  | .inl i => .int i
  | .inr x => .str x

/-! ### frozen data -/
def Sub (F H : Hp) : Prop := ∀ a o, F a = some o → H a = some o
theorem Sub.refl (F : Hp) : Sub F F := fun _ _ h => h
theorem Sub.trans {F G H : Hp} (a : Sub F G) (b : Sub G H) : Sub F H := fun x o h => b x o (a x o h)
theorem Sub.rd {F H : Hp} {a : Addr} {u : HO} (e : Sub F H) (h : Rd F a u) : Rd H a u := by
  rcases h with h | ⟨o, h⟩
  · exact .inl (e _ _ h)
  · exact .inr ⟨o, e _ _ h⟩
theorem Sub.sqL {K : PySem.W.Frag} {F H : Hp} {a : Addr} {xs : List V} (e : Sub F H) (h : SqL K F a xs) : SqL K H a xs := by
  rcases h with h | h
  · exact .inl (e.rd h)
  · exact .inr h
theorem Sub.sqT {K : PySem.W.Frag} {F H : Hp} {a : Addr} {xs : List V} (e : Sub F H) (h : SqT K F a xs) : SqT K H a xs := by
  rcases h with h | h
  · exact .inl (e.rd h)
  · exact .inr h
theorem Sub.new {H : Hp} {p : Addr} {o : HO} (h : H p = none) : Sub H (upd H p o) := fun a u e => by
  rw [upd_ne (ne_of_none e h)]; exact e

mutual
/-- data that stand in a heap: lists tracked, tuples tracked or of the written part -/
inductive Dq (K : PySem.W.Frag) (H : Hp) : V → PyData → Prop
  | non : Dq K H .non .none
  | bl (b : Bool) : Dq K H (.bl b) (.bool b)
  | int (i : Int) : Dq K H (.int i) (.int i)
  | str (x : Str) : Dq K H (.str x) (.str x)
  | lst {a : Addr} {xs : List V} {ds : List PyData} : H a = some (.lst xs) → DqAll K H xs ds → Dq K H (.ref a) (.list ds)
  | tup {a : Addr} {xs : List V} {ds : List PyData} : SqT K H a xs → DqAll K H xs ds → Dq K H (.ref a) (.tuple ds)
inductive DqAll (K : PySem.W.Frag) (H : Hp) : List V → List PyData → Prop
  | nil : DqAll K H [] []
  | cons {v : V} {vs : List V} {d : PyData} {ds : List PyData} : Dq K H v d → DqAll K H vs ds → DqAll K H (v :: vs) (d :: ds)
end
section
variable {K : PySem.W.Frag} {F F' H H' : Hp}
mutual
theorem Dq.dp : ∀ (d : PyData) (v : V), Dq K F v d → Dp K F v d
  | .none, _, h => by cases h; exact .non
  | .bool b, _, h => by cases h; exact .bl b
  | .int i, _, h => by cases h; exact .int i
  | .str x, _, h => by cases h; exact .str x
  | .list ds, _, h => by
    cases h with
    | lst hs ha => exact .lst (SqL.of hs) (Dq.dpAll ds _ ha)
  | .tuple ds, _, h => by
    cases h with
    | tup hs ha => exact .tup hs (Dq.dpAll ds _ ha)
  | .dict _, _, h => by cases h
theorem Dq.dpAll : ∀ (ds : List PyData) (vs : List V), DqAll K F vs ds → DpAll K F vs ds
  | [], _, h => by cases h; exact .nil
  | d :: ds, _, h => by
    cases h with
    | cons h1 h2 => exact .cons (Dq.dp d _ h1) (Dq.dpAll ds _ h2)
end
end
section
variable {K : PySem.W.Frag} {F F' H H' : Hp}
mutual
theorem Dq.mono (e : Sub F H) : ∀ (d : PyData) (v : V), Dq K F v d → Dq K H v d
  | .none, _, h => by cases h; exact .non
  | .bool b, _, h => by cases h; exact .bl b
  | .int i, _, h => by cases h; exact .int i
  | .str x, _, h => by cases h; exact .str x
  | .list ds, _, h => by
    cases h with
    | lst hs ha => exact .lst (e _ _ hs) (Dq.monoAll e ds _ ha)
  | .tuple ds, _, h => by
    cases h with
    | tup hs ha => exact .tup (e.sqT hs) (Dq.monoAll e ds _ ha)
  | .dict _, _, h => by cases h
theorem Dq.monoAll (e : Sub F H) : ∀ (ds : List PyData) (vs : List V), DqAll K F vs ds → DqAll K H vs ds
  | [], _, h => by cases h; exact .nil
  | d :: ds, _, h => by
    cases h with
    | cons h1 h2 => exact .cons (Dq.mono e d _ h1) (Dq.monoAll e ds _ h2)
end
theorem DqAll.len : ∀ {vs : List V} {ds : List PyData}, DqAll K F vs ds → vs.length = ds.length
  | _, _, .nil => rfl
  | _, _, .cons _ t => by rw [List.length_cons, List.length_cons, DqAll.len t]
theorem DqAll.get : ∀ {vs : List V} {ds : List PyData} {i : Nat} {v : V}, DqAll K F vs ds → vs[i]? = some v → ∃ d, ds[i]? = some d ∧ Dq K F v d
  | _, _, _, _, .nil, e => by simp at e
  | _, _, 0, _, .cons h _, e => by simp at e; subst e; exact ⟨_, rfl, h⟩
  | _, _, i + 1, v, .cons _ t, e => by
    obtain ⟨d, h1, h2⟩ := DqAll.get (i := i) (v := v) t (by simpa using e)
    exact ⟨d, by simpa using h1, h2⟩
theorem DqAll.getD : ∀ {vs : List V} {ds : List PyData} {i : Nat} {d : PyData}, DqAll K F vs ds → ds[i]? = some d → ∃ v, vs[i]? = some v ∧ Dq K F v d
  | _, _, _, _, .nil, e => by simp at e
  | _, _, 0, _, .cons h _, e => by simp at e; subst e; exact ⟨_, rfl, h⟩
  | _, _, i + 1, d, .cons _ t, e => by
    obtain ⟨v, h1, h2⟩ := DqAll.getD (i := i) (d := d) t (by simpa using e)
    exact ⟨v, by simpa using h1, h2⟩
theorem DqAll.append : ∀ {vs ws : List V} {ds es : List PyData}, DqAll K F vs ds → DqAll K F ws es → DqAll K F (vs ++ ws) (ds ++ es)
  | _, _, _, _, .nil, t => t
  | _, _, _, _, .cons h s, t => .cons h (DqAll.append s t)
theorem DqAll.take : ∀ {vs : List V} {ds : List PyData} (n : Nat), DqAll K F vs ds → DqAll K F (vs.take n) (ds.take n)
  | _, _, 0, _ => .nil
  | _, _, _ + 1, .nil => .nil
  | _, _, n + 1, .cons h t => .cons h (DqAll.take n t)
theorem DqAll.drop : ∀ {vs : List V} {ds : List PyData} (n : Nat), DqAll K F vs ds → DqAll K F (vs.drop n) (ds.drop n)
  | _, _, 0, t => t
  | _, _, _ + 1, .nil => .nil
  | _, _, n + 1, .cons _ t => DqAll.drop n t
theorem DqAll.set : ∀ {vs : List V} {ds : List PyData} (n : Nat) {v : V} {d : PyData}, Dq K F v d → DqAll K F vs ds → DqAll K F (vs.set n v) (ds.set n d)
  | _, _, _, _, _, _, .nil => .nil
  | _, _, 0, _, _, h, .cons _ t => .cons h t
  | _, _, n + 1, _, _, h, .cons q t => .cons q (DqAll.set n h t)
theorem DqAll.rev : ∀ {vs : List V} {ds : List PyData}, DqAll K F vs ds → DqAll K F vs.reverse ds.reverse
  | _, _, .nil => .nil
  | _, _, .cons h t => by
    rw [List.reverse_cons, List.reverse_cons]
    exact (DqAll.rev t).append (.cons h .nil)
theorem DqAll.flat : ∀ {vs : List V} {ds : List PyData} (n : Nat), DqAll K F vs ds → DqAll K F (List.replicate n vs).flatten (List.replicate n ds).flatten
  | _, _, 0, _ => .nil
  | vs, ds, n + 1, t => by
    rw [List.replicate_succ, List.replicate_succ, List.flatten_cons, List.flatten_cons]
    exact t.append (DqAll.flat n t)
end

/-! ### owned trees -/
mutual
inductive OR (K : PySem.W.Frag) (cl : Str → Option Addr) (F H : Hp) : O → V → AS → Prop
  | d {v : V} {x : PyData} : Dq K F v x → OR K cl F H (.d x) v (fun _ => False)
  | scr {a : Addr} {ns : List Int} : SqL K F a (ns.map V.int) → OR K cl F H (.scr ns) (.ref a) (fun _ => False)
  | lst {p : Addr} {vs : List V} {os : List O} {A : AS} : H p = some (.lst vs) → ORs K cl F H os vs A → ¬ A p → F p = none → OR K cl F H (.lst os) (.ref p) (fun a => a = p ∨ A a)
  | dk {p : Addr} {kvs : List (Key × V)} {os : List O} {A : AS} : H p = some (.dK kvs) → ORs K cl F H os (kvs.map (·.2)) A → ¬ A p → F p = none → (kvs.map (·.1)).Nodup →
      OR K cl F H (.dct (kvs.map fun q => keyD q.1) os) (.ref p) (fun a => a = p ∨ A a)
  | dt {p : Addr} {kvs : List (List Key × V)} {os : List O} {A : AS} : H p = some (.dT kvs) → ORs K cl F H os (kvs.map (·.2)) A → ¬ A p → F p = none → (kvs.map (·.1)).Nodup →
      OR K cl F H (.dct (kvs.map fun q => .tuple (q.1.map keyD)) os) (.ref p) (fun a => a = p ∨ A a)
  | ins {p C dx : Addr} {c : Str} {fs : List (Str × V)} {os : List O} {A : AS} : H p = some (.ins C dx fs) → cl c = some C → ORs K cl F H os (fs.map (·.2)) A → ¬ A p → F p = none →
      OR K cl F H (.ins c (fs.map (·.1)) os) (.ref p) (fun a => a = p ∨ A a)
inductive ORs (K : PySem.W.Frag) (cl : Str → Option Addr) (F H : Hp) : List O → List V → AS → Prop
  | nil : ORs K cl F H [] [] (fun _ => False)
  | cons {o : O} {os : List O} {v : V} {vs : List V} {A B : AS} : OR K cl F H o v A → ORs K cl F H os vs B → (∀ a, A a → B a → False) → ORs K cl F H (o :: os) (v :: vs) (fun a => A a ∨ B a)
end

section
variable {K : PySem.W.Frag} {cl : Str → Option Addr} {F F' H H' : Hp}
mutual
theorem OR.frame (e : Sub F F') : ∀ {o : O} {v : V} {A : AS}, OR K cl F H o v A → (∀ a, A a → H' a = H a) → (∀ a, A a → F' a = none) → OR K cl F' H' o v A
  | _, _, _, .d h, _, _ => .d (Dq.mono e _ _ h)
  | _, _, _, .scr h, _, _ => .scr (e.sqL h)
  | _, _, _, .lst h t n f, k, g => .lst ((k _ (.inl rfl)).trans h) (ORs.frame e t (fun a q => k a (.inr q)) fun a q => g a (.inr q)) n (g _ (.inl rfl))
  | _, _, _, .dk h t n f nd, k, g => .dk ((k _ (.inl rfl)).trans h) (ORs.frame e t (fun a q => k a (.inr q)) fun a q => g a (.inr q)) n (g _ (.inl rfl)) nd
  | _, _, _, .dt h t n f nd, k, g => .dt ((k _ (.inl rfl)).trans h) (ORs.frame e t (fun a q => k a (.inr q)) fun a q => g a (.inr q)) n (g _ (.inl rfl)) nd
  | _, _, _, .ins h c t n f, k, g => .ins ((k _ (.inl rfl)).trans h) c (ORs.frame e t (fun a q => k a (.inr q)) fun a q => g a (.inr q)) n (g _ (.inl rfl))
theorem ORs.frame (e : Sub F F') : ∀ {os : List O} {vs : List V} {A : AS}, ORs K cl F H os vs A → (∀ a, A a → H' a = H a) → (∀ a, A a → F' a = none) → ORs K cl F' H' os vs A
  | _, _, _, .nil, _, _ => .nil
  | _, _, _, .cons h t n, k, g => .cons (OR.frame e h (fun a q => k a (.inl q)) fun a q => g a (.inl q)) (ORs.frame e t (fun a q => k a (.inr q)) fun a q => g a (.inr q)) n
end
mutual
theorem OR.own : ∀ {o : O} {v : V} {A : AS}, OR K cl F H o v A → ∀ a, A a → F a = none ∧ H a ≠ none
  | _, _, _, .d _, _, q => q.elim
  | _, _, _, .scr _, _, q => q.elim
  | _, _, _, .lst h t n f, a, q => by
    rcases q with rfl | q
    · exact ⟨f, by rw [h]; simp⟩
    · exact ORs.own t a q
  | _, _, _, .dk h t n f _, a, q => by
    rcases q with rfl | q
    · exact ⟨f, by rw [h]; simp⟩
    · exact ORs.own t a q
  | _, _, _, .dt h t n f _, a, q => by
    rcases q with rfl | q
    · exact ⟨f, by rw [h]; simp⟩
    · exact ORs.own t a q
  | _, _, _, .ins h _ t n f, a, q => by
    rcases q with rfl | q
    · exact ⟨f, by rw [h]; simp⟩
    · exact ORs.own t a q
theorem ORs.own : ∀ {os : List O} {vs : List V} {A : AS}, ORs K cl F H os vs A → ∀ a, A a → F a = none ∧ H a ≠ none
  | _, _, _, .nil, _, q => q.elim
  | _, _, _, .cons h t n, a, q => by
    rcases q with q | q
    · exact OR.own h a q
    · exact ORs.own t a q
end
mutual
theorem OR.dp {G : Hp} (e : Sub F G) : ∀ {o : O} {v : V} {A : AS}, OR K cl F H o v A → (∀ a, A a → G a = H a) → ∀ x, o.toD = some x → Dq K G v x
  | _, _, _, .d h, _, x, q => by
    rw [O.toD] at q
    cases q
    exact Dq.mono e _ _ h
  | _, _, _, .lst (os := os) h t n f, k, x, q => by
    rw [O.toD] at q
    cases hq : O.toDs os with
    | none => rw [hq] at q; cases q
    | some xs =>
      rw [hq] at q
      cases q
      exact .lst ((k _ (.inl rfl)).trans h) (ORs.dp e t (fun a q => k a (.inr q)) xs hq)
  | _, _, _, .scr h, k, x, q => by rw [O.toD] at q; cases q
  | _, _, _, .dk h t n f _, k, x, q => by rw [O.toD] at q; cases q
  | _, _, _, .dt h t n f _, k, x, q => by rw [O.toD] at q; cases q
  | _, _, _, .ins h _ t n f, k, x, q => by rw [O.toD] at q; cases q
theorem ORs.dp {G : Hp} (e : Sub F G) : ∀ {os : List O} {vs : List V} {A : AS}, ORs K cl F H os vs A → (∀ a, A a → G a = H a) → ∀ xs, O.toDs os = some xs → DqAll K G vs xs
  | _, _, _, .nil, _, xs, q => by
    rw [O.toDs] at q; cases q
    exact .nil
  | _, _, _, .cons (o := o) (os := os) h t n, k, xs, q => by
    rw [O.toDs] at q
    cases h1 : O.toD o with
    | none => rw [h1] at q; cases q
    | some y =>
      cases h2 : O.toDs os with
      | none => rw [h1, h2] at q; cases q
      | some ys =>
        rw [h1, h2] at q
        cases q
        exact .cons (OR.dp e h (fun a q => k a (.inl q)) y h1) (ORs.dp e t (fun a q => k a (.inr q)) ys h2)
end
theorem ORs.ofData : ∀ {vs : List V} {ds : List PyData}, DqAll K F vs ds → ORs K cl F H (ds.map O.d) vs (fun _ => False)
  | _, _, .nil => .nil
  | _, _, .cons h t => by
    have e : (fun a : Addr => False ∨ False) = fun _ => False := by funext a; simp
    have := ORs.cons (OR.d (cl := cl) (H := H) h) (ORs.ofData t) (fun _ q _ => q)
    rw [e] at this
    exact this
theorem ORs.data : ∀ {vs : List V} {ds : List PyData} {A : AS}, ORs K cl F H (ds.map O.d) vs A → DqAll K F vs ds ∧ ∀ a, ¬ A a
  | _, [], _, h => by cases h; exact ⟨.nil, fun _ q => q⟩
  | _, d :: ds, _, h => by
    cases h with
    | cons h t n =>
      cases h with
      | d h =>
        obtain ⟨q1, q2⟩ := ORs.data t
        exact ⟨.cons h q1, fun a q => q.elim id (q2 a)⟩
theorem ORs.len : ∀ {os : List O} {vs : List V} {A : AS}, ORs K cl F H os vs A → os.length = vs.length
  | _, _, _, .nil => rfl
  | _, _, _, .cons _ t _ => by rw [List.length_cons, List.length_cons, ORs.len t]
theorem OR.cast {o : O} {v : V} {A B : AS} (h : OR K cl F H o v A) (e : ∀ a, A a ↔ B a) : OR K cl F H o v B := by
  have : A = B := by funext a; exact propext (e a)
  rw [← this]; exact h
theorem ORs.cast {o : List O} {v : List V} {A B : AS} (h : ORs K cl F H o v A) (e : ∀ a, A a ↔ B a) : ORs K cl F H o v B := by
  have : A = B := by funext a; exact propext (e a)
  rw [← this]; exact h
end

/-! ### the slots -/
abbrev Ro := List (Option O)
inductive RS (K : PySem.W.Frag) (cl : Str → Option Addr) (F H : Hp) : Ro → St → AS → Prop
  | nil : RS K cl F H [] [] (fun _ => False)
  | no {os : Ro} {v : Option V} {vs : St} {B : AS} : RS K cl F H os vs B → RS K cl F H (none :: os) (v :: vs) B
  | yes {o : O} {os : Ro} {v : V} {vs : St} {A B : AS} : OR K cl F H o v A → RS K cl F H os vs B → (∀ a, A a → B a → False) → RS K cl F H (some o :: os) (some v :: vs) (fun a => A a ∨ B a)

section
variable {K : PySem.W.Frag} {cl : Str → Option Addr} {F F' H H' : Hp}
theorem RS.len : ∀ {os : Ro} {vs : St} {A : AS}, RS K cl F H os vs A → os.length = vs.length
  | _, _, _, .nil => rfl
  | _, _, _, .no t => by rw [List.length_cons, List.length_cons, RS.len t]
  | _, _, _, .yes _ t _ => by rw [List.length_cons, List.length_cons, RS.len t]
theorem RS.cast {o : Ro} {v : St} {A B : AS} (h : RS K cl F H o v A) (e : ∀ a, A a ↔ B a) : RS K cl F H o v B := by
  have : A = B := by funext a; exact propext (e a)
  rw [← this]; exact h
theorem RS.frame (e : Sub F F') : ∀ {os : Ro} {vs : St} {A : AS}, RS K cl F H os vs A → (∀ a, A a → H' a = H a) → (∀ a, A a → F' a = none) → RS K cl F' H' os vs A
  | _, _, _, .nil, _, _ => .nil
  | _, _, _, .no t, k, g => .no (RS.frame e t k g)
  | _, _, _, .yes h t n, k, g => .yes (h.frame e (fun a q => k a (.inl q)) fun a q => g a (.inl q)) (RS.frame e t (fun a q => k a (.inr q)) fun a q => g a (.inr q)) n
theorem RS.own : ∀ {os : Ro} {vs : St} {A : AS}, RS K cl F H os vs A → ∀ a, A a → F a = none ∧ H a ≠ none
  | _, _, _, .nil, _, q => q.elim
  | _, _, _, .no t, a, q => RS.own t a q
  | _, _, _, .yes h t n, a, q => by
    rcases q with q | q
    · exact h.own a q
    · exact RS.own t a q
/-- the slot i taken out -/
theorem RS.out : ∀ {os : Ro} {vs : St} {A : AS} {i : Nat} {o : O}, RS K cl F H os vs A → os[i]? = some (some o) →
    ∃ v Ai B, vs[i]? = some (some v) ∧ OR K cl F H o v Ai ∧ RS K cl F H (os.set i none) vs B ∧ (∀ a, Ai a → B a → False) ∧ ∀ a, A a ↔ Ai a ∨ B a
  | _, _, _, _, _, .nil, e => by simp at e
  | _, _, _, 0, _, .no t, e => by simp at e
  | _, _, _, i + 1, o, .no t, e => by
    obtain ⟨v, Ai, B, h1, h2, h3, h4, h5⟩ := RS.out (i := i) (o := o) t (by simpa using e)
    exact ⟨v, Ai, B, by simpa using h1, h2, by rw [List.set_cons_succ]; exact .no h3, h4, h5⟩
  | _, _, _, 0, _, .yes h t n, e => by
    simp at e; subst e
    exact ⟨_, _, _, rfl, h, by rw [List.set_cons_zero]; exact .no t, n, fun a => Iff.rfl⟩
  | _, _, _, i + 1, o, .yes h t n, e => by
    obtain ⟨v, Ai, B, h1, h2, h3, h4, h5⟩ := RS.out (i := i) (o := o) t (by simpa using e)
    refine ⟨v, Ai, _, by simpa using h1, h2, by rw [List.set_cons_succ]; exact .yes h h3 (fun a p q => n a p ((h5 a).mpr (.inr q))), fun a p q => ?_, fun a => ?_⟩
    · rcases q with q | q
      · exact n a q ((h5 a).mpr (.inl p))
      · exact h4 a p q
    · constructor
      · rintro (q | q)
        · exact .inr (.inl q)
        · rcases (h5 a).mp q with q | q
          · exact .inl q
          · exact .inr (.inr q)
      · rintro (q | q | q)
        · exact .inr ((h5 a).mpr (.inl q))
        · exact .inl q
        · exact .inr ((h5 a).mpr (.inr q))
/-- a slot given up -/
theorem RS.drop : ∀ {os : Ro} {vs : St} {A : AS} (i : Nat) (w : Option V), RS K cl F H os vs A → ∃ B, RS K cl F H (os.set i none) (vs.set i w) B ∧ ∀ a, B a → A a
  | _, _, _, _, _, .nil => ⟨_, .nil, fun _ q => q⟩
  | _, _, _, 0, w, .no t => ⟨_, .no t, fun _ q => q⟩
  | _, _, _, i + 1, w, .no t => by
    obtain ⟨B, h1, h2⟩ := RS.drop i w t
    exact ⟨B, .no h1, h2⟩
  | _, _, _, 0, w, .yes h t n => ⟨_, .no t, fun _ q => .inr q⟩
  | _, _, _, i + 1, w, .yes h t n => by
    obtain ⟨B, h1, h2⟩ := RS.drop i w t
    exact ⟨_, .yes h h1 (fun a p q => n a p (h2 a q)), fun a q => q.elim .inl fun q => .inr (h2 a q)⟩
/-- a slot filled -/
theorem RS.put : ∀ {os : Ro} {vs : St} {A : AS} {i : Nat} {o : O} {v : V} {Ao : AS}, RS K cl F H os vs A → os[i]? = some none → OR K cl F H o v Ao → (∀ a, Ao a → A a → False) →
    RS K cl F H (os.set i (some o)) (vs.set i (some v)) (fun a => A a ∨ Ao a)
  | _, _, _, _, _, _, _, .nil, e, _, _ => by simp at e
  | _, _, _, 0, _, _, _, .no t, e, h, n => (RS.yes h t n).cast fun a => Or.comm
  | _, _, _, i + 1, _, _, _, .no t, e, h, n => .no (RS.put t (by simpa using e) h n)
  | _, _, _, 0, _, _, _, .yes _ t _, e, h, n => by simp at e
  | _, _, _, i + 1, _, _, _, .yes h0 t n0, e, h, n => by
    have q := RS.yes h0 (RS.put t (by simpa using e) h (fun a p q => n a p (.inr q))) (fun a p q => by
      rcases q with q | q
      · exact n0 a p q
      · exact n a q (.inl p))
    rw [List.set_cons_succ, List.set_cons_succ]
    refine q.cast fun a => ?_
    constructor
    · rintro (q | q | q)
      · exact .inl (.inl q)
      · exact .inl (.inr q)
      · exact .inr q
    · rintro ((q | q) | q)
      · exact .inl q
      · exact .inr (.inl q)
      · exact .inr (.inr q)
/-- x = ..: what stood there is given up -/
theorem RS.store {os : Ro} {vs : St} {A Ao : AS} {i : Nat} {o : O} {v : V} (h : RS K cl F H os vs A) (hi : i < os.length) (ho : OR K cl F H o v Ao) (n : ∀ a, Ao a → A a → False) :
    ∃ B, RS K cl F H (os.set i (some o)) (vs.set i (some v)) B ∧ ∀ a, B a → A a ∨ Ao a := by
  obtain ⟨B, h1, h2⟩ := RS.drop i none h
  have e : (os.set i none)[i]? = some none := by rw [List.getElem?_set_self hi]
  have q := RS.put h1 e ho (fun a p q => n a p (h2 a q))
  rw [List.set_set, List.set_set] at q
  exact ⟨_, q, fun a q => q.elim (fun q => .inl (h2 a q)) .inr⟩
end

theorem set_self {α : Type} : ∀ {l : List α} {i : Nat} {x : α}, l[i]? = some x → l.set i x = l
  | [], _, _, h => by simp at h
  | a :: l, 0, x, h => by simp at h; subst h; rfl
  | a :: l, i + 1, x, h => by rw [List.set_cons_succ, set_self (by simpa using h)]
/-! ### the state of a body: frozen part, owned addresses, slots; and a step -/
structure SR (K : PySem.W.Frag) (cl : Str → Option Addr) (F : Hp) (A : AS) (ro : Ro) (σ : St) (H : Hp) : Prop where
  rs : RS K cl F H ro σ A
  sub : Sub F H
structure Stp (F H : Hp) (A : AS) (F' H' : Hp) (A' : AS) : Prop where
  fr : Sub F F'
  kp : ∀ a o, H a = some o → ¬ A a → H' a = some o
  nf : ∀ a, F' a ≠ none → F a ≠ none ∨ H a = none ∨ A a
  na : ∀ a, A' a → A a ∨ H a = none
section
variable {K : PySem.W.Frag} {cl : Str → Option Addr} {F F' F'' H H' H'' : Hp} {A A' A'' : AS} {ro ro' : Ro} {σ : St}
theorem Stp.refl : Stp F H A F H A := ⟨.refl _, fun _ _ h _ => h, fun _ h => .inl h, fun _ h => .inl h⟩
theorem Stp.trans (a : Stp F H A F' H' A') (b : Stp F' H' A' F'' H'' A'') : Stp F H A F'' H'' A'' := by
  refine ⟨a.fr.trans b.fr, fun x o h n => ?_, fun x h => ?_, fun x h => ?_⟩
  · refine b.kp x o (a.kp x o h n) fun q => ?_
    rcases a.na x q with q | q
    · exact n q
    · rw [h] at q; cases q
  · rcases b.nf x h with q | q | q
    · exact a.nf x q
    · by_cases hA : A x
      · exact .inr (.inr hA)
      · cases e : H x with
        | none => exact .inr (.inl rfl)
        | some o => rw [a.kp x o e hA] at q; cases q
    · rcases a.na x q with q | q
      · exact .inr (.inr q)
      · exact .inr (.inl q)
  · rcases b.na x h with q | q
    · exact a.na x q
    · by_cases hA : A x
      · exact .inl hA
      · cases e : H x with
        | none => exact .inr rfl
        | some o => rw [a.kp x o e hA] at q; cases q
/-- a tree held beside the owned ones stays -/
theorem OR.step {o : O} {v : V} {Ao : AS} (h : OR K cl F H o v Ao) (n : ∀ a, Ao a → A a → False) (st : Stp F H A F' H' A') : OR K cl F' H' o v Ao ∧ ∀ a, Ao a → A' a → False := by
  have key : ∀ a, Ao a → ∃ o, H a = some o := fun a q => by
    cases e : H a with
    | none => exact absurd e (h.own a q).2
    | some o => exact ⟨o, rfl⟩
  refine ⟨h.frame st.fr (fun a q => ?_) (fun a q => ?_), fun a q r => ?_⟩
  · obtain ⟨o, e⟩ := key a q
    rw [e, st.kp a o e (n a q)]
  · cases e : F' a with
    | none => rfl
    | some u =>
      exfalso
      rcases st.nf a (by rw [e]; simp) with z | z | z
      · exact z (h.own a q).1
      · exact (h.own a q).2 z
      · exact n a q z
  · rcases st.na a r with z | z
    · exact n a q z
    · exact (h.own a q).2 z
theorem ORs.step {o : List O} {v : List V} {Ao : AS} (h : ORs K cl F H o v Ao) (n : ∀ a, Ao a → A a → False) (st : Stp F H A F' H' A') : ORs K cl F' H' o v Ao ∧ ∀ a, Ao a → A' a → False := by
  have key : ∀ a, Ao a → ∃ o, H a = some o := fun a q => by
    cases e : H a with
    | none => exact absurd e (h.own a q).2
    | some o => exact ⟨o, rfl⟩
  refine ⟨h.frame st.fr (fun a q => ?_) (fun a q => ?_), fun a q r => ?_⟩
  · obtain ⟨o, e⟩ := key a q
    rw [e, st.kp a o e (n a q)]
  · cases e : F' a with
    | none => rfl
    | some u =>
      exfalso
      rcases st.nf a (by rw [e]; simp) with z | z | z
      · exact z (h.own a q).1
      · exact (h.own a q).2 z
      · exact n a q z
  · rcases st.na a r with z | z
    · exact n a q z
    · exact (h.own a q).2 z
/-- the frozen part together with a tree -/
noncomputable def frz (F H : Hp) (Ai : AS) : Hp := fun a => open Classical in if Ai a then H a else F a
theorem frz_yes {Ai : AS} {a : Addr} (h : Ai a) : frz F H Ai a = H a := by unfold frz; rw [if_pos h]
theorem frz_no {Ai : AS} {a : Addr} (h : ¬ Ai a) : frz F H Ai a = F a := by unfold frz; rw [if_neg h]
theorem frz_sub {Ai : AS} (n : ∀ a, Ai a → F a = none) : Sub F (frz F H Ai) := fun a o e => by
  by_cases h : Ai a
  · rw [n a h] at e; cases e
  · rw [frz_no h]; exact e
theorem frz_in {Ai : AS} (s : Sub F H) : Sub (frz F H Ai) H := fun a o e => by
  by_cases h : Ai a
  · rw [frz_yes h] at e; exact e
  · rw [frz_no h] at e; exact s a o e
/-- a tree beside the owned ones is frozen -/
theorem SR.freezeTemp {o : O} {v : V} {Ao : AS} {x : PyData} (S : SR K cl F A ro σ H) (h : OR K cl F H o v Ao) (n : ∀ a, Ao a → A a → False) (hx : o.toD = some x) :
    ∃ F', Sub F F' ∧ (∀ a, F' a ≠ none → F a ≠ none ∨ Ao a) ∧ SR K cl F' A ro σ H ∧ Dq K F' v x := by
  refine ⟨frz F H Ao, frz_sub fun a q => (h.own a q).1, fun a q => ?_, ⟨S.rs.frame (frz_sub fun a q => (h.own a q).1) (fun _ _ => rfl) (fun a q => ?_), frz_in S.sub⟩, h.dp (frz_sub fun a q => (h.own a q).1) (fun a q => frz_yes q) x hx⟩
  · by_cases z : Ao a
    · exact .inr z
    · rw [frz_no z] at q; exact .inl q
  · rw [frz_no fun z => n a z q]
    exact (S.rs.own a q).1
/-- a slot's tree is frozen -/
theorem SR.freezeSlot {o : O} {i : Nat} {x : PyData} (S : SR K cl F A ro σ H) (hi : ro[i]? = some (some o)) (hx : o.toD = some x) :
    ∃ v F' A', σ[i]? = some (some v) ∧ Dq K F' v x ∧ SR K cl F' A' (ro.set i (some (.d x))) σ H ∧ Stp F H A F' H A' := by
  obtain ⟨v, Ai, B, h1, h2, h3, h4, h5⟩ := S.rs.out hi
  have S3 : SR K cl F B (ro.set i none) σ H := ⟨h3, S.sub⟩
  obtain ⟨F', q1, q2, q3, q4⟩ := S3.freezeTemp h2 h4 hx
  have hl : i < ro.length := (List.getElem?_eq_some_iff.mp hi).1
  have hp := q3.rs.put (i := i) (o := .d x) (v := v) (by rw [List.getElem?_set_self hl]) (.d q4) (fun _ z => z.elim)
  rw [List.set_set] at hp
  have es : σ.set i (some v) = σ := set_self h1
  rw [es] at hp
  refine ⟨v, F', B, h1, q4, ⟨hp.cast fun a => by simp, q3.sub⟩, ⟨q1, fun a o e _ => e, fun a q => ?_, fun a q => .inl ((h5 a).mpr (.inr q))⟩⟩
  rcases q2 a q with z | z
  · exact .inl z
  · exact .inr (.inr ((h5 a).mpr (.inl z)))
/-- a new object, tracked, in the frozen part -/
theorem SR.newF {p : Addr} {ob : HO} (S : SR K cl F A ro σ H) (hp : H p = none) : SR K cl (upd F p ob) A ro σ (upd H p ob) ∧ Stp F H A (upd F p ob) (upd H p ob) A := by
  have fp : F p = none := by
    cases e : F p with
    | none => rfl
    | some u => rw [S.sub p u e] at hp; cases hp
  have nA : ∀ a, A a → a ≠ p := fun a q z => by subst z; exact (S.rs.own _ q).2 hp
  refine ⟨⟨S.rs.frame (Sub.new fp) (fun a q => by rw [upd_ne (nA a q)]) (fun a q => by rw [upd_ne (nA a q)]; exact (S.rs.own a q).1), fun a o e => ?_⟩, Sub.new fp, fun a o e _ => Sub.new hp a o e, fun a q => ?_, fun a q => .inl q⟩
  · by_cases z : a = p
    · subst z; rw [upd_same] at e ⊢; exact e
    · rw [upd_ne z] at e ⊢; exact S.sub a o e
  · by_cases z : a = p
    · subst z; exact .inr (.inl hp)
    · rw [upd_ne z] at q; exact .inl q
/-- a new object, tracked, owned beside -/
theorem SR.newO {p : Addr} {ob : HO} (S : SR K cl F A ro σ H) (hp : H p = none) : SR K cl F A ro σ (upd H p ob) ∧ Stp F H A F (upd H p ob) A ∧ F p = none ∧ ¬ A p := by
  have fp : F p = none := by
    cases e : F p with
    | none => rfl
    | some u => rw [S.sub p u e] at hp; cases hp
  have nA : ∀ a, A a → a ≠ p := fun a q z => by subst z; exact (S.rs.own _ q).2 hp
  exact ⟨⟨S.rs.frame (.refl _) (fun a q => by rw [upd_ne (nA a q)]) (fun a q => (S.rs.own a q).1), S.sub.trans (Sub.new hp)⟩, ⟨.refl _, fun a o e _ => Sub.new hp a o e, fun a q => .inl q, fun a q => .inl q⟩, fp, fun q => nA p q rfl⟩
end
end Lw

set_option maxRecDepth 100000
/-! Lw2: the compact syntax and its evaluator, over plain data. -/
namespace Lw
open PySem L2

/-! ### outcomes -/
/-- an exception: its class, its fields -/
structure Exn where
  cls : Str
inductive Out (α : Type) where
  | ok (a : α) (ro : Ro)
  | exc (x : Exn) (ro : Ro)
  | stuck
namespace Out
def bind {α β : Type} : Out α → (α → Ro → Out β) → Out β
  | ok a ro, f => f a ro
  | exc x ro, _ => exc x ro
  | stuck, _ => stuck
@[simp] theorem bind_ok {α β : Type} (a : α) (ro : Ro) (f : α → Ro → Out β) : (ok a ro).bind f = f a ro := rfl
@[simp] theorem bind_exc {α β : Type} (x : Exn) (ro : Ro) (f : α → Ro → Out β) : (exc x ro).bind f = exc x ro := rfl
@[simp] theorem bind_stuck {α β : Type} (f : α → Ro → Out β) : (stuck : Out α).bind f = stuck := rfl
/-- no exception may leave -/
def fin {α β : Type} : Out α → (α → Ro → Out β) → Out β
  | ok a ro, f => f a ro
  | _, _ => stuck
def ofOpt {α : Type} : Option α → Ro → Out α
  | some a, ro => ok a ro
  | none, _ => stuck
@[simp] theorem ofOpt_some {α : Type} (a : α) (ro : Ro) : ofOpt (some a) ro = ok a ro := rfl
@[simp] theorem ofOpt_none {α : Type} (ro : Ro) : ofOpt (none : Option α) ro = stuck := rfl
end Out
/-- a call's outcome: the value, and what the parameters hold then -/
inductive FOut where
  | ok (o : O) (back : List (Option O))
  | exc (x : Exn) (back : List (Option O))
  | stuck
/-- a step within an owned tree -/
inductive Sel where
  | f (n : Str)
  | i (k : Nat)
  | k (x : PyData)
/-- a value on the way: a thing of its own, or what stands in a slot (within its tree) -/
inductive Hd where
  | tm (x : O)
  | sl (i : Nat) (p : List Sel)

/-! ### operations on data -/
def lenOk (n : Nat) : Bool := decide (n ≤ 16777216)
def mulOk (i j : Int) : Bool := decide (i.natAbs.log2 + j.natAbs.log2 < 1000000)
def binO : Operator → PyData → PyData → Option O
  | .Add, .int i, .int j => some (.d (.int (i + j)))
  | .Sub, .int i, .int j => some (.d (.int (i - j)))
  | .Mult, .int i, .int j => if mulOk i j then some (.d (.int (i * j))) else none
  | .FloorDiv, .int i, .int j => if 0 < j ∧ j.natAbs.log2 < 9000 then some (.d (.int (i / j))) else none
  | .Mod, .int i, .int j => if 0 < j then some (.d (.int (i % j))) else none
  | .Pow, .int i, .int j => if 0 ≤ j ∧ j ≤ 1000000 ∧ i.natAbs < 2 ^ 64 then some (.d (.int (i ^ j.toNat))) else none
  | .Add, .tuple xs, .tuple ys => if lenOk (xs.length + ys.length) then some (.d (.tuple (xs ++ ys))) else none
  | .Add, .list xs, .list ys => if lenOk (xs.length + ys.length) then some (.lst ((xs ++ ys).map .d)) else none
  | .Mult, .list xs, .int n => if -(2 ^ 62) ≤ n ∧ n < 2 ^ 62 ∧ lenOk (xs.length * n.toNat) then some (.lst ((List.replicate n.toNat xs).flatten.map .d)) else none
  | .Mult, .tuple xs, .int n => if 2 ≤ n ∧ n ≤ 1000 ∧ xs.length ≤ 1000 ∧ xs ≠ [] then some (.d (.tuple (List.replicate n.toNat xs).flatten)) else none
  | _, _, _ => none
/-- an index from either end -/
def ixD (n : Nat) (i : Int) : Option Nat := if 0 ≤ i then (if i < n then some i.toNat else none) else if -(n : Int) ≤ i then some (i + n).toNat else none
def idxD : PyData → PyData → Option PyData
  | .tuple xs, .int i => (ixD xs.length i).bind fun k => xs[k]?
  | .list xs, .int i => (ixD xs.length i).bind fun k => xs[k]?
  | _, _ => none
def cutD (n d : Nat) : Option Int → Nat
  | none => d
  | some v => if v < 0 then (v + (n : Int)).toNat else min v.toNat n
def sliceD (xs : List PyData) (lo hi : Option Int) : List PyData := (xs.drop (cutD xs.length 0 lo)).take (cutD xs.length xs.length hi - cutD xs.length 0 lo)
def eqD (a b : PyData) : Option Bool := match a, b with
  | .int i, .int j => some (decide (i = j))
  | .str x, .str y => some (decide (x = y))
  | _, _ => if SeqAt.shaped a && SeqAt.shaped b then some (PyData.eqv a b) else none
def intsD : List PyData → Option (List Int)
  | [] => some []
  | .int i :: xs => match intsD xs with
    | some is => some (i :: is)
    | none => none
  | _ :: _ => none
def boolsD : List PyData → Option (List Bool)
  | [] => some []
  | .bool i :: xs => match boolsD xs with
    | some is => some (i :: is)
    | none => none
  | _ :: _ => none
def notNone : PyData → Bool
  | .none => false
  | _ => true
/-- data that the order of the model tells apart -/
def ordOk (a b : PyData) : Bool := PySem.W.alike a b && notNone a && decide (a.depth ≤ 60)
def ltD : PyData → PyData → Option Bool
  | .int i, .int j => some (decide (i < j))
  | a, b => if ordOk a b then some (PySem.W.dataLt a b) else none
def leD : PyData → PyData → Option Bool
  | .int i, .int j => some (decide (i ≤ j))
  | a, b => if ordOk a b then some (!PySem.W.dataLt b a) else none
def itemsD : PyData → Option (List PyData)
  | .list xs => some xs
  | .tuple xs => some xs
  | _ => none
def inD (x : PyData) : PyData → Option Bool
  | .list ys => if SeqAt.shaped x && SeqAt.shaped (.list ys) then some (ys.any fun z => PyData.eqv z x) else none
  | .tuple ys => if SeqAt.shaped x && SeqAt.shaped (.tuple ys) then some (ys.any fun z => PyData.eqv z x) else none
  | _ => none
def gtD : PyData → PyData → Option Bool
  | .int i, .int j => some (decide (j < i))
  | a, b => if ordOk a b then some (PySem.W.dataLt b a) else none
def geD : PyData → PyData → Option Bool
  | .int i, .int j => some (decide (j ≤ i))
  | a, b => if ordOk a b then some (!PySem.W.dataLt a b) else none
def cmpD : CmpOp → PyData → PyData → Option Bool
  | .Eq, a, b => eqD a b
  | .NotEq, a, b => (eqD a b).map (!·)
  | .Lt, a, b => ltD a b
  | .LtE, a, b => leD a b
  | .Gt, a, b => gtD a b
  | .GtE, a, b => geD a b
  | .In, a, b => inD a b
  | .NotIn, a, b => (inD a b).map (!·)
  | .Is, a, .none => some (!notNone a)
  | .IsNot, a, .none => some (notNone a)
  | _, _, _ => none
/-- built-in classes, for isinstance -/
inductive Tn where
  | int | bool | str | tuple | list
  deriving DecidableEq
def Tn.s : Tn → String
  | .int => "int"
  | .bool => "bool"
  | .str => "str"
  | .tuple => "tuple"
  | .list => "list"
def isiD : Tn → PyData → Option Bool
  | .int, .int _ => some true
  | .int, .bool _ => some true
  | .bool, .bool _ => some true
  | .str, .str _ => some true
  | .tuple, .tuple _ => some true
  | .list, .list _ => some true
  | _, _ => some false
/-- built-in functions -/
inductive Pr where
  | len | int | abs | max | min | sum | all | any | tuple | list | sorted
  deriving DecidableEq
/-- methods of lists -/
inductive Mt where
  | append | extend | pop
  deriving DecidableEq
def Mt.nm : Mt → Str
  | .append => "append" | .extend => "extend" | .pop => "pop"
/-! ### the syntax -/
inductive CE where
  | var (i : Nat)
  | int (n : Int) | bl (b : Bool) | non | str (s : Str)
  | glob (x : Str)
  | bin (op : Operator) (a b : CE)
  | neg (a : CE)
  | not (a : CE)
  | and (a b : CE) | or (a b : CE) | one (a : CE)
  | cmp (op : CmpOp) (a b : CE)
  | chain (o1 o2 : CmpOp) (a b c : CE)
  | ifx (c a b : CE)
  | tup (as : CE) | lst (as : CE)
  | idx (a i : CE)
  | slc (a lo hi : CE)
  | call (f : Nat) (as : CE)
  | prim (p : Pr) (as : CE)
  | isi (a : CE) (T : Tn)
  | mth (m : Mt) (o as : CE)
  | comp (q : Bool) (own : List (Str × Nat)) (elt tg it ifs : CE)
  | seq (e : CE) | rng (as : CE) | enum (as : CE) | zip (as : CE)
  | share (i : Nat) (e : CE)
  | rgl (t : Bool) (a b : CE)
  | rev (a : CE)
  | sset (a : CE)
  | nox (a : CE)
  | bad
  | nil | cons (a as : CE)

/-- the static surroundings of a body -/
structure CC where
  N : List Str
  sc : Scope
  fns : List Str
  blt : List Str
  gls : List Str
  calm : Bool
  fnB : Option (List (Str × NameKind))
  exs : List Str
  fx : List Nat
structure GE where
  call : Nat → List O → FOut
  glob : Str → Option PyData
  wf : Nat
  exm : Str → Str → Option Bool

/-! ### reading handles -/
mutual
def O.flat : O → Option PyData
  | .d x => some x
  | .lst os => (O.flats os).map .list
  | _ => none
def O.flats : List O → Option (List PyData)
  | [] => some []
  | .d x :: os => match O.flats os with
    | some xs => some (x :: xs)
    | none => none
  | _ :: _ => none
end
/-- a slice of data (or of the script) -/
def sliceO (x : O) (lo hi : Option Int) : Option O := match x with
  | .d (.tuple xs) => some (.d (.tuple (sliceD xs lo hi)))
  | .scr ns => some (.lst ((sliceD (ns.map .int) lo hi).map .d))
  | x => match x.flat with
    | some (.list xs) => some (.lst ((sliceD xs lo hi).map .d))
    | _ => none
/-- by names -/
def getN : List Str → List O → Str → Option O
  | n :: ns, o :: os, m => if n = m then some o else getN ns os m
  | _, _, _ => none
def O.sel : O → Sel → Option O
  | .lst os, .i k => os[k]?
  | .ins _ ns os, .f n => getN ns os n
  | _, _ => none
def O.walk : List Sel → O → Option O
  | [], o => some o
  | s :: p, o => match o.sel s with
    | some o => O.walk p o
    | none => none
/-- within a tree -/
def Hd.deep : Hd → Bool
  | .sl _ (_ :: _) => true
  | _ => false
def Hd.look (ro : Ro) : Hd → Option O
  | .tm x => some x
  | .sl i p => match ro[i]? with
    | some (some o) => O.walk p o
    | _ => none
/-- as data, for operations that keep no part of it -/
def Hd.lookD (ro : Ro) (h : Hd) : Option PyData := (h.look ro).bind O.toD
/-- as data whose items are frozen -/
def Hd.lookF (ro : Ro) (h : Hd) : Option PyData := (h.look ro).bind O.flat
/-- an operand: a thing of its own is frozen -/
def Hd.opd (ro : Ro) : Hd → Option PyData
  | .tm o => o.toD
  | .sl i p => Hd.lookF ro (.sl i p)
/-- as frozen data (a slot's tree is frozen for good) -/
def Hd.esc (h : Hd) (ro : Ro) : Out PyData := match h with
  | .tm x => .ofOpt x.toD ro
  | .sl i [] => match ro[i]? with
    | some (some (.d x)) => .ok x ro
    | some (some o) => match o.toD with
      | some x => .ok x (ro.set i (some (.d x)))
      | none => .stuck
    | _ => .stuck
  | .sl _ _ => .stuck
/-- to be stored: a thing of its own stays one -/
def Hd.sto (h : Hd) (ro : Ro) : Out O := match h with
  | .tm x => .ok x ro
  | .sl i p => (Hd.esc (.sl i p) ro).bind fun x ro => .ok (.d x) ro
def Hd.bool (ro : Ro) (h : Hd) : Option Bool := match h.lookD ro with
  | some (.bool b) => some b
  | _ => none
def escs : List Hd → Ro → Out (List PyData)
  | [], ro => .ok [] ro
  | h :: hs, ro => (h.esc ro).bind fun x ro => (escs hs ro).bind fun xs ro => .ok (x :: xs) ro
/-- an argument: frozen data, or the script -/
def Hd.arg (h : Hd) (ro : Ro) : Out O := match h.look ro with
  | some (.scr ns) => .ok (.scr ns) ro
  | _ => (h.esc ro).bind fun x ro => .ok (.d x) ro
def argsO : List Hd → Ro → Out (List O)
  | [], ro => .ok [] ro
  | h :: hs, ro => (h.arg ro).bind fun x ro => (argsO hs ro).bind fun xs ro => .ok (x :: xs) ro
def stos : List Hd → Ro → Out (List O)
  | [], ro => .ok [] ro
  | h :: hs, ro => (h.sto ro).bind fun x ro => (stos hs ro).bind fun xs ro => .ok (x :: xs) ro
def looksD (ro : Ro) : List Hd → Option (List PyData)
  | [] => some []
  | h :: hs => match h.lookD ro, looksD ro hs with
    | some x, some xs => some (x :: xs)
    | _, _ => none
/-- a slice's part -/
def partD (ro : Ro) (hs : List Hd) : Option (Option Int) := match looksD ro hs with
  | some [] => some none
  | some [.int i] => some (some i)
  | _ => none
/-- scalars, lists of scalars -/
def scalD : PyData → Bool
  | .none => true
  | .bool _ => true
  | .int _ => true
  | .str _ => true
  | _ => false
def flatO : O → Bool
  | .d x => scalD x
  | .lst os => os.all fun o => match o with
    | .d x => scalD x
    | _ => false
  | _ => false
def looksF (ro : Ro) : List Hd → Option (List PyData)
  | [] => some []
  | h :: hs => match h.lookF ro, looksF ro hs with
    | some x, some xs => some (x :: xs)
    | _, _ => none
mutual
def asgT : CE → PyData → Ro → Option Ro
  | .var i, x, ro => some (ro.set i (some (.d x)))
  | .tup ts, .tuple xs, ro => asgTs ts xs ro
  | _, _, _ => none
def asgTs : CE → List PyData → Ro → Option Ro
  | .nil, [], ro => some ro
  | .cons t ts, x :: xs, ro => match asgT t x ro with
    | some ro => asgTs ts xs ro
    | none => none
  | _, _, _ => none
end
/-! ### built-in functions -/
def rangeD (lo hi : Int) : List PyData := (List.range (hi - lo).toNat).map fun (k : Nat) => PyData.int (lo + (k : Int))
def allAlike (xs : List PyData) : Bool := (xs.all fun a => xs.all fun b => PySem.W.alike a b) && xs.all notNone && decide (PyData.depthAll xs ≤ 60)
def notTup : PyData → Bool
  | .tuple _ => false
  | _ => true
def fullTup : PyData → Bool
  | .tuple (_ :: _) => true
  | _ => false
def insD (x : PyData) : List PyData → List PyData
  | [] => [x]
  | y :: ys => if PySem.W.dataLt y x then y :: insD x ys else x :: y :: ys
def insSort : List PyData → List PyData
  | [] => []
  | x :: xs => insD x (insSort xs)
def sortD (xs : List PyData) : Option (List PyData) := if allAlike xs && (xs.all fullTup || xs.all notTup) && lenOk xs.length then some (insSort xs) else none
/-- tuples of ints -/
def tupsD : List PyData → Option (List (List Int))
  | [] => some []
  | .tuple xs :: ys => match intsD xs, tupsD ys with
    | some a, some b => some (a :: b)
    | _, _ => none
  | _ :: _ => none
def dedupL : List (List Int) → List (List Int)
  | [] => []
  | k :: ks => if ks.contains k then dedupL ks else k :: dedupL ks
/-- sorted(set(xs)), xs less than 64 tuples of ints of one length, none below 0 -/
def ssetD (xs : List PyData) : Option (List PyData) := match tupsD xs with
  | some ks => if ks.length < 64 ∧ (ks.all fun k => decide (1 ≤ k.length ∧ k.length = (ks.headD []).length) && k.all fun n => decide (0 ≤ n)) then some (insSort ((dedupL ks).map fun k => .tuple (k.map .int))) else none
  | none => none
/-- built-in functions that keep no part of their arguments but frozen items -/
def lenO : List PyData → Option O
  | [.list xs] => some (.d (.int xs.length))
  | [.tuple xs] => some (.d (.int xs.length))
  | _ => none
def intO : List PyData → Option O
  | [.int i] => some (.d (.int i))
  | [.bool b] => some (.d (.int (if b then 1 else 0)))
  | _ => none
def absO : List PyData → Option O
  | [.int i] => some (.d (.int (if i < 0 then -i else i)))
  | _ => none
def maxO : List PyData → Option O
  | [.int i, .int j] => some (.d (.int (if j > i then j else i)))
  | [.list (x :: xs)] => if allAlike (x :: xs) then some (.d (PySem.W.maxD x xs)) else none
  | [.tuple (x :: xs)] => if allAlike (x :: xs) then some (.d (PySem.W.maxD x xs)) else none
  | _ => none
def minO : List PyData → Option O
  | [.int i, .int j] => some (.d (.int (if j < i then j else i)))
  | [.list (x :: xs)] => if allAlike (x :: xs) then some (.d (PySem.W.minD x xs)) else none
  | [.tuple (x :: xs)] => if allAlike (x :: xs) then some (.d (PySem.W.minD x xs)) else none
  | _ => none
def sumO : List PyData → Option O
  | [.list xs] => (intsD xs).map fun is => .d (.int is.sum)
  | [.tuple xs] => (intsD xs).map fun is => .d (.int is.sum)
  | _ => none
def allO : List PyData → Option O
  | [.list xs] => (boolsD xs).map fun bs => .d (.bool (bs.all id))
  | _ => none
def anyO : List PyData → Option O
  | [.list xs] => (boolsD xs).map fun bs => .d (.bool (bs.any id))
  | _ => none
def tupleO : List PyData → Option O
  | [.list xs] => some (.d (.tuple xs))
  | [.tuple xs] => some (.d (.tuple xs))
  | _ => none
def listO : List PyData → Option O
  | [.list xs] => some (.lst (xs.map .d))
  | [.tuple xs] => some (.lst (xs.map .d))
  | _ => none
def sortedO : List PyData → Option O
  | [.list xs] => (sortD xs).map fun ys => .lst (ys.map .d)
  | _ => none
def primO : Pr → List PyData → Option O
  | .len => lenO
  | .int => intO
  | .abs => absO
  | .max => maxO
  | .min => minO
  | .sum => sumO
  | .all => allO
  | .any => anyO
  | .tuple => tupleO
  | .list => listO
  | .sorted => sortedO

/-! ### trees rewritten -/
/-- by names, one put -/
def setN : List Str → List O → Str → O → List O
  | n :: ns, o :: os, m, x => if n = m then x :: os else o :: setN ns os m x
  | _, os, _, _ => os
def O.put : List Sel → O → O → Option O
  | [], s, _ => some s
  | .i k :: p, s, .lst os => match os[k]? with
    | some o => match O.put p s o with
      | some o' => some (.lst (os.set k o'))
      | none => none
    | none => none
  | .f n :: p, s, .ins C ns os => match getN ns os n with
    | some o => match O.put p s o with
      | some o' => some (.ins C ns (setN ns os n o'))
      | none => none
    | none => none
  | _, _, _ => none
/-- methods of lists: the value, the list then -/
def mthL : Mt → List O → List O → Option (O × List O)
  | .append, os, [x] => if lenOk (os.length + 1) then some (.d .none, os ++ [x]) else none
  | .extend, os, [.lst xs] => if lenOk (os.length + xs.length) then some (.d .none, os ++ xs) else none
  | .extend, os, [.d (.list xs)] => if lenOk (os.length + xs.length) then some (.d .none, os ++ xs.map .d) else none
  | _, _, _ => none
def mthR (m : Mt) (i : Nat) (p : List Sel) (xs : List O) (ro : Ro) : Out Hd := match ro[i]? with
  | some (some t) => match O.walk p t with
    | some (.lst os) => match mthL m os xs with
      | some (r, os') => match O.put p (.lst os') t with
        | some t' => .ok (.tm r) (ro.set i (some t'))
        | none => .stuck
      | none => .stuck
    | _ => .stuck
  | _ => .stuck
def isLst : Option O → Bool
  | some (.lst _) => true
  | _ => false
/-! ### the evaluator -/
/-- the loop of a comprehension: f does one item -/
def cLoop (f : PyData → Ro → Out (Option O)) : List PyData → Ro → Out (List O)
  | [], ro => .ok [] ro
  | x :: xs, ro => (f x ro).bind fun o ro => (cLoop f xs ro).bind fun os ro => .ok (match o with | some o => o :: os | none => os) ro
def wipeR : List (Str × Nat) → Ro → Ro
  | [], ro => ro
  | p :: ps, ro => (wipeR ps ro).set p.2 none
def unwipe (old : Ro) : List (Str × Nat) → Ro → Ro
  | [], ro => ro
  | p :: ps, ro => unwipe old ps (ro.set p.2 (old[p.2]?.join))
/-- a comprehension's end: its own slots as they were -/
def cEnd (ro0 : Ro) (own : List (Str × Nat)) (r : Out (List O)) : Out Hd := match r with
  | .ok os ro => .ok (.tm (.lst os)) (unwipe ro0 own (wipeR own ro))
  | .exc x ro => .exc x (unwipe ro0 own (wipeR own ro))
  | .stuck => .stuck
def isNil : CE → Bool
  | .nil => true
  | _ => false
/-- a comprehension's own slots hold no owned tree -/
def quietOwn (ro : Ro) : List (Str × Nat) → Bool
  | [] => true
  | p :: ps => (match ro[p.2]? with
    | some none => true
    | some (some (.d _)) => true
    | _ => false) && quietOwn ro ps
/-- enumerate -/
def enumD (xs : List PyData) : List PyData := List.zipWith (fun (k : Nat) a => .tuple [.int (k : Int), a]) (List.range xs.length) xs
/-- zip -/
def zipD (xs ys : List PyData) : List PyData := List.zipWith (fun a b => .tuple [a, b]) xs ys
/-- tuple(range(i, j)), list(range(i, j)) -/
def rglO (t : Bool) (i j : Int) : Option Hd := if -(2 ^ 62) ≤ i ∧ i < 2 ^ 62 ∧ -(2 ^ 62) ≤ j ∧ j < 2 ^ 62 ∧ (j - i).toNat ≤ 2 ^ 24 then some (.tm (if t then .d (.tuple (rangeD i j)) else .lst ((rangeD i j).map .d))) else none
/-- what changes no owned tree -/
def qt : CE → Bool
  | .bin _ a b => qt a && qt b
  | .neg a => qt a
  | .not a => qt a
  | .and a b => qt a && qt b
  | .or a b => qt a && qt b
  | .one a => qt a
  | .cmp _ a b => qt a && qt b
  | .chain _ _ a b c => qt a && qt b && qt c
  | .ifx c a b => qt c && qt a && qt b
  | .tup as => qt as
  | .lst as => qt as
  | .idx a i => qt a && qt i
  | .slc a lo hi => qt a && qt lo && qt hi
  | .call _ as => qt as
  | .prim _ as => qt as
  | .isi a _ => qt a
  | .comp _ _ elt _ it ifs => qt elt && qt it && qt ifs
  | .seq e => qt e
  | .rng as => qt as
  | .enum as => qt as
  | .zip as => qt as
  | .cons a as => qt a && qt as
  | .mth _ _ _ => false
  | .share _ e => qt e
  | .rgl _ a b => qt a && qt b
  | .rev a => qt a
  | .sset a => qt a
  | .nox a => qt a
  | _ => true
/-- a value within a tree may wait for quiet code alone -/
def okD (h : Hd) (b : CE) : Bool := !h.deep || qt b
mutual
def ev (G : GE) : CE → Ro → Out Hd
  | .var i, ro => match ro[i]? with
    | some (some _) => .ok (.sl i []) ro
    | _ => .stuck
  | .int n, ro => .ok (.tm (.d (.int n))) ro
  | .bl b, ro => .ok (.tm (.d (.bool b))) ro
  | .non, ro => .ok (.tm (.d .none)) ro
  | .str s, ro => .ok (.tm (.d (.str s))) ro
  | .glob x, ro => match G.glob x with
    | some d => .ok (.tm (.d d)) ro
    | none => .stuck
  | .bin op a b, ro => (ev G a ro).bind fun h1 ro => if okD h1 b then (ev G b ro).bind fun h2 ro => match h1.opd ro, h2.opd ro with
    | some x, some y => .ofOpt ((binO op x y).map .tm) ro
    | _, _ => .stuck
    else .stuck
  | .neg a, ro => (ev G a ro).bind fun h ro => match h.lookD ro with
    | some (.int i) => .ok (.tm (.d (.int (-i)))) ro
    | _ => .stuck
  | .not a, ro => (ev G a ro).bind fun h ro => match h.bool ro with
    | some b => .ok (.tm (.d (.bool (!b)))) ro
    | none => .stuck
  | .and a b, ro => (ev G a ro).bind fun h ro => match h.bool ro with
    | some true => ev G b ro
    | some false => .ok (.tm (.d (.bool false))) ro
    | none => .stuck
  | .or a b, ro => (ev G a ro).bind fun h ro => match h.bool ro with
    | some false => ev G b ro
    | some true => .ok (.tm (.d (.bool true))) ro
    | none => .stuck
  | .one a, ro => ev G a ro
  | .cmp op a b, ro => (ev G a ro).bind fun h1 ro => if okD h1 b then (ev G b ro).bind fun h2 ro => match h1.lookD ro, h2.lookD ro with
    | some x, some y => .ofOpt ((cmpD op x y).map fun b => .tm (.d (.bool b))) ro
    | _, _ => .stuck
    else .stuck
  | .chain o1 o2 a b c, ro => (ev G a ro).bind fun h1 ro => if okD h1 b then (ev G b ro).bind fun h2 ro => match h1.lookD ro, h2.lookD ro with
    | some x, some y => match cmpD o1 x y with
      | some true => if okD h2 c then (ev G c ro).bind fun h3 ro => match h2.lookD ro, h3.lookD ro with
        | some y, some z => .ofOpt ((cmpD o2 y z).map fun b => .tm (.d (.bool b))) ro
        | _, _ => .stuck
        else .stuck
      | some false => .ok (.tm (.d (.bool false))) ro
      | none => .stuck
    | _, _ => .stuck
    else .stuck
  | .ifx c a b, ro => (ev G c ro).bind fun h ro => match h.bool ro with
    | some true => ev G a ro
    | some false => ev G b ro
    | none => .stuck
  | .tup as, ro => (evs G as ro).bind fun hs ro => (escs hs ro).bind fun xs ro => if lenOk xs.length then .ok (.tm (.d (.tuple xs))) ro else .stuck
  | .lst as, ro => (evs G as ro).bind fun hs ro => (stos hs ro).bind fun os ro => if lenOk os.length then .ok (.tm (.lst os)) ro else .stuck
  | .idx a i, ro => (ev G a ro).bind fun h1 ro => if okD h1 i then (ev G i ro).bind fun h2 ro => match h1.lookF ro, h2.lookD ro with
    | some x, some y => .ofOpt ((idxD x y).map fun z => .tm (.d z)) ro
    | _, _ => .stuck
    else .stuck
  | .slc a lo hi, ro => (ev G a ro).bind fun h1 ro => if okD h1 lo && okD h1 hi then (evs G lo ro).bind fun l ro => match partD ro l with
    | some l => (evs G hi ro).bind fun u ro => match h1.look ro, partD ro u with
      | some x, some u => .ofOpt ((sliceO x l u).map .tm) ro
      | _, _ => .stuck
    | none => .stuck
    else .stuck
  | .call f as, ro => (evs G as ro).bind fun hs ro => (argsO hs ro).bind fun xs ro => match G.call f xs with
    | .ok o _ => .ok (.tm o) ro
    | .exc x _ => .exc x ro
    | .stuck => .stuck
  | .prim p as, ro => (evs G as ro).bind fun hs ro => match looksF ro hs with
    | some xs => .ofOpt ((primO p xs).map .tm) ro
    | none => .stuck
  | .isi a T, ro => (ev G a ro).bind fun h ro => match h.lookD ro with
    | some x => .ofOpt ((isiD T x).map fun b => .tm (.d (.bool b))) ro
    | none => .stuck
  | .comp q own elt tg it ifs, ro => (evI G (!q) it ro).bind fun xs ro0 =>
      if quietOwn ro0 own && (!q || (qt elt && qt ifs)) && lenOk xs.length then
        cEnd ro0 own (cLoop (fun x ro => match asgT tg x (wipeR own ro) with
          | some ro => (evB G ifs ro).bind fun b ro => if b then (ev G elt ro).bind fun h ro => (h.sto ro).bind fun o ro => .ok (some o) (wipeR own ro) else .ok none (wipeR own ro)
          | none => .stuck) xs ro0)
      else .stuck
  | .mth m o as, ro => (ev G o ro).bind fun h ro => match h with
    | .sl i p => if isLst (Hd.look ro (.sl i p)) && okD (.sl i p) as then (evs G as ro).bind fun hs ro => (stos hs ro).bind fun xs ro => mthR m i p xs ro else .stuck
    | _ => .stuck
  | .share i e, ro => match ro[i]? with
    | some (some o) => match o.toD with
      | some x => if qt e then (ev G e (ro.set i (some (.d x)))).fin fun h _ => match h with
        | .tm o => if flatO o then .ok (.tm o) ro else .stuck
        | _ => .stuck
        else .stuck
      | none => .stuck
    | _ => .stuck
  | .sset a, ro => (ev G a ro).bind fun h ro => match h.lookF ro with
    | some (.list xs) => .ofOpt ((ssetD xs).map fun ys => .tm (.lst (ys.map .d))) ro
    | _ => .stuck
  | .bad, _ => .stuck
  | .nox a, ro => match ev G a ro with
    | .exc _ _ => .stuck
    | r => r
  | .rev a, ro => (ev G a ro).bind fun h ro => match h.lookF ro with
    | some (.tuple xs) => .ok (.tm (.d (.tuple xs.reverse))) ro
    | some (.list xs) => .ok (.tm (.lst (xs.reverse.map .d))) ro
    | _ => .stuck
  | .rgl t a b, ro => if isNil b then (ev G a ro).bind fun h1 ro => match h1.lookD ro with
      | some (.int n) => .ofOpt (rglO t 0 n) ro
      | _ => .stuck
    else (ev G a ro).bind fun h1 ro => if okD h1 b then (ev G b ro).bind fun h2 ro => match h1.lookD ro, h2.lookD ro with
      | some (.int i), some (.int j) => .ofOpt (rglO t i j) ro
      | _, _ => .stuck
      else .stuck
  | .nil, _ => .stuck
  | .cons _ _, _ => .stuck
  | .seq _, _ => .stuck
  | .rng _, _ => .stuck
  | .enum _, _ => .stuck
  | .zip _, _ => .stuck
def evs (G : GE) : CE → Ro → Out (List Hd)
  | .nil, ro => .ok [] ro
  | .cons a as, ro => (ev G a ro).bind fun h ro => if okD h as then (evs G as ro).bind fun hs ro => .ok (h :: hs) ro else .stuck
  | _, _ => .stuck
/-- the tests of a comprehension's clause: none, or one -/
def evB (G : GE) : CE → Ro → Out Bool
  | .nil, ro => .ok true ro
  | .cons a .nil, ro => (ev G a ro).bind fun h ro => .ofOpt (h.bool ro) ro
  | _, _ => .stuck
/-- what a loop walks; z: what is walked is frozen for good -/
def evI (G : GE) (z : Bool) : CE → Ro → Out (List PyData)
  | .rng as, ro => (evs G as ro).bind fun hs ro => match looksD ro hs with
    | some [.int n] => if -(2 ^ 62) ≤ n ∧ n < 2 ^ 62 then .ok (rangeD 0 n) ro else .stuck
    | some [.int m, .int n] => if -(2 ^ 62) ≤ m ∧ m < 2 ^ 62 ∧ -(2 ^ 62) ≤ n ∧ n < 2 ^ 62 then .ok (rangeD m n) ro else .stuck
    | _ => .stuck
  | .seq e, ro => (ev G e ro).bind fun h ro => if z then (h.esc ro).bind fun x ro => .ofOpt (itemsD x) ro else .ofOpt ((h.lookF ro).bind itemsD) ro
  | .enum as, ro => (evs G as ro).bind fun hs ro => (if z then escs hs ro else .ofOpt (looksF ro hs) ro).bind fun xs ro => match xs with
    | [x] => .ofOpt ((itemsD x).map enumD) ro
    | _ => .stuck
  | .zip as, ro => (evs G as ro).bind fun hs ro => (if z then escs hs ro else .ofOpt (looksF ro hs) ro).bind fun xs ro => match xs with
    | [x, y] => match itemsD x, itemsD y with
      | some xs, some ys => .ok (zipD xs ys) ro
      | _, _ => .stuck
    | _ => .stuck
  | _, _ => .stuck
end
end Lw
namespace Lw
open PySem L2
example : (match ev ⟨fun _ _ => .stuck, fun _ => none, 0, fun _ _ => none⟩ (.prim .sum (.cons (.comp true [("x", 1)] (.bin .Mult (.var 1) (.int 3)) (.var 1) (.rng (.cons (.int 5) .nil)) .nil) .nil)) [none, none] with | .ok (.tm (.d (.int i))) _ => i | _ => 0) = 30 := by decide +kernel
end Lw

set_option maxRecDepth 100000
set_option maxHeartbeats 1000000
/-! Lw3: what the operations of the model do with data that stand in a heap. -/
namespace Lw
open PySem L2

/-- data whose items are frozen in F; a list itself stands in H -/
def FV (K : PySem.W.Frag) (F H : Hp) (v : V) : PyData → Prop
  | .list xs => ∃ p vs, v = .ref p ∧ H p = some (.lst vs) ∧ DqAll K F vs xs
  | x => Dq K F v x
/-- a result: a scalar, an old tuple, a new tuple, a new list -/
def Res (K : PySem.W.Frag) (F H : Hp) : O → V → Hp → Prop
  | .d (.tuple xs), v, H' => (H' = H ∧ Dq K F v (.tuple xs)) ∨ ∃ p vs, v = .ref p ∧ H p = none ∧ H' = upd H p (.tup vs) ∧ DqAll K F vs xs
  | .d x, v, H' => H' = H ∧ Dq K F v x
  | .lst os, v, H' => ∃ p vs xs, os = xs.map O.d ∧ v = .ref p ∧ H p = none ∧ H' = upd H p (.lst vs) ∧ DqAll K F vs xs
  | _, _, _ => False
section
variable {K : PySem.W.Frag} {F H : Hp}
theorem FV.dq {v : V} {x : PyData} (s : Sub F H) (h : FV K F H v x) : Dq K H v x := by
  cases x with
  | list xs =>
    obtain ⟨p, vs, rfl, h1, h2⟩ := h
    exact .lst h1 (Dq.monoAll s _ _ h2)
  | none => exact Dq.mono s _ _ h
  | bool b => exact Dq.mono s _ _ h
  | int b => exact Dq.mono s _ _ h
  | str b => exact Dq.mono s _ _ h
  | tuple b => exact Dq.mono s _ _ h
  | dict b => exact Dq.mono s _ _ h
theorem Dq.fv {v : V} {x : PyData} (s : Sub F H) (h : Dq K F v x) : FV K F H v x := by
  cases x with
  | list xs =>
    cases h with
    | lst h1 h2 => exact ⟨_, _, rfl, s _ _ h1, h2⟩
  | none => exact h
  | bool b => exact h
  | int b => exact h
  | str b => exact h
  | tuple b => exact h
  | dict b => exact h
theorem Dq.int_eq {v : V} {i : Int} (h : Dq K F v (.int i)) : v = .int i := by cases h; rfl
theorem Dq.bool_eq {v : V} {i : Bool} (h : Dq K F v (.bool i)) : v = .bl i := by cases h; rfl
theorem Dq.str_eq {v : V} {i : Str} (h : Dq K F v (.str i)) : v = .str i := by cases h; rfl
theorem Dq.non_eq {v : V} (h : Dq K F v .none) : v = .non := by cases h; rfl
theorem Dq.tup_eq {v : V} {xs : List PyData} (h : Dq K F v (.tuple xs)) : ∃ a vs, v = .ref a ∧ SqT K F a vs ∧ DqAll K F vs xs := by
  cases h with
  | tup h1 h2 => exact ⟨_, _, rfl, h1, h2⟩
theorem Dq.lst_eq {v : V} {xs : List PyData} (h : Dq K F v (.list xs)) : ∃ a vs, v = .ref a ∧ F a = some (.lst vs) ∧ DqAll K F vs xs := by
  cases h with
  | lst h1 h2 => exact ⟨_, _, rfl, h1, h2⟩
theorem DqAll.ints : ∀ {vs : List V} {xs : List PyData} {is : List Int}, DqAll K F vs xs → intsD xs = some is → vs = is.map V.int
  | _, _, _, .nil, e => by rw [intsD] at e; cases e; rfl
  | _, _, is, .cons (d := d) (ds := ds) h t, e => by
    cases d with
    | int i =>
      rw [intsD] at e
      cases q : intsD ds with
      | none => rw [q] at e; cases e
      | some js =>
        rw [q] at e
        cases e
        rw [h.int_eq, DqAll.ints t q]
        rfl
    | none => rw [intsD] at e; cases e; intro i z; cases z
    | bool _ => rw [intsD] at e; cases e; intro i z; cases z
    | str _ => rw [intsD] at e; cases e; intro i z; cases z
    | list _ => rw [intsD] at e; cases e; intro i z; cases z
    | tuple _ => rw [intsD] at e; cases e; intro i z; cases z
    | dict _ => rw [intsD] at e; cases e; intro i z; cases z
theorem DqAll.bools : ∀ {vs : List V} {xs : List PyData} {is : List Bool}, DqAll K F vs xs → boolsD xs = some is → vs = is.map V.bl
  | _, _, _, .nil, e => by rw [boolsD] at e; cases e; rfl
  | _, _, is, .cons (d := d) (ds := ds) h t, e => by
    cases d with
    | bool i =>
      rw [boolsD] at e
      cases q : boolsD ds with
      | none => rw [q] at e; cases e
      | some js =>
        rw [q] at e
        cases e
        rw [h.bool_eq, DqAll.bools t q]
        rfl
    | none => rw [boolsD] at e; cases e; intro i z; cases z
    | int _ => rw [boolsD] at e; cases e; intro i z; cases z
    | str _ => rw [boolsD] at e; cases e; intro i z; cases z
    | list _ => rw [boolsD] at e; cases e; intro i z; cases z
    | tuple _ => rw [boolsD] at e; cases e; intro i z; cases z
    | dict _ => rw [boolsD] at e; cases e; intro i z; cases z
end

theorem lenOk_le {n : Nat} (h : lenOk n = true) : n ≤ sizeLine := by
  rw [sizeLine_eq]; exact of_decide_eq_true h

section
variable {X : Cx}
/-! ### operators -/
def rBin (K : PySem.W.Frag) (op : Operator) : R2 := fun x y H Q => ∃ F d e o, Sub F H ∧ FV K F H x d ∧ FV K F H y e ∧ binO op d e = some o ∧ ∀ v H', Res K F H o v H' → Q v H'
theorem op_bin (op : Operator) : OpR X (binaryOp op) (rBin X.K op) := by
  intro pins s σ H x y v u Q I rx ry h
  obtain ⟨F, d, e, o, hs, hx, hy, ho, q⟩ := h
  unfold binO at ho
  split at ho
  · -- int + int
    cases ho
    obtain rfl := Dq.int_eq hx
    obtain rfl := Dq.int_eq hy
    exact op_add pins s σ H _ _ v u Q I rx ry ⟨_, _, rfl, rfl, q _ _ ⟨rfl, .int _⟩⟩
  · cases ho
    obtain rfl := Dq.int_eq hx
    obtain rfl := Dq.int_eq hy
    exact op_sub pins s σ H _ _ v u Q I rx ry ⟨_, _, rfl, rfl, q _ _ ⟨rfl, .int _⟩⟩
  · split at ho
    · rename_i hm
      cases ho
      obtain rfl := Dq.int_eq hx
      obtain rfl := Dq.int_eq hy
      exact op_mulW pins s σ H _ _ v u Q I rx ry ⟨_, _, rfl, rfl, (by unfold CMulW; exact of_decide_eq_true hm), q _ _ ⟨rfl, .int _⟩⟩
    · cases ho
  · split at ho
    · rename_i hm
      cases ho
      obtain rfl := Dq.int_eq hx
      obtain rfl := Dq.int_eq hy
      exact op_fdivW pins s σ H _ _ v u Q I rx ry ⟨_, _, rfl, rfl, hm, q _ _ ⟨rfl, .int _⟩⟩
    · cases ho
  · split at ho
    · rename_i hm
      cases ho
      obtain rfl := Dq.int_eq hx
      obtain rfl := Dq.int_eq hy
      exact op_mod pins s σ H _ _ v u Q I rx ry ⟨_, _, rfl, rfl, hm, q _ _ ⟨rfl, .int _⟩⟩
    · cases ho
  · split at ho
    · rename_i hm
      cases ho
      obtain rfl := Dq.int_eq hx
      obtain rfl := Dq.int_eq hy
      exact op_pow pins s σ H _ _ v u Q I rx ry ⟨_, _, rfl, rfl, hm, q _ _ ⟨rfl, .int _⟩⟩
    · cases ho
  · -- tuple + tuple
    split at ho
    · rename_i xs ys hm
      cases ho
      obtain ⟨a, vs, rfl, h1, h2⟩ := Dq.tup_eq hx
      obtain ⟨b, ws, rfl, h3, h4⟩ := Dq.tup_eq hy
      refine op_catA pins s σ H _ _ v u Q I rx ry ⟨_, _, _, _, rfl, rfl, hs.sqT h1, hs.sqT h3, by rw [h2.len, h4.len]; exact lenOk_le hm, fun e => ?_, fun n e => ?_, fun n m p hp => ?_⟩
      · subst e
        cases h2
        exact q _ _ (.inl ⟨rfl, hy⟩)
      · subst e
        cases h4
        refine q _ _ (.inl ⟨rfl, ?_⟩)
        rw [List.append_nil]
        exact hx
      · exact q _ _ (.inr ⟨p, _, rfl, hp, rfl, h2.append h4⟩)
    · cases ho
  · -- list + list
    split at ho
    · rename_i xs ys hm
      cases ho
      obtain ⟨a, vs, rfl, h1, h2⟩ := hx
      obtain ⟨b, ws, rfl, h3, h4⟩ := hy
      exact op_cat pins s σ H _ _ v u Q I rx ry ⟨_, _, _, _, rfl, rfl, h1, h3, by rw [h2.len, h4.len]; exact lenOk_le hm, fun p hp => q _ _ ⟨p, _, _, rfl, rfl, hp, rfl, h2.append h4⟩⟩
    · cases ho
  · -- list * int
    split at ho
    · rename_i xs n hm
      cases ho
      obtain ⟨a, vs, rfl, h1, h2⟩ := hx
      obtain rfl := Dq.int_eq hy
      obtain ⟨m1, m2, m3⟩ := hm
      exact op_rep pins s σ H _ _ v u Q I rx ry ⟨_, _, _, rfl, rfl, h1, by omega, by omega, by rw [h2.len]; exact lenOk_le m3, fun p hp => q _ _ ⟨p, _, _, rfl, rfl, hp, rfl, h2.flat _⟩⟩
    · cases ho
  · -- tuple * int
    split at ho
    · rename_i xs n hm
      cases ho
      obtain ⟨a, vs, rfl, h1, h2⟩ := Dq.tup_eq hx
      obtain rfl := Dq.int_eq hy
      obtain ⟨m1, m2, m3, m4⟩ := hm
      refine op_repT pins s σ H _ _ v u Q I rx ry ⟨_, _, _, rfl, rfl, hs.sqT h1, ?_, m1, m2, by rw [h2.len]; exact m3, fun p hp => q _ _ (.inr ⟨p, _, rfl, hp, rfl, h2.flat _⟩)⟩
      intro e
      subst e
      cases h2
      exact m4 rfl
    · cases ho
  · cases ho

/-! ### comparisons -/
theorem of_map_some {α β : Type} {f : α → β} {o : Option α} {b : β} (h : o.map f = some b) : ∃ a, o = some a ∧ f a = b := by
  cases o with
  | none => cases h
  | some a => exact ⟨a, rfl, Option.some.inj h⟩
def rCmp (K : PySem.W.Frag) (op : CmpOp) : R2 := fun x y H Q => ∃ d e b, Dq K H x d ∧ Dq K H y e ∧ cmpD op d e = some b ∧ Q (.bl b) H
section
variable {pins : List (Addr × Obj)} {s : Shared} {σ : St} {H : Hp} {x y : V} {v u : Value} {Q : VK} {d e : PyData} {b : Bool}
theorem eq_run (hu : X.A.units + 65 < cLine) (I : Inv X pins σ H s) (rx : RelV x v) (ry : RelV y u) (hx : Dq X.K H x d) (hy : Dq X.K H y e) (h : eqD d e = some b) (q : Q (.bl b) H) : wpAny (model X.prog X.w) X.A (compareOp .Eq v u) (EP X pins σ Q) X.xe s := by
  unfold eqD at h
  split at h
  · cases h
    obtain rfl := Dq.int_eq hx
    obtain rfl := Dq.int_eq hy
    refine op_eq pins s σ H _ _ v u Q I rx ry ⟨rfl, ?_⟩
    rw [dec_int, ← Bool.beq_eq_decide_eq] at *
    exact q
  · cases h
    obtain rfl := Dq.str_eq hx
    obtain rfl := Dq.str_eq hy
    refine op_eq pins s σ H _ _ v u Q I rx ry ⟨rfl, ?_⟩
    rw [dec_str, Bool.beq_eq_decide_eq]
    exact q
  · split at h
    · rename_i hs
      cases h
      rw [Bool.and_eq_true] at hs
      exact op_eqD (by omega) pins s σ H _ _ v u Q I rx ry ⟨_, _, hx.dp _ _, hy.dp _ _, hs.1, hs.2, q⟩
    · cases h
theorem ne_run (hu : X.A.units + 65 < cLine) (I : Inv X pins σ H s) (rx : RelV x v) (ry : RelV y u) (hx : Dq X.K H x d) (hy : Dq X.K H y e) (h : eqD d e = some b) (q : Q (.bl (!b)) H) : wpAny (model X.prog X.w) X.A (compareOp .NotEq v u) (EP X pins σ Q) X.xe s := by
  unfold eqD at h
  split at h
  · cases h
    obtain rfl := Dq.int_eq hx
    obtain rfl := Dq.int_eq hy
    refine op_ne pins s σ H _ _ v u Q I rx ry ⟨rfl, ?_⟩
    rw [dec_int, Bool.beq_eq_decide_eq]
    exact q
  · cases h
    obtain rfl := Dq.str_eq hx
    obtain rfl := Dq.str_eq hy
    refine op_ne pins s σ H _ _ v u Q I rx ry ⟨rfl, ?_⟩
    rw [dec_str, Bool.beq_eq_decide_eq]
    exact q
  · split at h
    · rename_i hs
      cases h
      rw [Bool.and_eq_true] at hs
      exact op_neD (by omega) pins s σ H _ _ v u Q I rx ry ⟨_, _, hx.dp _ _, hy.dp _ _, hs.1, hs.2, q⟩
    · cases h
theorem reads_of (I : Inv X pins σ H s) (rx : RelV x v) (hx : Dq X.K H x d) : ∃ as, Reads s.heap v d as := Dp.reads I d x v (hx.dp _ _) rx
theorem ordOk_of (h : ordOk d e = true) : PySem.W.alike d e = true ∧ d ≠ .none ∧ d.depth ≤ 60 := by
  unfold ordOk at h
  rw [Bool.and_eq_true, Bool.and_eq_true] at h
  refine ⟨h.1.1, ?_, of_decide_eq_true h.2⟩
  rintro rfl
  cases h.1.2
theorem min_depth {a b c : Nat} (h : a ≤ 60) (hu : c + 65 < cLine) : c + min a b < cLine := by
  have := Nat.min_le_left a b
  omega
theorem lt_run (hu : X.A.units + 65 < cLine) (I : Inv X pins σ H s) (rx : RelV x v) (ry : RelV y u) (hx : Dq X.K H x d) (hy : Dq X.K H y e) (h : ltD d e = some b) (q : Q (.bl b) H) : wpAny (model X.prog X.w) X.A (compareOp .Lt v u) (EP X pins σ Q) X.xe s := by
  unfold ltD at h
  split at h
  · cases h
    obtain rfl := Dq.int_eq hx
    obtain rfl := Dq.int_eq hy
    exact op_lt pins s σ H _ _ v u Q I rx ry ⟨_, _, rfl, rfl, q⟩
  · split at h
    · rename_i hs
      cases h
      obtain ⟨h1, h2, h3⟩ := ordOk_of hs
      obtain ⟨as, ra⟩ := reads_of I rx hx
      obtain ⟨bs, rb⟩ := reads_of I ry hy
      exact PySem.W.lt_data ra rb h1 h2 (min_depth h3 hu) ⟨.bl _, H, I, rfl, q⟩
    · cases h
theorem le_run (hu : X.A.units + 65 < cLine) (I : Inv X pins σ H s) (rx : RelV x v) (ry : RelV y u) (hx : Dq X.K H x d) (hy : Dq X.K H y e) (h : leD d e = some b) (q : Q (.bl b) H) : wpAny (model X.prog X.w) X.A (compareOp .LtE v u) (EP X pins σ Q) X.xe s := by
  unfold leD at h
  split at h
  · cases h
    obtain rfl := Dq.int_eq hx
    obtain rfl := Dq.int_eq hy
    exact op_le pins s σ H _ _ v u Q I rx ry ⟨_, _, rfl, rfl, q⟩
  · split at h
    · rename_i hs
      cases h
      obtain ⟨h1, h2, h3⟩ := ordOk_of hs
      obtain ⟨as, ra⟩ := reads_of I rx hx
      obtain ⟨bs, rb⟩ := reads_of I ry hy
      exact PySem.W.le_data ra rb h1 h2 (min_depth h3 hu) ⟨.bl _, H, I, rfl, q⟩
    · cases h
theorem gt_run (hu : X.A.units + 65 < cLine) (I : Inv X pins σ H s) (rx : RelV x v) (ry : RelV y u) (hx : Dq X.K H x d) (hy : Dq X.K H y e) (h : gtD d e = some b) (q : Q (.bl b) H) : wpAny (model X.prog X.w) X.A (compareOp .Gt v u) (EP X pins σ Q) X.xe s := by
  unfold gtD at h
  split at h
  · cases h
    obtain rfl := Dq.int_eq hx
    obtain rfl := Dq.int_eq hy
    exact op_gt pins s σ H _ _ v u Q I rx ry ⟨_, _, rfl, rfl, q⟩
  · split at h
    · rename_i hs
      cases h
      obtain ⟨h1, h2, h3⟩ := ordOk_of hs
      obtain ⟨as, ra⟩ := reads_of I rx hx
      obtain ⟨bs, rb⟩ := reads_of I ry hy
      exact PySem.W.gt_data ra rb h1 h2 (min_depth h3 hu) ⟨.bl _, H, I, rfl, q⟩
    · cases h
theorem ge_run (hu : X.A.units + 65 < cLine) (I : Inv X pins σ H s) (rx : RelV x v) (ry : RelV y u) (hx : Dq X.K H x d) (hy : Dq X.K H y e) (h : geD d e = some b) (q : Q (.bl b) H) : wpAny (model X.prog X.w) X.A (compareOp .GtE v u) (EP X pins σ Q) X.xe s := by
  unfold geD at h
  split at h
  · cases h
    obtain rfl := Dq.int_eq hx
    obtain rfl := Dq.int_eq hy
    exact op_ge pins s σ H _ _ v u Q I rx ry ⟨_, _, rfl, rfl, q⟩
  · split at h
    · rename_i hs
      cases h
      obtain ⟨h1, h2, h3⟩ := ordOk_of hs
      obtain ⟨as, ra⟩ := reads_of I rx hx
      obtain ⟨bs, rb⟩ := reads_of I ry hy
      exact PySem.W.ge_data ra rb h1 h2 (min_depth h3 hu) ⟨.bl _, H, I, rfl, q⟩
    · cases h
theorem in_run (hu : X.A.units + 65 < cLine) (I : Inv X pins σ H s) (rx : RelV x v) (ry : RelV y u) (hx : Dq X.K H x d) (hy : Dq X.K H y e) (h : inD d e = some b) (q : Q (.bl b) H) : wpAny (model X.prog X.w) X.A (compareOp .In v u) (EP X pins σ Q) X.xe s := by
  obtain ⟨as, ra⟩ := reads_of I rx hx
  obtain ⟨bs, rb⟩ := reads_of I ry hy
  unfold inD at h
  split at h
  · split at h
    · rename_i hs
      cases h
      rw [Bool.and_eq_true] at hs
      exact SeqAt.in_list_reads rb ra (SeqAt.canLay_of_shaped hs.2) (SeqAt.canLay_of_shaped hs.1) (PyProof.Rows.room_in_shaped hs.1 hu) ⟨.bl _, H, I, rfl, q⟩
    · cases h
  · split at h
    · rename_i hs
      cases h
      rw [Bool.and_eq_true] at hs
      exact SeqAt.in_tuple_reads rb ra (SeqAt.canLay_of_shaped hs.2) (SeqAt.canLay_of_shaped hs.1) (PyProof.Rows.room_in_shaped hs.1 hu) ⟨.bl _, H, I, rfl, q⟩
    · cases h
  · cases h
theorem notIn_run (hu : X.A.units + 65 < cLine) (I : Inv X pins σ H s) (rx : RelV x v) (ry : RelV y u) (hx : Dq X.K H x d) (hy : Dq X.K H y e) (h : inD d e = some b) (q : Q (.bl (!b)) H) : wpAny (model X.prog X.w) X.A (compareOp .NotIn v u) (EP X pins σ Q) X.xe s := by
  obtain ⟨as, ra⟩ := reads_of I rx hx
  obtain ⟨bs, rb⟩ := reads_of I ry hy
  unfold inD at h
  split at h
  · split at h
    · rename_i hs
      cases h
      rw [Bool.and_eq_true] at hs
      exact SeqAt.notIn_list_reads rb ra (SeqAt.canLay_of_shaped hs.2) (SeqAt.canLay_of_shaped hs.1) (PyProof.Rows.room_in_shaped hs.1 hu) ⟨.bl _, H, I, rfl, q⟩
    · cases h
  · split at h
    · rename_i hs
      cases h
      rw [Bool.and_eq_true] at hs
      exact SeqAt.notIn_tuple_reads rb ra (SeqAt.canLay_of_shaped hs.2) (SeqAt.canLay_of_shaped hs.1) (PyProof.Rows.room_in_shaped hs.1 hu) ⟨.bl _, H, I, rfl, q⟩
    · cases h
  · cases h
theorem non_of (h : Dq X.K H x d) : decide (x = V.non) = !notNone d := by
  cases h <;> rfl
theorem depth_item : ∀ {xs : List PyData} {x : PyData}, x ∈ xs → x.depth ≤ PyData.depthAll xs
  | y :: xs, x, h => by
    rw [PyData.depthAll]
    rcases List.mem_cons.mp h with rfl | h
    · exact Nat.le_max_left _ _
    · exact Nat.le_trans (depth_item h) (Nat.le_max_right _ _)
end
theorem op_cmp (hu : X.A.units + 65 < cLine) (op : CmpOp) : OpR X (compareOp op) (rCmp X.K op) := by
  intro pins s σ H x y v u Q I rx ry h
  obtain ⟨d, e, b, hx, hy, h, q⟩ := h
  unfold cmpD at h
  split at h
  · exact eq_run hu I rx ry hx hy h q
  · obtain ⟨c, h1, rfl⟩ := of_map_some h
    exact ne_run hu I rx ry hx hy h1 q
  · exact lt_run hu I rx ry hx hy h q
  · exact le_run hu I rx ry hx hy h q
  · exact gt_run hu I rx ry hx hy h q
  · exact ge_run hu I rx ry hx hy h q
  · exact in_run hu I rx ry hx hy h q
  · obtain ⟨c, h1, rfl⟩ := of_map_some h
    exact notIn_run hu I rx ry hx hy h1 q
  · cases h
    obtain rfl := Dq.non_eq hy
    refine op_isN pins s σ H _ _ v u Q I rx ry ⟨rfl, ?_⟩
    rw [non_of hx]
    exact q
  · cases h
    obtain rfl := Dq.non_eq hy
    refine op_notN pins s σ H _ _ v u Q I rx ry ⟨rfl, ?_⟩
    rw [non_of hx, Bool.not_not]
    exact q
  · cases h
/-! ### places and slices -/
def rIdx (K : PySem.W.Frag) : R2 := fun x y H Q => ∃ F d e z, Sub F H ∧ FV K F H x d ∧ Dq K H y e ∧ idxD d e = some z ∧ ∀ v, Dq K F v z → Q v H
theorem atI_of {xs : List PyData} {vs : List V} {K : PySem.W.Frag} {F : Hp} {i : Int} {z : PyData} (h : DqAll K F vs xs) (e : ((ixD xs.length i).bind fun k => xs[k]?) = some z) : ∃ v, atI vs i = some v ∧ Dq K F v z := by
  cases q : ixD xs.length i with
  | none => rw [q] at e; cases e
  | some k =>
    rw [q] at e
    obtain ⟨v, h1, h2⟩ := h.getD e
    refine ⟨v, ?_, h2⟩
    unfold atI
    have e2 : ixN vs.length i = ixD xs.length i := by rw [h.len]; rfl
    rw [e2, q]
    exact h1
theorem ix_idx : IxR X (rIdx X.K) := by
  intro value slice pins s σ H x y v u Q I rx ry h hs
  obtain ⟨F, d, e, z, hf, hx, hy, h, q⟩ := h
  unfold idxD at h
  split at h
  · obtain ⟨a, vs, rfl, h1, h2⟩ := Dq.tup_eq hx
    obtain rfl := Dq.int_eq hy
    obtain ⟨w, e1, e2⟩ := atI_of h2 h
    exact ix_tup value slice pins s σ H _ _ v u Q I rx ry ⟨_, _, _, w, rfl, rfl, hf.sqT h1, e1, q _ e2⟩ hs
  · obtain ⟨a, vs, rfl, h1, h2⟩ := hx
    obtain rfl := Dq.int_eq hy
    obtain ⟨w, e1, e2⟩ := atI_of h2 h
    exact ix_list value slice pins s σ H _ _ v u Q I rx ry ⟨_, _, _, w, rfl, rfl, SqL.of h1, e1, q _ e2⟩ hs
  · cases h
theorem cutD_eq (n d : Nat) (o : Option Int) : cutD n d o = HT.sIx n d o := by
  cases o with
  | none => rfl
  | some v => rfl
theorem sliceD_eq {K : PySem.W.Frag} {F : Hp} {vs : List V} {xs : List PyData} (h : DqAll K F vs xs) (lo hi : Option Int) : DqAll K F (cutV vs lo hi) (sliceD xs lo hi) := by
  unfold cutV sliceD
  rw [cutD_eq, cutD_eq, h.len]
  exact (h.drop _).take _
/-! ### items that are frozen -/
section
variable {K : PySem.W.Frag} {cl : Str → Option Addr} {F H : Hp}
theorem ORs.flats : ∀ {os : List O} {vs : List V} {A : AS} {xs : List PyData}, ORs K cl F H os vs A → O.flats os = some xs → DqAll K F vs xs
  | _, _, _, _, .nil, e => by rw [O.flats] at e; cases e; exact .nil
  | _, _, _, _, .cons (o := o) (os := os) h t n, e => by
    cases o with
    | d x =>
      rw [O.flats] at e
      cases q : O.flats os with
      | none => rw [q] at e; cases e
      | some ys =>
        rw [q] at e
        cases e
        cases h with
        | d h => exact .cons h (ORs.flats t q)
    | lst _ => rw [O.flats] at e; cases e; intro x z; cases z
    | dct _ _ => rw [O.flats] at e; cases e; intro x z; cases z
    | ins _ _ _ => rw [O.flats] at e; cases e; intro x z; cases z
    | scr _ => rw [O.flats] at e; cases e; intro x z; cases z
theorem OR.fv {o : O} {v : V} {A : AS} {x : PyData} (s : Sub F H) (h : OR K cl F H o v A) (e : o.flat = some x) : FV K F H v x := by
  cases h with
  | d h => rw [O.flat] at e; cases e; exact h.fv s
  | lst h1 h2 h3 h4 =>
    rename_i os _
    rw [O.flat] at e
    cases q : O.flats os with
    | none => rw [q] at e; cases e
    | some ys =>
      rw [q] at e
      cases e
      exact ⟨_, _, rfl, h1, h2.flats q⟩
  | scr h => rw [O.flat] at e; cases e; (intro x z; cases z); (intro x z; cases z)
  | dk _ _ _ _ _ => rw [O.flat] at e; cases e; (intro x z; cases z); (intro x z; cases z)
  | dt _ _ _ _ _ => rw [O.flat] at e; cases e; (intro x z; cases z); (intro x z; cases z)
  | ins _ _ _ _ _ => rw [O.flat] at e; cases e; (intro x z; cases z); (intro x z; cases z)
theorem DqAll.ofInts : ∀ ns : List Int, DqAll K F (ns.map V.int) (ns.map PyData.int)
  | [] => .nil
  | n :: ns => .cons (.int n) (DqAll.ofInts ns)
end
def rSlc (K : PySem.W.Frag) : V → Option Int → Option Int → Hp → VK → Prop := fun x lo hi H Q => ∃ F cl A o r, Sub F H ∧ OR K cl F H o x A ∧ sliceO o lo hi = some r ∧ ∀ v H', Res K F H r v H' → Q v H'
theorem sl_slc : SlR X (rSlc X.K) := by
  intro pins s σ H x v vl vu lo hi sl Q I rx hs pl pu h
  obtain ⟨F, cl, A, o, r, hf, ho, h, q⟩ := h
  unfold sliceO at h
  split at h
  · rename_i xs
    cases h
    cases ho with
    | d hx =>
      obtain ⟨a, vs, rfl, h1, h2⟩ := Dq.tup_eq hx
      refine sl_tupA pins s σ H _ v vl vu lo hi sl Q I rx hs pl pu ⟨_, _, rfl, hf.sqT h1, fun e => q _ _ (.inl ⟨rfl, ?_⟩), fun e p hp => q _ _ (.inr ⟨p, _, rfl, hp, rfl, sliceD_eq h2 lo hi⟩)⟩
      have e2 : sliceD xs lo hi = xs := by
        unfold sliceD
        rw [cutD_eq, cutD_eq, ← h2.len, e.1, e.2, List.drop_zero, Nat.sub_zero, h2.len, List.take_length]
      rw [e2]
      exact hx
  · cases h
    cases ho with
    | scr hx => exact sl_list pins s σ H _ v vl vu lo hi sl Q I rx hs pl pu ⟨_, _, rfl, hf.sqL hx, fun p hp => q _ _ ⟨p, _, _, rfl, rfl, hp, rfl, sliceD_eq (DqAll.ofInts _) lo hi⟩⟩
  · split at h
    · rename_i hfl
      cases h
      obtain ⟨a, vs, rfl, h1, h2⟩ := ho.fv hf hfl
      exact sl_list pins s σ H _ v vl vu lo hi sl Q I rx hs pl pu ⟨_, _, rfl, SqL.of h1, fun p hp => q _ _ ⟨p, _, _, rfl, rfl, hp, rfl, sliceD_eq h2 lo hi⟩⟩
    · cases h
/-! ### built-in functions -/
abbrev FVs (K : PySem.W.Frag) (F H : Hp) : List V → List PyData → Prop := Paired fun v x => FV K F H v x
def rPrim (K : PySem.W.Frag) (p : Pr) : List V → Hp → VK → Prop := fun vs H Q => ∃ F xs o, Sub F H ∧ FVs K F H vs xs ∧ primO p xs = some o ∧ ∀ v H', Res K F H o v H' → Q v H'
theorem fvs1 {K : PySem.W.Frag} {F H : Hp} {vs : List V} {x : PyData} (h : FVs K F H vs [x]) : ∃ v, vs = [v] ∧ FV K F H v x := by
  cases h with
  | cons a t => cases t; exact ⟨_, rfl, a⟩
theorem fvs2 {K : PySem.W.Frag} {F H : Hp} {vs : List V} {x y : PyData} (h : FVs K F H vs [x, y]) : ∃ v w, vs = [v, w] ∧ FV K F H v x ∧ FV K F H w y := by
  cases h with
  | cons a t =>
    cases t with
    | cons b t => cases t; exact ⟨_, _, rfl, a, b⟩
theorem pr_len : CallR X (.builtin "len") (rPrim X.K .len) := by
  intro pins s σ H vs us Q I r h
  obtain ⟨F, xs, o, hf, hv, h, q⟩ := h
  replace h : lenO xs = some o := h
  unfold lenO at h
  split at h
  · obtain ⟨v, rfl, p, vs, rfl, h1, h2⟩ := fvs1 hv
    cases h
    exact call_len_seq pins s σ H _ us Q I r ⟨_, _, rfl, .inl (SqL.of h1), by rw [h2.len]; exact q _ _ ⟨rfl, .int _⟩⟩
  · obtain ⟨v, rfl, h1⟩ := fvs1 hv
    obtain ⟨p, vs, rfl, h1, h2⟩ := Dq.tup_eq h1
    cases h
    exact call_len_seq pins s σ H _ us Q I r ⟨_, _, rfl, .inr (hf.sqT h1), by rw [h2.len]; exact q _ _ ⟨rfl, .int _⟩⟩
  · cases h
theorem pr_int : CallR X (.type "int") (rPrim X.K .int) := by
  intro pins s σ H vs us Q I r h
  obtain ⟨F, xs, o, hf, hv, h, q⟩ := h
  replace h : intO xs = some o := h
  unfold intO at h
  split at h
  · obtain ⟨v, rfl, h1⟩ := fvs1 hv
    obtain rfl := Dq.int_eq h1
    cases h
    exact call_int1 pins s σ H _ us Q I r (.inl ⟨_, rfl, q _ _ ⟨rfl, .int _⟩⟩)
  · obtain ⟨v, rfl, h1⟩ := fvs1 hv
    obtain rfl := Dq.bool_eq h1
    cases h
    exact call_int1 pins s σ H _ us Q I r (.inr ⟨_, rfl, q _ _ ⟨rfl, .int _⟩⟩)
  · cases h
theorem pr_abs : CallR X (.builtin "abs") (rPrim X.K .abs) := by
  intro pins s σ H vs us Q I r h
  obtain ⟨F, xs, o, hf, hv, h, q⟩ := h
  replace h : absO xs = some o := h
  unfold absO at h
  split at h
  · obtain ⟨v, rfl, h1⟩ := fvs1 hv
    obtain rfl := Dq.int_eq h1
    cases h
    exact call_abs pins s σ H _ us Q I r ⟨_, rfl, q _ _ ⟨rfl, .int _⟩⟩
  · cases h
theorem allAlike_of {xs : List PyData} (h : allAlike xs = true) : PySem.W.AlikeAll xs ∧ PyData.depthAll xs ≤ 60 := by
  unfold allAlike at h
  rw [Bool.and_eq_true, Bool.and_eq_true] at h
  obtain ⟨⟨h1, h2⟩, h3⟩ := h
  refine ⟨⟨fun x hx y hy => ?_, fun x hx e => ?_⟩, of_decide_eq_true h3⟩
  · exact List.all_eq_true.mp (List.all_eq_true.mp h1 x hx) y hy
  · have := List.all_eq_true.mp h2 x hx
    rw [e] at this
    cases this
/-- an item of alike data, told by what it reads as -/
theorem pick_item {K : PySem.W.Frag} {F : Hp} {ws : List V} {its : List Value} {xs : List PyData} {h : Heap} {as : List Addr} {m : PyData} {i : Nat} {u : Value} {bs : List Addr} (hd : DqAll K F ws xs) (hv : Vals ws its)
    (hr : ReadsAll h its xs as) (hm : m ∈ xs) (ha : PySem.W.AlikeAll xs) (hi : its[i]? = some u) (r : Reads h u m bs) : ∃ v, RelV v u ∧ Dq K F v m := by
  obtain ⟨cs, r1, hlt, hmem, _⟩ := PySem.W.readsAll_at hr i u hi
  have e : xs.getD i .none = m := PySem.W.alike_unique _ _ _ _ _ (ha.1 _ hmem _ hm) r1 r
  have hx : xs[i]? = some m := by
    rw [List.getD_eq_getElem?_getD] at e
    rw [List.getElem?_eq_getElem hlt] at e ⊢
    rw [← e]; rfl
  obtain ⟨v, h1, h2⟩ := hd.getD hx
  obtain ⟨u', h3, h4⟩ := hv.get h1
  rw [hi] at h3
  cases h3
  exact ⟨v, h4, h2⟩
theorem res_old {K : PySem.W.Frag} {F H : Hp} {v : V} {m : PyData} (hm : ∀ ys, m ≠ .list ys) (h : Dq K F v m) : Res K F H (.d m) v H := by
  cases m with
  | tuple xs => exact .inl ⟨rfl, h⟩
  | list xs => exact ⟨rfl, h⟩
  | none => exact ⟨rfl, h⟩
  | bool _ => exact ⟨rfl, h⟩
  | int _ => exact ⟨rfl, h⟩
  | str _ => exact ⟨rfl, h⟩
  | dict _ => exact ⟨rfl, h⟩
theorem res_old' {K : PySem.W.Frag} {F H : Hp} {v : V} {m : PyData} (h : Dq K F v m) : Res K F H (.d m) v H := by
  cases m with
  | tuple xs => exact .inl ⟨rfl, h⟩
  | list xs => exact ⟨rfl, h⟩
  | none => exact ⟨rfl, h⟩
  | bool _ => exact ⟨rfl, h⟩
  | int _ => exact ⟨rfl, h⟩
  | str _ => exact ⟨rfl, h⟩
  | dict _ => exact ⟨rfl, h⟩
theorem fold_mem {f : PyData → PyData → Bool} : ∀ (xs : List PyData) (x : PyData), xs.foldl (fun a y => if f a y then y else a) x ∈ x :: xs
  | [], x => List.mem_cons_self
  | y :: ys, x => by
    rw [List.foldl_cons]
    cases h : f x y with
    | true =>
      rw [if_pos rfl]
      exact List.mem_cons_of_mem _ (fold_mem ys y)
    | false =>
      rw [if_neg Bool.false_ne_true]
      rcases List.mem_cons.mp (fold_mem ys x) with e | e
      · rw [e]; exact List.mem_cons_self
      · exact List.mem_cons_of_mem _ (List.mem_cons_of_mem _ e)
theorem pr_max (hc : X.calm = true) (hu : X.A.units + 65 < cLine) : CallR X (.builtin "max") (rPrim X.K .max) := by
  intro pins s σ H vs us Q I r h
  obtain ⟨F, xs, o, hf, hv, h, q⟩ := h
  replace h : maxO xs = some o := h
  unfold maxO at h
  split at h
  · obtain ⟨v, w, rfl, h1, h2⟩ := fvs2 hv
    obtain rfl := Dq.int_eq h1
    obtain rfl := Dq.int_eq h2
    cases h
    exact call_max2 hc pins s σ H _ us Q I r ⟨_, _, rfl, q _ _ ⟨rfl, .int _⟩⟩
  · split at h
    · rename_i x xs ha
      obtain ⟨a1, a2⟩ := allAlike_of ha
      obtain ⟨v, rfl, p, ws, rfl, h1, h2⟩ := fvs1 hv
      cases h
      obtain ⟨its, rv, hl, _⟩ := I.list (SqL.of h1)
      obtain ⟨as, hr⟩ := Dp.readsAll I _ _ its (Dq.dpAll _ _ (Dq.monoAll hf _ _ h2)) rv
      rw [Vals.ref1 r]
      refine PySem.W.max_list_data (I.ok.hd hc) hl.isList (by simpa using hr) a1 (by omega) fun i u h' tk bs hi r2 hk => ?_
      have hr' : ReadsAll h' its (x :: xs) as := PyProof.Rows.ReadsAll.keeps hk hr
      obtain ⟨v, r3, d3⟩ := pick_item h2 rv hr' (fold_mem _ _) a1 (by simpa using hi) r2
      exact ⟨v, H, I.kept hk, r3, q _ _ (res_old' d3)⟩
    · cases h
  · split at h
    · rename_i x xs ha
      obtain ⟨a1, a2⟩ := allAlike_of ha
      obtain ⟨v, rfl, h1⟩ := fvs1 hv
      obtain ⟨p, ws, rfl, h1, h2⟩ := Dq.tup_eq h1
      cases h
      obtain ⟨its, rv, hl, _⟩ := I.tuple (hf.sqT h1)
      obtain ⟨as, hr⟩ := Dp.readsAll I _ _ its (Dq.dpAll _ _ (Dq.monoAll hf _ _ h2)) rv
      rw [Vals.ref1 r]
      refine PySem.W.max_tuple_data (I.ok.hd hc) hl (by simpa using hr) a1 (by omega) fun i u h' tk bs hi r2 hk => ?_
      have hr' : ReadsAll h' its (x :: xs) as := PyProof.Rows.ReadsAll.keeps hk hr
      obtain ⟨v, r3, d3⟩ := pick_item h2 rv hr' (fold_mem _ _) a1 (by simpa using hi) r2
      exact ⟨v, H, I.kept hk, r3, q _ _ (res_old' d3)⟩
    · cases h
  · cases h
theorem pr_min (hc : X.calm = true) (hu : X.A.units + 65 < cLine) : CallR X (.builtin "min") (rPrim X.K .min) := by
  intro pins s σ H vs us Q I r h
  obtain ⟨F, xs, o, hf, hv, h, q⟩ := h
  replace h : minO xs = some o := h
  unfold minO at h
  split at h
  · obtain ⟨v, w, rfl, h1, h2⟩ := fvs2 hv
    obtain rfl := Dq.int_eq h1
    obtain rfl := Dq.int_eq h2
    cases h
    exact call_min2 hc pins s σ H _ us Q I r ⟨_, _, rfl, q _ _ ⟨rfl, .int _⟩⟩
  · split at h
    · rename_i x xs ha
      obtain ⟨a1, a2⟩ := allAlike_of ha
      obtain ⟨v, rfl, p, ws, rfl, h1, h2⟩ := fvs1 hv
      cases h
      obtain ⟨its, rv, hl, _⟩ := I.list (SqL.of h1)
      obtain ⟨as, hr⟩ := Dp.readsAll I _ _ its (Dq.dpAll _ _ (Dq.monoAll hf _ _ h2)) rv
      rw [Vals.ref1 r]
      refine PySem.W.min_list_data (I.ok.hd hc) hl.isList (by simpa using hr) a1 (by omega) fun i u h' tk bs hi r2 hk => ?_
      have hr' : ReadsAll h' its (x :: xs) as := PyProof.Rows.ReadsAll.keeps hk hr
      obtain ⟨v, r3, d3⟩ := pick_item h2 rv hr' (fold_mem (f := fun a y => PySem.W.dataLt y a) _ _) a1 (by simpa using hi) r2
      exact ⟨v, H, I.kept hk, r3, q _ _ (res_old' d3)⟩
    · cases h
  · split at h
    · rename_i x xs ha
      obtain ⟨a1, a2⟩ := allAlike_of ha
      obtain ⟨v, rfl, h1⟩ := fvs1 hv
      obtain ⟨p, ws, rfl, h1, h2⟩ := Dq.tup_eq h1
      cases h
      obtain ⟨its, rv, hl, _⟩ := I.tuple (hf.sqT h1)
      obtain ⟨as, hr⟩ := Dp.readsAll I _ _ its (Dq.dpAll _ _ (Dq.monoAll hf _ _ h2)) rv
      rw [Vals.ref1 r]
      refine PySem.W.min_tuple_data (I.ok.hd hc) hl (by simpa using hr) a1 (by omega) fun i u h' tk bs hi r2 hk => ?_
      have hr' : ReadsAll h' its (x :: xs) as := PyProof.Rows.ReadsAll.keeps hk hr
      obtain ⟨v, r3, d3⟩ := pick_item h2 rv hr' (fold_mem (f := fun a y => PySem.W.dataLt y a) _ _) a1 (by simpa using hi) r2
      exact ⟨v, H, I.kept hk, r3, q _ _ (res_old' d3)⟩
    · cases h
  · cases h
theorem pr_all (hc : X.calm = true) : CallR X (.builtin "all") (rPrim X.K .all) := by
  intro pins s σ H vs us Q I r h
  obtain ⟨F, xs, o, hf, hv, h, q⟩ := h
  replace h : allO xs = some o := h
  unfold allO at h
  split at h
  · obtain ⟨v, rfl, p, ws, rfl, h1, h2⟩ := fvs1 hv
    obtain ⟨bs, e1, e2⟩ := of_map_some h
    subst e2
    rw [h2.bools e1] at h1
    exact cr_all hc pins s σ H _ us Q I r ⟨_, _, rfl, SqL.of h1, q _ _ ⟨rfl, .bl _⟩⟩
  · cases h
theorem pr_any (hc : X.calm = true) : CallR X (.builtin "any") (rPrim X.K .any) := by
  intro pins s σ H vs us Q I r h
  obtain ⟨F, xs, o, hf, hv, h, q⟩ := h
  replace h : anyO xs = some o := h
  unfold anyO at h
  split at h
  · obtain ⟨v, rfl, p, ws, rfl, h1, h2⟩ := fvs1 hv
    obtain ⟨bs, e1, e2⟩ := of_map_some h
    subst e2
    rw [h2.bools e1] at h1
    exact cr_any hc pins s σ H _ us Q I r ⟨_, _, rfl, SqL.of h1, q _ _ ⟨rfl, .bl _⟩⟩
  · cases h
theorem pr_tuple : CallR X (.type "tuple") (rPrim X.K .tuple) := by
  intro pins s σ H vs us Q I r h
  obtain ⟨F, xs, o, hf, hv, h, q⟩ := h
  replace h : tupleO xs = some o := h
  unfold tupleO at h
  split at h
  · obtain ⟨v, rfl, p, ws, rfl, h1, h2⟩ := fvs1 hv
    cases h
    exact call_tuple_of pins s σ H _ us Q I r ⟨_, _, rfl, .inl ⟨SqL.of h1, fun l hl => q _ _ (.inr ⟨l, _, rfl, hl, rfl, h2⟩)⟩⟩
  · obtain ⟨v, rfl, h1⟩ := fvs1 hv
    obtain ⟨p, ws, rfl, h3, h4⟩ := Dq.tup_eq h1
    cases h
    exact call_tuple_of pins s σ H _ us Q I r ⟨_, _, rfl, .inr ⟨hf.sqT h3, q _ _ (.inl ⟨rfl, h1⟩)⟩⟩
  · cases h
theorem pr_list : CallR X (.type "list") (rPrim X.K .list) := by
  intro pins s σ H vs us Q I r h
  obtain ⟨F, xs, o, hf, hv, h, q⟩ := h
  replace h : listO xs = some o := h
  unfold listO at h
  split at h
  · obtain ⟨v, rfl, p, ws, rfl, h1, h2⟩ := fvs1 hv
    cases h
    exact call_list_of pins s σ H _ us Q I r ⟨_, _, rfl, .inl (SqL.of h1), fun l hl => q _ _ ⟨l, _, _, rfl, rfl, hl, rfl, h2⟩⟩
  · obtain ⟨v, rfl, h1⟩ := fvs1 hv
    obtain ⟨p, ws, rfl, h1, h2⟩ := Dq.tup_eq h1
    cases h
    exact call_list_of pins s σ H _ us Q I r ⟨_, _, rfl, .inr (hf.sqT h1), fun l hl => q _ _ ⟨l, _, _, rfl, rfl, hl, rfl, h2⟩⟩
  · cases h
/-! sum of a tuple -/
theorem sum_tup {prog : Program} {w : World} {A : Around} {E : Value → Shared → Prop} {s : Shared} {l : Addr} {its : List Value} {ns : List Int} {Q : Value → Shared → Prop} (hh : A.handled = none) (hl : s.heap.IsTuple l its.toArray) (hi : PyProof.Rows.IntsAre its ns)
    (h : ∀ h' tk t', (∀ b o, s.heap.get? b = some o → h'.get? b = some o) → Q (.int ns.sum t') { s with heap := h', toks := tk }) : wpAny (model prog w) A (call (.builtin "sum") [.ref l]) Q E s := by
  obtain ⟨xs, e⟩ := hi.allInts.items
  have hn : numsOf (intItems xs).toList = ns := by rw [← e]; exact hi.numsOf
  rw [nums_intItems] at hn
  rw [e] at hl
  have hlt : l < s.heap.objs.size := by obtain ⟨_, e, _⟩ := hl; exact Heap.lt_size e
  refine PySem.call_sum_walkG (wpAny_pyIter_tuple hl ?_)
  refine ⟨_, _, _, _, _, _, numAt xs, rfl, Walks.tuple (A := A.in1) hh _ l (Nat.ne_of_lt hlt) (intItems xs), ⟨⟨_, Heap.get?_push_size _ rfl, rfl, rfl⟩, hl.push _⟩, fun b hb => ?_, (fun _ _ => intItems_at), fun h' tk t' hk => ?_⟩
  · show b < (s.heap.push _).objs.size
    rw [Heap.size_push]
    rcases List.mem_cons.mp hb with rfl | hb
    · exact Nat.lt_succ_self _
    · rcases List.mem_cons.mp hb with rfl | hb
      · exact Nat.lt_succ_of_lt hlt
      · cases hb
  · have := h h' tk t' fun b o eo => hk b o (fun hb => absurd (Heap.lt_size eo) ((List.mem_singleton.mp hb) ▸ Nat.lt_irrefl _)) (Heap.get?_push_of_some _ eo)
    have e2 : preSum (numAt xs) (intItems xs).size = ns.sum := by
      rw [preSum_eq, List.take_of_length_le (by simp [intItems]), hn]
    rw [e2]
    exact this
theorem pr_sum (hc : X.calm = true) : CallR X (.builtin "sum") (rPrim X.K .sum) := by
  intro pins s σ H vs us Q I r h
  obtain ⟨F, xs, o, hf, hv, h, q⟩ := h
  replace h : sumO xs = some o := h
  unfold sumO at h
  split at h
  · obtain ⟨v, rfl, p, ws, rfl, h1, h2⟩ := fvs1 hv
    obtain ⟨ns, e1, e2⟩ := of_map_some h
    subst e2
    rw [h2.ints e1] at h1
    exact cr_sum hc pins s σ H _ us Q I r ⟨_, _, rfl, SqL.of h1, q _ _ ⟨rfl, .int _⟩⟩
  · obtain ⟨v, rfl, h1⟩ := fvs1 hv
    obtain ⟨p, ws, rfl, h1, h2⟩ := Dq.tup_eq h1
    obtain ⟨ns, e1, e2⟩ := of_map_some h
    subst e2
    rw [h2.ints e1] at h1
    obtain ⟨its, rv, hl, _⟩ := I.tuple (hf.sqT h1)
    rw [Vals.ref1 r]
    exact sum_tup (I.ok.hd hc) hl rv.ints fun h' tk t' hk => ⟨.int _, H, I.kept hk, ⟨_, rfl⟩, q _ _ ⟨rfl, .int _⟩⟩
  · cases h
/-! sorted -/
mutual
theorem eq_of_eqv : ∀ (x y : PyData), PySem.W.alike x y = true → PyData.eqv x y = true → x = y
  | .none, y, h, e => by cases y <;> simp_all [PySem.W.alike, PyData.eqv]
  | .bool a, y, h, e => by cases y <;> simp_all [PySem.W.alike, PyData.eqv]
  | .int a, y, h, e => by cases y <;> simp_all [PySem.W.alike, PyData.eqv]
  | .str a, y, h, e => by cases y <;> simp_all [PySem.W.alike, PyData.eqv]
  | .list xs, y, h, e => by
    cases y with
    | list ys =>
      rw [PySem.W.alike] at h
      rw [PyData.eqv] at e
      rw [eqAll_of_eqv xs ys h e]
    | _ => simp_all [PySem.W.alike]
  | .tuple xs, y, h, e => by
    cases y with
    | tuple ys =>
      rw [PySem.W.alike] at h
      rw [PyData.eqv] at e
      rw [eqAll_of_eqv xs ys h e]
    | _ => simp_all [PySem.W.alike]
  | .dict _, y, h, e => by cases y <;> simp_all [PySem.W.alike, PyData.eqv]
theorem eqAll_of_eqv : ∀ (xs ys : List PyData), PySem.W.alikeAll xs ys = true → PyData.eqvAll xs ys = true → xs = ys
  | [], [], _, _ => rfl
  | [], _ :: _, _, e => by rw [PyData.eqvAll] at e; cases e
  | _ :: _, [], _, e => by rw [PyData.eqvAll] at e; cases e
  | x :: xs, y :: ys, h, e => by
    rw [PySem.W.alikeAll, Bool.and_eq_true] at h
    rw [PyData.eqvAll, Bool.and_eq_true] at e
    rw [eq_of_eqv x y h.1 e.1, eqAll_of_eqv xs ys h.2 e.2]
end
/-- two data that are alike and neither less are one -/
theorem lt_antisymm {x y : PyData} (h : PySem.W.alike x y = true) (h1 : PySem.W.dataLt x y = false) (h2 : PySem.W.dataLt y x = false) : x = y := by
  have e := PyProof.Rows.lex_total (O := PyProof.Rows.itemOrd) _ _ h1 h2
  cases hq : PyData.eqv x y with
  | true => exact eq_of_eqv x y h hq
  | false =>
    exfalso
    have t := (PySem.W.toks_eqv x y h).2 hq [.inl 5] [.inl 7]
    have t2 := (PySem.W.toks_eqv x y h).2 hq [.inl 7] [.inl 5]
    rw [e] at t t2
    rw [PySem.W.lex_pre] at t t2
    exact absurd (t.trans t2.symm) (by decide)
abbrev leB (a b : PyData) : Bool := !PySem.W.dataLt b a
theorem le_total (a b : PyData) : (leB a b || leB b a) = true := by
  unfold leB
  cases h : PySem.W.dataLt b a with
  | false => rfl
  | true =>
    cases h2 : PySem.W.dataLt a b with
    | false => rfl
    | true =>
      have := PyProof.Rows.lex_trans (O := PyProof.Rows.itemOrd) _ _ _ h h2
      rw [PyProof.Rows.lex_irrefl] at this
      cases this
theorem le_trans (a b c : PyData) (h1 : leB a b = true) (h2 : leB b c = true) : leB a c = true := by
  unfold leB at *
  cases h : PySem.W.dataLt c a with
  | false => rfl
  | true =>
    rcases PyProof.Rows.lex_negTrans (O := PyProof.Rows.itemOrd) (PySem.W.keyToks c) (PySem.W.keyToks b) (PySem.W.keyToks a) h with z | z
    · have : PySem.W.dataLt c b = true := z
      rw [this] at h2; cases h2
    · have : PySem.W.dataLt b a = true := z
      rw [this] at h1; cases h1
theorem insD_perm (x : PyData) : ∀ ys : List PyData, (insD x ys).Perm (x :: ys)
  | [] => .refl _
  | y :: ys => by
    rw [insD]
    split
    · exact ((insD_perm x ys).cons y).trans (.swap ..)
    · exact .refl _
theorem insSort_perm : ∀ xs : List PyData, (insSort xs).Perm xs
  | [] => .refl _
  | x :: xs => (insD_perm x _).trans ((insSort_perm xs).cons x)
theorem insD_sorted (x : PyData) : ∀ {ys : List PyData}, ys.Pairwise (fun a b => leB a b = true) → (insD x ys).Pairwise (fun a b => leB a b = true)
  | [], _ => by rw [insD]; exact List.pairwise_singleton _ _
  | y :: ys, h => by
    rw [insD]
    obtain ⟨h1, h2⟩ := List.pairwise_cons.mp h
    split
    · rename_i hlt
      refine List.pairwise_cons.mpr ⟨fun z hz => ?_, insD_sorted x h2⟩
      rcases List.mem_cons.mp ((insD_perm x ys).mem_iff.mp hz) with rfl | hz
      · have := le_total y z
        unfold leB at this ⊢
        rw [hlt] at this
        cases q : PySem.W.dataLt z y with
        | false => rfl
        | true => rw [q] at this; cases this
      · exact h1 z hz
    · rename_i hlt
      have hle : leB x y = true := by
        unfold leB
        cases q : PySem.W.dataLt y x with
        | false => rfl
        | true => exact absurd q hlt
      refine List.pairwise_cons.mpr ⟨fun z hz => ?_, h⟩
      rcases List.mem_cons.mp hz with rfl | hz
      · exact hle
      · exact le_trans _ _ _ hle (h1 z hz)
theorem insSort_sorted : ∀ xs : List PyData, (insSort xs).Pairwise (fun a b => leB a b = true)
  | [] => .nil
  | x :: xs => insD_sorted x (insSort_sorted xs)
theorem insSort_eq {xs : List PyData} (h : PySem.W.AlikeAll xs) : xs.mergeSort leB = insSort xs := by
  refine List.Perm.eq_of_pairwise (le := fun a b => leB a b = true) (fun a b ha hb h1 h2 => ?_) (List.pairwise_mergeSort le_trans le_total xs) (insSort_sorted xs) ((List.mergeSort_perm xs leB).trans (insSort_perm xs).symm)
  have ha' : a ∈ xs := (List.mergeSort_perm xs leB).mem_iff.mp ha
  have hb' : b ∈ xs := (insSort_perm xs).mem_iff.mp hb
  unfold leB at h1 h2
  refine lt_antisymm (h.1 a ha' b hb') ?_ ?_
  · cases q : PySem.W.dataLt a b with
    | false => rfl
    | true => rw [q] at h2; cases h2
  · cases q : PySem.W.dataLt b a with
    | false => rfl
    | true => rw [q] at h1; cases h1
theorem zip_each {R : Value → V × PyData → Prop} {vs : List V} {us : List Value} {xs : List PyData} (rv : Vals vs us) (hl : vs.length = xs.length) (hR : ∀ (i : Nat) (v : V) (u : Value) (x : PyData), vs[i]? = some v → us[i]? = some u → xs[i]? = some x → RelV v u → R u (v, x)) : PySem.W.EachIs R us (vs.zip xs) := by
  induction rv generalizing xs with
  | nil => exact .nil
  | cons r t ih =>
    cases xs with
    | nil => simp at hl
    | cons x xs =>
      exact .cons (hR 0 _ _ _ rfl rfl rfl r) (ih (by simpa using hl) fun i v u x h1 h2 h3 h4 => hR (i + 1) v u x (by simpa using h1) (by simpa using h2) (by simpa using h3) h4)
theorem each_vals {R : Value → V × PyData → Prop} (hR : ∀ u p, R u p → RelV p.1 u) : ∀ {us : List Value} {ps : List (V × PyData)}, PySem.W.EachIs R us ps → Vals (ps.map (·.1)) us
  | _, _, .nil => .nil
  | _, _, .cons a t => .cons (hR _ _ a) (each_vals hR t)
theorem dq_pairs {K : PySem.W.Frag} {F : Hp} : ∀ {ps : List (V × PyData)}, (∀ p ∈ ps, Dq K F p.1 p.2) → DqAll K F (ps.map (·.1)) (ps.map (·.2))
  | [], _ => .nil
  | p :: ps, h => .cons (h p List.mem_cons_self) (dq_pairs fun q hq => h q (List.mem_cons_of_mem _ hq))
theorem dq_zip {K : PySem.W.Frag} {F : Hp} : ∀ {vs : List V} {xs : List PyData}, DqAll K F vs xs → ∀ p ∈ vs.zip xs, Dq K F p.1 p.2
  | _, _, .nil, p, hp => by simp at hp
  | _, _, .cons h t, p, hp => by
    rw [List.zip_cons_cons] at hp
    rcases List.mem_cons.mp hp with rfl | hp
    · exact h
    · exact dq_zip t p hp
theorem sortable_of {xs : List PyData} (ha : PySem.W.AlikeAll xs) (h : (xs.all fullTup || xs.all notTup) = true) : PySem.W.Sortable xs := by
  rw [Bool.or_eq_true] at h
  rcases h with h | h
  · refine .inl fun d hd => ?_
    have := List.all_eq_true.mp h d hd
    unfold fullTup at this
    split at this
    · exact ⟨_, _, rfl⟩
    · cases this
  · refine .inr fun d hd => ⟨ha.2 d hd, fun ys e => ?_⟩
    have := List.all_eq_true.mp h d hd
    rw [e] at this
    cases this
theorem pr_sorted (hu : X.A.units + 65 < cLine) : CallR X (.builtin "sorted") (rPrim X.K .sorted) := by
  intro pins s σ H vs us Q I r h
  obtain ⟨F, xs, o, hf, hv, h, q⟩ := h
  replace h : sortedO xs = some o := h
  unfold sortedO at h
  split at h
  · rename_i xs
    obtain ⟨v, rfl, p, ws, rfl, h1, h2⟩ := fvs1 hv
    obtain ⟨ys, e1, e2⟩ := of_map_some h
    subst e2
    unfold sortD at e1
    split at e1
    · rename_i hs
      cases e1
      rw [Bool.and_eq_true, Bool.and_eq_true] at hs
      obtain ⟨⟨hs1, hs2⟩, hs3⟩ := hs
      obtain ⟨a1, a2⟩ := allAlike_of hs1
      obtain ⟨its, rv, hl, hz⟩ := I.list (SqL.of h1)
      obtain ⟨as, hr⟩ := Dp.readsAll I _ _ its (Dq.dpAll _ _ (Dq.monoAll hf _ _ h2)) rv
      rw [Vals.ref1 r]
      have hlen := h2.len
      have e2 : (ws.zip xs).map (·.2) = xs := List.map_snd_zip (by omega)
      have lz : (ws.zip xs).length = xs.length := by rw [← List.length_map (f := (·.2)), e2]
      refine PySem.W.sorted_data (β := V × PyData) (enc := (·.2)) (R := fun u p => RelV p.1 u) (bs := ws.zip xs) hl.isList (zip_each rv hlen fun _ _ _ _ _ _ _ r => r) (zip_each rv hlen fun i v u x e1 e2 e3 r => ?_) (by rw [e2]; exact a1.1) (by rw [e2]; exact sortable_of a1 hs2) ?_ ?_ fun out hlo ho => ?_
      · obtain ⟨cs, r1, _, _, _⟩ := PySem.W.readsAll_at hr i u e2
        refine ⟨cs, ?_⟩
        rw [List.getD_eq_getElem?_getD, e3] at r1
        exact r1
      · rw [lz]
        exact lenOk_le hs3
      · intro b hb
        have hb2 : b.2 ∈ xs := by rw [← e2]; exact List.mem_map_of_mem hb
        have := depth_item hb2
        omega
      · obtain ⟨ep, he'⟩ := PyProof.Rows.sortedAll_at s.heap its out.toArray
        have em : ((ws.zip xs).mergeSort (PySem.W.dataLe false (·.2))).map (·.2) = insSort xs := by
          rw [← insSort_eq a1]
          rw [List.map_mergeSort (s := leB) (fun a _ b _ => by rw [PySem.W.dataLe_eq]; rfl), e2]
        have hd : DqAll X.K F (((ws.zip xs).mergeSort (PySem.W.dataLe false (·.2))).map (·.1)) (insSort xs) := by
          rw [← em]
          exact dq_pairs fun p hp => dq_zip h2 p ((List.mergeSort_perm _ _).mem_iff.mp hp)
        have hvv := each_vals (fun _ _ z => z) ho
        refine ⟨.ref _, upd H (s.heap.objs.size + 1) (.lst _), I.laid (t' := s.toks) (fun _ _ => PyProof.Rows.sortedAll_old) (Nat.le_succ _) ⟨?_, out, ep, hvv, he'⟩, rfl, q _ _ ⟨_, _, _, rfl, rfl, I.hok.fresh (Nat.le_succ _), rfl, hd⟩⟩
        rw [hvv.length, hlo, lz]
        exact lenOk_le hs3
    · cases e1
  · cases h
/-! isinstance -/
theorem isi_of {K : PySem.W.Frag} {H : Hp} {v : V} {x : PyData} {T : Tn} {b : Bool} {Q : VK} (h : Dq K H v x) (hb : isiD T x = some b) (q : Q (.bl b) H) : rIsi K [v, .ty T.s] H Q := by
  have key : ∀ t : String, TyX K H v (.type t) → kitB t T.s = some b → rIsi K [v, .ty T.s] H Q := fun t ty k => ⟨v, .ty T.s, .type t, .type T.s, b, rfl, .ty _, ty, kit_ty k, q⟩
  cases h with
  | non => exact key _ (.base .non) (by cases T <;> cases hb <;> decide +kernel)
  | bl b => exact key _ (.base (.bl b)) (by cases T <;> cases hb <;> decide +kernel)
  | int b => exact key _ (.base (.int b)) (by cases T <;> cases hb <;> decide +kernel)
  | str b => exact key _ (.base (.str b)) (by cases T <;> cases hb <;> decide +kernel)
  | lst h _ => exact key _ (.base (.lst h)) (by cases T <;> cases hb <;> decide +kernel)
  | @tup a xs ds h _ =>
    have ty : TyX K H (.ref a) (.type "tuple") := by
      rcases h with (h | ⟨o, h⟩) | ⟨o, its, n, h, hc, _⟩
      · exact .base (.tup h)
      · exact .fTuple h
      · exact .kTuple h hc
    exact key _ ty (by cases T <;> cases hb <;> decide +kernel)
end
end Lw

set_option maxRecDepth 100000
set_option maxHeartbeats 1000000
/-! Lw4: readings by the evaluator, and how they are put together. -/
namespace Lw
open PySem L2

/-! ### a value on the way, in the heap -/
def SelV (H : Hp) (v0 : V) : Sel → V → Prop
  | .i k, v => ∃ a vs, v0 = .ref a ∧ H a = some (.lst vs) ∧ vs[k]? = some v
  | .f n, v => ∃ a C dx fs, v0 = .ref a ∧ H a = some (.ins C dx fs) ∧ fs.lookup n = some v
  | .k _, _ => False
def WalkV (H : Hp) : V → List Sel → V → Prop
  | v0, [], v => v0 = v
  | v0, s :: p, v => ∃ v1, SelV H v0 s v1 ∧ WalkV H v1 p v
theorem SelV.mono {H H' : Hp} (s : Sub H H') {v0 v : V} {e : Sel} (h : SelV H v0 e v) : SelV H' v0 e v := by
  cases e with
  | i k => obtain ⟨a, vs, h1, h2, h3⟩ := h; exact ⟨a, vs, h1, s _ _ h2, h3⟩
  | f n => obtain ⟨a, C, dx, fs, h1, h2, h3⟩ := h; exact ⟨a, C, dx, fs, h1, s _ _ h2, h3⟩
  | k x => exact h
theorem WalkV.mono {H H' : Hp} (s : Sub H H') : ∀ {p : List Sel} {v0 v : V}, WalkV H v0 p v → WalkV H' v0 p v
  | [], _, _, h => h
  | _ :: _, _, _, ⟨v1, h1, h2⟩ => ⟨v1, h1.mono s, WalkV.mono s h2⟩
def HR (K : PySem.W.Frag) (cl : Str → Option Addr) (F H : Hp) (A : AS) (σ : L2.St) : Hd → V → AS → Prop
  | .tm o, v, Ao => OR K cl F H o v Ao ∧ ∀ a, Ao a → A a → False
  | .sl i p, v, Ao => (∃ v0, σ[i]? = some (some v0) ∧ WalkV H v0 p v) ∧ ∀ a, ¬ Ao a
section
variable {K : PySem.W.Frag} {cl : Str → Option Addr} {F F' F1 F2 H H' H1 H2 : Hp} {A A' A1 A2 T Ao : AS} {ro ro' : Ro} {σ : L2.St} {h : Hd} {v : V} {x : PyData} {o : O}
theorem Stp.frame (s : Stp F H A F' H' A') (T : AS) : Stp F H (fun a => A a ∨ T a) F' H' (fun a => A' a ∨ T a) :=
  ⟨s.fr, fun a o e n => s.kp a o e fun z => n (.inl z), fun a q => (s.nf a q).elim .inl fun z => z.elim (fun z => .inr (.inl z)) fun z => .inr (.inr (.inl z)),
    fun a q => q.elim (fun z => (s.na a z).elim (fun z => .inl (.inl z)) .inr) fun z => .inl (.inr z)⟩
theorem Stp.weak (s : Stp F H A F' H' A') (h : ∀ a, T a → A' a) : Stp F H A F' H' T := ⟨s.fr, s.kp, s.nf, fun a q => s.na a (h a q)⟩
theorem Stp.same {B : AS} (s : Stp F H A F' H' A') (h : ∀ a, A' a ↔ B a) : Stp F H A F' H' B := s.weak fun a q => (h a).mpr q
/-- what is held beside, behind a step -/
theorem HR.step (r : HR K cl F H A σ h v Ao) (st : Stp F H A F' H' (fun a => A' a ∨ T a)) (d : h.deep = true → Sub H H') : HR K cl F' H' A' σ h v Ao ∧ ∀ a, Ao a → T a → False := by
  cases h with
  | tm o =>
    obtain ⟨h1, h2⟩ := r
    obtain ⟨q1, q2⟩ := h1.step h2 st
    exact ⟨⟨q1, fun a x y => q2 a x (.inl y)⟩, fun a x y => q2 a x (.inr y)⟩
  | sl i p =>
    obtain ⟨⟨v0, h1, h2⟩, h3⟩ := r
    refine ⟨⟨⟨v0, h1, ?_⟩, h3⟩, fun a x _ => h3 a x⟩
    cases p with
    | nil => exact h2
    | cons s p => exact WalkV.mono (d rfl) h2
theorem ORs.get : ∀ {os : List O} {vs : List V} {A : AS} {k : Nat} {o : O}, ORs K cl F H os vs A → os[k]? = some o → ∃ v B, vs[k]? = some v ∧ OR K cl F H o v B ∧ ∀ a, B a → A a
  | _, _, _, _, _, .nil, e => by simp at e
  | _, _, _, 0, _, .cons h t n, e => by
    simp at e; subst e
    exact ⟨_, _, rfl, h, fun _ z => .inl z⟩
  | _, _, _, k + 1, o, .cons h t n, e => by
    obtain ⟨v, B, h1, h2, h3⟩ := ORs.get (k := k) (o := o) t (by simpa using e)
    exact ⟨v, B, by simpa using h1, h2, fun a z => .inr (h3 a z)⟩
theorem ORs.getN : ∀ {fs : List (Str × V)} {os : List O} {A : AS} {m : Str} {o : O}, ORs K cl F H os (fs.map (·.2)) A → Lw.getN (fs.map (·.1)) os m = some o → ∃ v B, fs.lookup m = some v ∧ OR K cl F H o v B ∧ ∀ a, B a → A a
  | [], _, _, _, _, _, e => by rw [List.map_nil, Lw.getN] at e; cases e; intros; contradiction
  | (n, v) :: fs, os, A, m, o, h, e => by
    rw [List.map_cons] at h e
    cases h with
    | cons h t n2 =>
      rw [Lw.getN] at e
      rw [List.lookup_cons]
      split at e
      · rename_i hn
        have hn : n = m := hn
        cases e
        subst hn
        refine ⟨v, _, by simp, h, fun _ z => .inl z⟩
      · rename_i hn
        obtain ⟨w, B, h1, h2, h3⟩ := ORs.getN t e
        have : (m == n) = false := beq_eq_false_iff_ne.mpr fun z => hn z.symm
        exact ⟨w, B, by rw [this]; exact h1, h2, fun a z => .inr (h3 a z)⟩
theorem OR.sel {e : Sel} {o o' : O} {v0 : V} {A : AS} (h : OR K cl F H o v0 A) (q : o.sel e = some o') : ∃ v B, SelV H v0 e v ∧ OR K cl F H o' v B ∧ ∀ a, B a → A a := by
  unfold O.sel at q
  split at q
  · cases h with
    | lst k1 k2 k3 k4 =>
      obtain ⟨v, B, h1, h2, h3⟩ := k2.get q
      exact ⟨v, B, ⟨_, _, rfl, k1, h1⟩, h2, fun a z => .inr (h3 a z)⟩
  · cases h with
    | ins k1 k2 k3 k4 k5 =>
      obtain ⟨v, B, h1, h2, h3⟩ := k3.getN q
      exact ⟨v, B, ⟨_, _, _, _, rfl, k1, h1⟩, h2, fun a z => .inr (h3 a z)⟩
  · cases q
theorem SelV.uniq {e : Sel} {v0 v w : V} (a : SelV H v0 e v) (b : SelV H v0 e w) : v = w := by
  cases e with
  | i k =>
    obtain ⟨a, vs, rfl, h2, h3⟩ := a
    obtain ⟨a', vs', e1, h2', h3'⟩ := b
    cases e1
    rw [h2] at h2'; cases h2'
    rw [h3] at h3'; exact Option.some.inj h3'
  | f n =>
    obtain ⟨a, C, dx, fs, rfl, h2, h3⟩ := a
    obtain ⟨a', C', dx', fs', e1, h2', h3'⟩ := b
    cases e1
    rw [h2] at h2'; cases h2'
    rw [h3] at h3'; exact Option.some.inj h3'
  | k x => exact a.elim
/-- the tree within a tree -/
theorem OR.walk : ∀ {p : List Sel} {o o' : O} {v0 v : V} {A : AS}, OR K cl F H o v0 A → O.walk p o = some o' → WalkV H v0 p v → ∃ B, OR K cl F H o' v B ∧ ∀ a, B a → A a
  | [], o, o', v0, v, A, h, e, w => by
    rw [O.walk] at e
    cases e
    cases w
    exact ⟨A, h, fun _ z => z⟩
  | s :: p, o, o', v0, v, A, h, e, w => by
    obtain ⟨v1, w1, w2⟩ := w
    rw [O.walk] at e
    cases q : o.sel s with
    | none => rw [q] at e; cases e
    | some o1 =>
      rw [q] at e
      obtain ⟨v1', B, z1, z2, z3⟩ := h.sel q
      obtain rfl := w1.uniq z1
      obtain ⟨B2, y1, y2⟩ := OR.walk z2 e w2
      exact ⟨B2, y1, fun a z => z3 a (y2 a z)⟩
/-- what a handle means -/
theorem HR.look (S : SR K cl F A ro σ H) (r : HR K cl F H A σ h v Ao) (e : h.look ro = some o) : ∃ B, OR K cl F H o v B ∧ ∀ a, B a → A a ∨ Ao a := by
  cases h with
  | tm x =>
    cases e
    exact ⟨Ao, r.1, fun a z => .inr z⟩
  | sl i p =>
    obtain ⟨⟨v0, h1, h2⟩, h3⟩ := r
    simp only [Hd.look] at e
    split at e
    · rename_i o1 hi
      obtain ⟨v1, Ai, B, k1, k2, k3, k4, k5⟩ := S.rs.out hi
      rw [h1] at k1
      cases k1
      obtain ⟨B2, y1, y2⟩ := k2.walk e h2
      exact ⟨B2, y1, fun a z => .inl ((k5 a).mpr (.inl (y2 a z)))⟩
    · cases e
theorem HR.lookD (S : SR K cl F A ro σ H) (r : HR K cl F H A σ h v Ao) (e : h.lookD ro = some x) : Dq K H v x := by
  unfold Hd.lookD at e
  cases q : h.look ro with
  | none => rw [q] at e; cases e
  | some o =>
    rw [q] at e
    obtain ⟨B, h1, _⟩ := r.look S q
    exact h1.dp S.sub (fun _ _ => rfl) x e
theorem HR.lookF (S : SR K cl F A ro σ H) (r : HR K cl F H A σ h v Ao) (e : h.lookF ro = some x) : FV K F H v x := by
  unfold Hd.lookF at e
  cases q : h.look ro with
  | none => rw [q] at e; cases e
  | some o =>
    rw [q] at e
    obtain ⟨B, h1, _⟩ := r.look S q
    exact h1.fv S.sub e
/-- a value is frozen -/
theorem HR.esc (S : SR K cl F A ro σ H) (r : HR K cl F H A σ h v Ao) (e : h.esc ro = .ok x ro') : ∃ F' A', SR K cl F' A' ro' σ H ∧ Dq K F' v x ∧ Stp F H (fun a => A a ∨ Ao a) F' H A' ∧ ∀ a, A' a → A a := by
  cases h with
  | tm o =>
    obtain ⟨h1, h2⟩ := r
    unfold Hd.esc at e
    dsimp only at e
    cases q : o.toD with
    | none => rw [q] at e; cases e
    | some y =>
      rw [q] at e
      cases e
      obtain ⟨F', q1, q2, q3, q4⟩ := S.freezeTemp h1 h2 q
      exact ⟨F', A, q3, q4, ⟨q1, fun a o e _ => e, fun a z => (q2 a z).elim .inl fun z => .inr (.inr (.inr z)), fun a z => .inl (.inl z)⟩, fun a z => z⟩
  | sl i p =>
    obtain ⟨⟨v0, h1, h2⟩, h3⟩ := r
    cases p with
    | cons s p => unfold Hd.esc at e; cases e
    | nil =>
      cases h2
      unfold Hd.esc at e
      dsimp only at e
      split at e
      · rename_i y hi
        cases e
        obtain ⟨v1, Ai, B, k1, k2, k3, k4, k5⟩ := S.rs.out hi
        rw [h1] at k1
        cases k1
        cases k2 with
        | d k2 => exact ⟨F, A, S, k2, Stp.refl.frame Ao |>.weak (fun a z => .inl z), fun a z => z⟩
      · rename_i o hi
        split at e
        · rename_i y hy
          cases e
          obtain ⟨v1, F', A', k1, k2, k3, k4⟩ := S.freezeSlot ‹_› hy
          rw [h1] at k1
          cases k1
          refine ⟨F', A', k3, k2, (k4.frame Ao).weak (fun a z => .inl z), fun a z => ?_⟩
          rcases k4.na a z with z2 | z2
          · exact z2
          · exact absurd z2 (k3.rs.own a z).2
        · cases e
      · cases e
theorem HR.bool (S : SR K cl F A ro σ H) (r : HR K cl F H A σ h v Ao) {b : Bool} (e : h.bool ro = some b) : v = .bl b := by
  unfold Hd.bool at e
  split at e
  · rename_i b' h2
    cases e
    exact (r.lookD S h2).bool_eq
  · cases e
end
end Lw

set_option maxRecDepth 100000
set_option maxHeartbeats 1000000
/-! Lw5: the judgement, and its steps. -/
namespace Lw
open PySem L2

/-- what is fixed through a law -/
structure Gx where
  P : Program
  w : World
  K : PySem.W.Frag
  mg : Str → Option Value
  base : Heap
  cl : Str → Option Addr
  G : GE
/-- what a def promises that answers as f -/
def PSpec (g : Gx) (f : List O → FOut) : Sp := fun vs H Q E => ∃ F A os, Sub F H ∧ ORs g.K g.cl F H os vs A ∧
  match f os with
  | .ok o _ => ∀ v F' H' Ao, Stp F H A F' H' Ao → Sub F' H' → OR g.K g.cl F' H' o v Ao → Q v H'
  | .exc x _ => ∀ C F' H', g.mg x.cls = some (.ref C) → Stp F H A F' H' (fun _ => False) → Sub F' H' → E (.ref C) none H'
  | .stuck => False
structure XOk (g : Gx) (c : CC) (k : Nat) (W : WX) (X : Cx) : Prop where
  pr : X.prog = g.P
  ww : X.w = g.w
  kk : X.K = g.K
  mm : X.mg = g.mg
  bb : X.base = g.base
  hN : X.N = c.N
  nd : c.N.Nodup
  sc : X.env.scope = c.sc
  calm : X.calm = c.calm
  room : c.calm = true → Room k X.A
  un : X.A.units + 200 < cLine
  fns : ∀ f x, c.fns[f]? = some x → ∃ ad fd ps, g.mg x = some (.ref ad) ∧ FnOk g.P g.w g.K g.mg g.base (L2.CX g.P g.w) k ad fd ps (PSpec g (g.G.call f)) ∧ PySem.W.keepIn g.K (.ref ad) = true ∧ Binds g.K fd ps []
  blt : ∀ x, x ∈ c.blt → g.mg x = none
  gls : ∀ x, x ∈ c.gls → ∃ u v d, g.mg x = some u ∧ RelV v u ∧ g.G.glob x = some d ∧ ∀ F, Dq g.K F v d
  fnc : ∀ x, (match c.fnB with | none => true | some ns => ns.lookup x == some .cell) = true → X.fn x = true
  exs : ∀ x, x ∈ c.exs → ∃ (C : Addr) (B newId initId : String) (bmB : List Value), ExcBaseFacts B newId initId bmB ∧ PySem.W.excIn g.K C bmB newId = true ∧ g.mg x = some (.ref C) ∧ PySem.W.keepIn g.K (.ref C) = true ∧
    PySem.W.subIn g.K (.ref C) (.type "BaseException") = some true ∧ PySem.W.typeIn g.K (.ref C) = some (.type "type")
  exm : ∀ x y b, g.G.exm x y = some b → ∃ (C : Addr) (u : Value), g.mg x = some (.ref C) ∧ g.mg y = some u ∧ PySem.W.exmOne g.K (.ref C) u = some b
  tk : Takes X W
  stk0 : c.fnB.isNone = true → X.stack = X.env :: X.outer ∧ X.env.frame = some X.env.locals
section
variable {g : Gx} {c : CC} {k : Nat} {W : WX} {X : Cx}
theorem XOk.hu (ok : XOk g c k W X) : X.A.units + 65 < cLine := by
  have := ok.un
  omega
end

/-- quiet code leaves all objects as they are; the trees of its value are new -/
structure Qt (H H' : Hp) (Ao : AS) : Prop where
  s : Sub H H'
  f : ∀ a, Ao a → H a = none
theorem Sub.none {H H' : Hp} (s : Sub H H') {a : Addr} (h : H' a = none) : H a = none := by
  cases e : H a with
  | none => rfl
  | some o => rw [s a o e] at h; cases h
theorem Sub.qt {H H1 H' : Hp} {Ao : AS} (s : Sub H H1) (q : Qt H1 H' Ao) : Qt H H' Ao := ⟨s.trans q.s, fun a z => s.none (q.f a z)⟩
theorem Qt.join {H H1 H' : Hp} {Ao Bo : AS} (p : Qt H H1 Ao) (q : Qt H1 H' Bo) : Qt H H' (fun a => Ao a ∨ Bo a) := ⟨p.s.trans q.s, fun a z => z.elim (p.f a) fun z => p.s.none (q.f a z)⟩
theorem Qt.refl {H : Hp} : Qt H H (fun _ => False) := ⟨.refl _, fun _ z => z.elim⟩
/-! ### what follows an outcome -/
def Post (g : Gx) (W : WX) (q : Bool) (F : Hp) (A : AS) (σ : L2.St) (H : Hp) : Out Hd → VK → Prop
  | .ok h ro', Q => ∀ v F' H' A' Ao, Stp F H A F' H' (fun a => A' a ∨ Ao a) → SR g.K g.cl F' A' ro' σ H' → HR g.K g.cl F' H' A' σ h v Ao → (q = true → Qt H H' Ao) → Q v H'
  | .exc x ro', _ => ∀ C F' H' A', g.mg x.cls = some (.ref C) → Stp F H A F' H' A' → SR g.K g.cl F' A' ro' σ H' → W (.ref C) none σ H'
  | .stuck, _ => False
def PostT (g : Gx) (W : WX) (q : Bool) (F : Hp) (A : AS) (σ : L2.St) (H : Hp) : Out Hd → (Bool → Hp → Prop) → Prop
  | .ok h ro', Q => ∃ b, h.bool ro' = some b ∧ ∀ F' H' A', Stp F H A F' H' A' → SR g.K g.cl F' A' ro' σ H' → (q = true → Sub H H') → Q b H'
  | .exc x ro', _ => ∀ C F' H' A', g.mg x.cls = some (.ref C) → Stp F H A F' H' A' → SR g.K g.cl F' A' ro' σ H' → W (.ref C) none σ H'
  | .stuck, _ => False
/-- several values on the way, with their trees -/
def HRs (K : PySem.W.Frag) (cl : Str → Option Addr) (F H : Hp) (A : AS) (σ : L2.St) : List Hd → List V → AS → Prop
  | [], vs, Ao => vs = [] ∧ ∀ a, ¬ Ao a
  | h :: hs, vs, Ao => ∃ v ws B C, vs = v :: ws ∧ HR K cl F H A σ h v B ∧ HRs K cl F H A σ hs ws C ∧ (∀ a, B a → C a → False) ∧ ∀ a, Ao a ↔ B a ∨ C a
def PostA (g : Gx) (W : WX) (q : Bool) (F : Hp) (A : AS) (σ : L2.St) (H : Hp) : Out (List Hd) → (List V → Hp → Prop) → Prop
  | .ok hs ro', Q => ∀ vs F' H' A' Ao, Stp F H A F' H' (fun a => A' a ∨ Ao a) → SR g.K g.cl F' A' ro' σ H' → HRs g.K g.cl F' H' A' σ hs vs Ao → (q = true → Qt H H' Ao) → Q vs H'
  | .exc x ro', _ => ∀ C F' H' A', g.mg x.cls = some (.ref C) → Stp F H A F' H' A' → SR g.K g.cl F' A' ro' σ H' → W (.ref C) none σ H'
  | .stuck, _ => False
def rdE (g : Gx) (W : WX) (q : Bool) (f : Ro → Out Hd) : TE := fun σ H Q => ∃ F A ro, SR g.K g.cl F A ro σ H ∧ Post g W q F A σ H (f ro) Q
def rdT (g : Gx) (W : WX) (q : Bool) (f : Ro → Out Hd) : TT := fun σ H Q => ∃ F A ro, SR g.K g.cl F A ro σ H ∧ PostT g W q F A σ H (f ro) Q
def rdA (g : Gx) (W : WX) (q : Bool) (f : Ro → Out (List Hd)) : TA := fun σ H Q => ∃ F A ro, SR g.K g.cl F A ro σ H ∧ PostA g W q F A σ H (f ro) Q
section
variable {g : Gx} {W : WX} {q qa : Bool} {F F1 H H1 : Hp} {A A1 T : AS} {σ : L2.St} {Q R : VK}
theorem Post.bind {r : Out Hd} {f : Hd → Ro → Out Hd} (h : Post g W q F A σ H (r.bind f) Q)
    (k : ∀ hd ro1, r = .ok hd ro1 → Post g W q F A σ H (f hd ro1) Q → ∀ v F1 H1 A1 Ao, Stp F H A F1 H1 (fun a => A1 a ∨ Ao a) → SR g.K g.cl F1 A1 ro1 σ H1 → HR g.K g.cl F1 H1 A1 σ hd v Ao → (qa = true → Qt H H1 Ao) → R v H1) : Post g W qa F A σ H r R := by
  cases r with
  | ok hd ro1 => exact k hd ro1 rfl h
  | exc x ro1 => exact h
  | stuck => exact h
theorem Post.bindA {r : Out (List Hd)} {f : List Hd → Ro → Out Hd} {R : List V → Hp → Prop} (h : Post g W q F A σ H (r.bind f) Q)
    (k : ∀ hd ro1, r = .ok hd ro1 → Post g W q F A σ H (f hd ro1) Q → ∀ v F1 H1 A1 Ao, Stp F H A F1 H1 (fun a => A1 a ∨ Ao a) → SR g.K g.cl F1 A1 ro1 σ H1 → HRs g.K g.cl F1 H1 A1 σ hd v Ao → (qa = true → Qt H H1 Ao) → R v H1) : PostA g W qa F A σ H r R := by
  cases r with
  | ok hd ro1 => exact k hd ro1 rfl h
  | exc x ro1 => exact h
  | stuck => exact h
theorem PostA.bind {r : Out Hd} {f : Hd → Ro → Out (List Hd)} {Q : List V → Hp → Prop} (h : PostA g W q F A σ H (r.bind f) Q)
    (k : ∀ hd ro1, r = .ok hd ro1 → PostA g W q F A σ H (f hd ro1) Q → ∀ v F1 H1 A1 Ao, Stp F H A F1 H1 (fun a => A1 a ∨ Ao a) → SR g.K g.cl F1 A1 ro1 σ H1 → HR g.K g.cl F1 H1 A1 σ hd v Ao → (qa = true → Qt H H1 Ao) → R v H1) : Post g W qa F A σ H r R := by
  cases r with
  | ok hd ro1 => exact k hd ro1 rfl h
  | exc x ro1 => exact h
  | stuck => exact h
theorem Post.shift {r : Out Hd} (h : Post g W q F A σ H r Q) (st : Stp F H A F1 H1 (fun a => A1 a ∨ T a)) (hq : q = true → Sub H H1) : Post g W q F1 A1 σ H1 r Q := by
  cases r with
  | ok hd ro1 =>
    intro v F' H' A' Ao s2 S hv hs
    exact h v F' H' A' Ao ((st.trans (s2.frame T)).weak fun a z => .inl z) S hv fun e => (hq e).qt (hs e)
  | exc x ro1 =>
    intro C F' H' A' hm s2 S
    exact h C F' H' A' hm ((st.trans (s2.frame T)).weak fun a z => .inl z) S
  | stuck => exact h
theorem PostT.shift {r : Out Hd} {Q : Bool → Hp → Prop} (h : PostT g W q F A σ H r Q) (st : Stp F H A F1 H1 (fun a => A1 a ∨ T a)) (hq : q = true → Sub H H1) : PostT g W q F1 A1 σ H1 r Q := by
  cases r with
  | ok hd ro1 =>
    obtain ⟨b, hb, h⟩ := h
    exact ⟨b, hb, fun F' H' A' s2 S hs => h F' H' A' ((st.trans (s2.frame T)).weak fun a z => .inl z) S fun e => (hq e).trans (hs e)⟩
  | exc x ro1 =>
    intro C F' H' A' hm s2 S
    exact h C F' H' A' hm ((st.trans (s2.frame T)).weak fun a z => .inl z) S
  | stuck => exact h
theorem Post.mono {q q' : Bool} {r : Out Hd} (h : Post g W q F A σ H r Q) (e : q = true → q' = true) : Post g W q' F A σ H r Q := by
  cases r with
  | ok hd ro1 => exact fun v F' H' A' Ao st S hv hs => h v F' H' A' Ao st S hv fun z => hs (e z)
  | exc x ro1 => exact h
  | stuck => exact h
theorem PostT.mono {q q' : Bool} {r : Out Hd} {Q : Bool → Hp → Prop} (h : PostT g W q F A σ H r Q) (e : q = true → q' = true) : PostT g W q' F A σ H r Q := by
  cases r with
  | ok hd ro1 =>
    obtain ⟨b, hb, h⟩ := h
    exact ⟨b, hb, fun F' H' A' st S hs => h F' H' A' st S fun z => hs (e z)⟩
  | exc x ro1 => exact h
  | stuck => exact h
theorem PostA.mono {q q' : Bool} {r : Out (List Hd)} {Q : List V → Hp → Prop} (h : PostA g W q F A σ H r Q) (e : q = true → q' = true) : PostA g W q' F A σ H r Q := by
  cases r with
  | ok hd ro1 => exact fun v F' H' A' Ao st S hv hs => h v F' H' A' Ao st S hv fun z => hs (e z)
  | exc x ro1 => exact h
  | stuck => exact h
theorem PostA.shift {r : Out (List Hd)} {Q : List V → Hp → Prop} (h : PostA g W q F A σ H r Q) (st : Stp F H A F1 H1 (fun a => A1 a ∨ T a)) (hq : q = true → Sub H H1) : PostA g W q F1 A1 σ H1 r Q := by
  cases r with
  | ok hd ro1 =>
    intro v F' H' A' Ao s2 S hv hs
    exact h v F' H' A' Ao ((st.trans (s2.frame T)).weak fun a z => .inl z) S hv fun e => (hq e).qt (hs e)
  | exc x ro1 =>
    intro C F' H' A' hm s2 S
    exact h C F' H' A' hm ((st.trans (s2.frame T)).weak fun a z => .inl z) S
  | stuck => exact h
/-- a data result is handed on -/
theorem Post.res {ro : Ro} {o : O} {v : V} {H' : Hp} (h : Post g W q F A σ H (.ok (.tm o) ro) Q) (S : SR g.K g.cl F A ro σ H) (r : Res g.K F H o v H') : Q v H' := by
  have old : ∀ {x : PyData}, o = .d x → H' = H → Dq g.K F v x → Q v H' := fun {x} e1 e2 hx => by
    subst e1; subst e2
    exact h v F H' A (fun _ => False) (Stp.refl.weak fun a z => z.elim id False.elim) S ⟨.d hx, fun _ z => z.elim⟩ fun _ => .refl
  cases o with
  | d x =>
    cases x with
    | tuple xs =>
      rcases r with ⟨e, hx⟩ | ⟨p, vs, rfl, hp, rfl, hx⟩
      · exact old rfl e hx
      · obtain ⟨S1, s1⟩ := S.newF (ob := .tup vs) hp
        have fp : F p = none := by
          cases e : F p with
          | none => rfl
          | some u => rw [S.sub p u e] at hp; cases hp
        refine h _ _ _ A (fun _ => False) (s1.weak fun a z => z.elim id False.elim) S1 ⟨.d (.tup (SqT.of upd_same) (Dq.monoAll (Sub.new fp) _ _ hx)), fun _ z => z.elim⟩ fun _ => ⟨Sub.new hp, fun _ z => z.elim⟩
    | none => exact old rfl r.1 r.2
    | bool _ => exact old rfl r.1 r.2
    | int _ => exact old rfl r.1 r.2
    | str _ => exact old rfl r.1 r.2
    | list _ => exact old rfl r.1 r.2
    | dict _ => exact old rfl r.1 r.2
  | lst os =>
    obtain ⟨p, vs, xs, rfl, rfl, hp, rfl, hx⟩ := r
    obtain ⟨S1, s1, fp, nA⟩ := S.newO (ob := .lst vs) hp
    refine h _ _ _ A (fun a => a = p ∨ False) ⟨s1.fr, s1.kp, s1.nf, fun a z => ?_⟩ S1 ⟨.lst upd_same (ORs.ofData hx) (fun z => z) fp, fun a z w => ?_⟩ fun _ => ⟨Sub.new hp, fun a z => z.elim (fun z => by rw [z]; exact hp) False.elim⟩
    · rcases z with z | z | z
      · exact .inl z
      · subst z; exact .inr hp
      · exact z.elim
    · rcases z with z | z
      · subst z; exact nA w
      · exact z
  | dct _ _ => exact r.elim
  | ins _ _ _ => exact r.elim
  | scr _ => exact r.elim
/-- a scalar is handed on -/
theorem Post.sc {ro : Ro} {x : PyData} {v : V} (h : Post g W q F A σ H (.ok (.tm (.d x)) ro) Q) (S : SR g.K g.cl F A ro σ H) (hx : Dq g.K F v x) : Q v H :=
  h.res S (res_old' hx)
end
end Lw

set_option maxRecDepth 100000
set_option maxHeartbeats 1000000
/-! Lw6: the checker, and the soundness of expressions. -/
namespace Lw
open PySem L2

def Pr.nm : Pr → Str
  | .len => "len" | .int => "int" | .abs => "abs" | .max => "max" | .min => "min" | .sum => "sum" | .all => "all" | .any => "any" | .tuple => "tuple" | .list => "list" | .sorted => "sorted"
def Pr.calm : Pr → Bool
  | .max => true | .min => true | .sum => true | .all => true | .any => true | _ => false
def Tn.nm : Tn → Str
  | .int => "int" | .bool => "bool" | .str => "str" | .tuple => "tuple" | .list => "list"
/-- not a starred item, a slice, a set -/
def plainE : Expr → Bool
  | .Starred _ _ => false
  | .Slice _ _ _ _ => false
  | .Set _ _ _ => false
  | _ => true
/-- a test by its value: for expressions that the model tests by their truth -/
def testPlain : Expr → Bool
  | .UnaryOp .Not _ _ => false
  | .BoolOp _ _ _ => false
  | .IfExp _ _ _ _ => false
  | .Compare _ _ _ _ => false
  | _ => true
/-- a plain place, for a method's call -/
def baseB : Expr → Bool
  | .Name _ _ => true
  | .Attribute _ _ _ => true
  | .Subscript _ _ _ => true
  | _ => false
def visB (c : CC) (x : Str) : Bool := match c.sc.names.lookup x with
  | some .local => true
  | some .cell => true
  | some .free => true
  | _ => false
def glbB (c : CC) (x : Str) : Bool := decide (c.sc.names.lookup x = some .globalImplicit) && !(x == ("__debug__" : Str)) && !(x == ("__name__" : Str))
def bltB (c : CC) (x : Str) : Bool := glbB c x && c.blt.contains x
/-- a target's slots -/
def tgSlots : CE → List Nat
  | .var i => [i]
  | .tup as => tgSlots as
  | .cons a as => tgSlots a ++ tgSlots as
  | _ => []
def locB (c : CC) (x : Str) : Bool := match c.sc.names.lookup x with
  | some .local => true
  | some .cell => (match c.fnB with
    | none => true
    | some ns => ns.lookup x == some .cell)
  | _ => false
mutual
/-- targets: names, tuples of targets -/
def chkT (c : CC) : CE → Expr → Bool
  | .var i, e => match e with
    | .Name x _ => decide (c.N[i]? = some x) && locB c x
    | _ => false
  | .tup ts, e => match e with
    | .Tuple es _ _ => chkTs c ts es
    | _ => false
  | _, _ => false
def chkTs (c : CC) : CE → List Expr → Bool
  | .nil, es => match es with
    | [] => true
    | _ => false
  | .cons t ts, es => match es with
    | e :: es => plainE e && chkT c t e && chkTs c ts es
    | _ => false
  | _, _ => false
end
mutual
def chk (c : CC) : CE → Expr → Bool
  | .var i, e => match e with
    | .Name x _ => decide (c.N[i]? = some x) && visB c x && !(x == ("__debug__" : Str)) && !(x == ("__classdict__" : Str))
    | _ => false
  | .int n, e => match e with
    | .Constant (.int m) _ _ => decide (n = m)
    | _ => false
  | .bl b, e => match e with
    | .Constant (.bool b') _ _ => b == b'
    | _ => false
  | .non, e => match e with
    | .Constant .none _ _ => true
    | _ => false
  | .str s, e => match e with
    | .Constant (.str s') _ _ => decide (s = s')
    | _ => false
  | .glob x, e => match e with
    | .Name y _ => decide (x = y) && glbB c x && c.gls.contains x
    | _ => false
  | .bin op a b, e => match e with
    | .BinOp x op' y _ => decide (op = op') && chk c a x && chk c b y
    | _ => false
  | .neg a, e => match e with
    | .UnaryOp .USub x _ => chk c a x
    | _ => false
  | .not a, e => match e with
    | .UnaryOp .Not x _ => chk c a x
    | _ => false
  | .and a r, e => match e with
    | .BoolOp .And (x :: y :: rest) pos => chk c a x && chk c r (.BoolOp .And (y :: rest) pos)
    | _ => false
  | .or a r, e => match e with
    | .BoolOp .Or (x :: y :: rest) pos => chk c a x && chk c r (.BoolOp .Or (y :: rest) pos)
    | _ => false
  | .one a, e => match e with
    | .BoolOp _ [x] _ => chk c a x
    | _ => false
  | .cmp op a b, e => match e with
    | .Compare x [op'] [y] _ => decide (op = op') && chk c a x && chk c b y && plainE y
    | _ => false
  | .chain o1 o2 a b d, e => match e with
    | .Compare x [p1, p2] [y, z] _ => decide (o1 = p1) && decide (o2 = p2) && chk c a x && chk c b y && chk c d z && plainE z
    | _ => false
  | .ifx t a b, e => match e with
    | .IfExp t' a' b' _ => chk c t t' && chk c a a' && chk c b b'
    | _ => false
  | .tup as, e => match e with
    | .Tuple es _ _ => chks c as es
    | _ => false
  | .lst as, e => match e with
    | .List es _ => chks c as es
    | _ => false
  | .idx a i, e => match e with
    | .Subscript x y _ => chk c a x && chk c i y && plainE y
    | _ => false
  | .slc a lo hi, e => match e with
    | .Subscript x (.Slice l u none _) _ => chk c a x && chkO c lo l && chkO c hi u
    | _ => false
  | .call f as, e => match e with
    | .Call (.Name x _) (e :: es) [] _ => c.calm && decide (c.fns[f]? = some x) && glbB c x && chks c as (e :: es)
    | _ => false
  | .prim p as, e => match e with
    | .Call (.Name x _) (e :: es) [] _ => (c.calm || !p.calm) && decide (x = p.nm) && bltB c x && chks c as (e :: es)
    | _ => false
  | .isi a T, e => match e with
    | .Call (.Name x _) [y, .Name z _] [] _ => decide (x = ("isinstance" : Str)) && bltB c x && decide (z = T.nm) && bltB c z && chk c a y && plainE y
    | _ => false
  | .comp q own elt tg it ifs, e => match e with
    | .ListComp e' [⟨t', i', ifs', 0⟩] scope _ => c.calm && c.fnB.isNone && chkI c it t' i' && plainE i' && blkC c.N c.sc scope own && (tgSlots tg).all (fun i => (own.map (·.2)).contains i) &&
      chkT { c with sc := relS scope c.sc, fnB := some scope.names } tg t' && chks { c with sc := relS scope c.sc, fnB := some scope.names } ifs ifs' && chk { c with sc := relS scope c.sc, fnB := some scope.names } elt e'
    | _ => false
  | .nox (.comp q own elt tg it ifs), e => match e with
    | .ListComp e' [⟨t', i', ifs', 0⟩] scope _ => c.calm && chkI c it t' i' && plainE i' && blkC c.N c.sc scope own && (tgSlots tg).all (fun i => (own.map (·.2)).contains i) &&
      chkT { c with sc := relS scope c.sc, fnB := some scope.names } tg t' && chks { c with sc := relS scope c.sc, fnB := some scope.names } ifs ifs' && chk { c with sc := relS scope c.sc, fnB := some scope.names } elt e'
    | _ => false
  | .mth m o as, e => match e with
    | .Call (.Attribute o' a apos) (e :: es) [] cpos => decide (m ≠ .pop) && decide (a = m.nm) && baseB o' && decide (apos.endLine = cpos.line) && decide (es.length < 20) && chk c o o' && chks c as (e :: es)
    | _ => false
  | .rev a, e => match e with
    | .Subscript x (.Slice none none (some (.UnaryOp .USub (.Constant (.int n) _ _) _)) _) _ => decide (n = 1) && chk c a x
    | _ => false
  | .rgl t a b, e => match e with
    | .Call (.Name x _) [.Call (.Name y _) [u] [] _] [] _ => c.calm && isNil b && decide (x = if t then ("tuple" : Str) else "list") && bltB c x && decide (y = ("range" : Str)) && bltB c y && plainE u && chk c a u
    | .Call (.Name x _) [.Call (.Name y _) [u, v] [] _] [] _ => c.calm && !(isNil b) && decide (x = if t then ("tuple" : Str) else "list") && bltB c x && decide (y = ("range" : Str)) && bltB c y && plainE u && plainE v && chk c a u && chk c b v
    | _ => false
  | .share i a, e => testPlain e && chk c a e
  | .sset a, e => match e with
    | .Call (.Name x _) [.Call (.Name y _) [u] [] _] [] _ => c.calm && decide (x = ("sorted" : Str)) && bltB c x && decide (y = ("set" : Str)) && bltB c y && plainE u && chk c a u
    | _ => false
  | .bad, _ => true
  | _, _ => false
def chks (c : CC) : CE → List Expr → Bool
  | .nil, es => match es with
    | [] => true
    | _ => false
  | .cons a as, es => match es with
    | e :: es => plainE e && chk c a e && chks c as es
    | _ => false
  | _, _ => false
def chkO (c : CC) : CE → Option Expr → Bool
  | .nil, e => match e with
    | none => true
    | _ => false
  | .cons a .nil, e => match e with
    | some e => chk c a e
    | _ => false
  | _, _ => false
def chkI (c : CC) : CE → Expr → Expr → Bool
  | .seq a, _, e => plainE e && chk c a e
  | .rng as, _, e => match e with
    | .Call (.Name x _) [e] [] _ => decide (x = ("range" : Str)) && bltB c x && chks c as [e]
    | .Call (.Name x _) [e, e2] [] _ => decide (x = ("range" : Str)) && bltB c x && chks c as [e, e2]
    | _ => false
  | .enum as, .Tuple _ _ _, e => match e with
    | .Call (.Name x _) [e] [] _ => decide (x = ("enumerate" : Str)) && bltB c x && chks c as [e]
    | _ => false
  | .zip as, .Tuple _ _ _, e => match e with
    | .Call (.Name x _) [e, e2] [] _ => decide (x = ("zip" : Str)) && bltB c x && chks c as [e, e2]
    | _ => false
  | _, _, _ => false
end
section
variable {g : Gx} {c : CC} {k : Nat} {W : WX} {X : Cx}
theorem star_of {e : Expr} {es : List Expr} {env : Env} (h : plainE e = true) : starEach (e :: es) env = (false, eval e env) :: starEach es env := by
  cases e <;> first | rfl | cases h
theorem ix_of {b : Expr} (h : plainE b = true) : PlainIx b := fun o i => by
  cases b <;> first | rfl | cases h
theorem mark_of {b : Expr} {op : CmpOp} (h : plainE b = true) : behindInMarks op b = false := by
  cases b <;> first | rfl | cases h
theorem fold_of {e : Expr} {env : Env} (h : plainE e = true) (x : Value) : foldedSetIterable e env x = pure x := by
  cases e <;> first | rfl | cases h
theorem XOk.vis (ok : XOk g c k W X) {x : Str} (h : visB c x = true) : Vis X.env.scope x := by
  unfold visB at h
  rw [ok.sc]
  unfold Vis
  split at h
  · exact .inl (by assumption)
  · exact .inr (.inl (by assumption))
  · exact .inr (.inr (by assumption))
  · cases h
theorem XOk.loc (ok : XOk g c k W X) {x : Str} (h : locB c x = true) : L2.Loc X.env.scope x ∧ (X.fn x = true ∨ X.env.scope.names.lookup x = some .local) := by
  unfold locB at h
  rw [ok.sc]
  unfold L2.Loc
  split at h
  · exact ⟨.inl (by assumption), .inr (by assumption)⟩
  · exact ⟨.inr (by assumption), .inl (ok.fnc x h)⟩
  · cases h
theorem XOk.glb (ok : XOk g c k W X) {x : Str} (h : glbB c x = true) : Gl X x ∧ (x == ("__debug__" : Str)) = false ∧ x ≠ "__name__" := by
  unfold glbB at h
  simp only [Bool.and_eq_true, decide_eq_true_eq, Bool.not_eq_true'] at h
  refine ⟨?_, h.1.2, ?_⟩
  · show X.env.scope.names.lookup x = _
    rw [ok.sc]
    exact h.1.1
  · exact beq_eq_false_iff_ne.mp h.2
theorem XOk.bltn (ok : XOk g c k W X) {x : Str} (h : bltB c x = true) : Gl X x ∧ (x == ("__debug__" : Str)) = false ∧ x ≠ "__name__" ∧ X.mg x = none := by
  unfold bltB at h
  rw [Bool.and_eq_true] at h
  obtain ⟨h1, h2, h3⟩ := ok.glb h.1
  refine ⟨h1, h2, h3, ?_⟩
  rw [ok.mm]
  exact ok.blt x (by simpa using h.2)

/-- a slice's part, read as a list of arguments -/
def tOof (t : TA) : TO := fun σ H Q => t σ H fun vs H1 => (vs = [] ∧ Q none H1) ∨ ∃ i, vs = [.int i] ∧ Q (some i) H1
/-- what a loop gets from an iterator: the i-th of xs at the i-th turn, while the objects of B stay -/
structure IterFor (K : PySem.W.Frag) (F B : Hp) (J : It) (xs : List PyData) : Prop where
  go : ∀ (i : Nat) (x : PyData) (H : Hp), xs[i]? = some x → Sub B H → J.go i H ∧ ∀ v H', J.yld i H v H' → Res K F H (.d x) v H'
  stop : ∀ (H : Hp), Sub B H → J.stop xs.length H
def PostI (g : Gx) (W : WX) (q z : Bool) (F : Hp) (A : AS) (σ : L2.St) (H : Hp) : Out (List PyData) → (It → Hp → Prop) → Prop
  | .ok xs ro', R => ∀ J F' H' A', Stp F H A F' H' A' → SR g.K g.cl F' A' ro' σ H' → IterFor g.K F' (if z then F' else H') J xs → (q = true → Sub H H') → R J H'
  | .exc x ro', _ => ∀ C F' H' A', g.mg x.cls = some (.ref C) → Stp F H A F' H' A' → SR g.K g.cl F' A' ro' σ H' → W (.ref C) none σ H'
  | .stuck, _ => False
def rdI (g : Gx) (W : WX) (q z : Bool) (f : Ro → Out (List PyData)) : TI := fun σ H R => ∃ F A ro, SR g.K g.cl F A ro σ H ∧ PostI g W q z F A σ H (f ro) R
/-! ### the tests of a clause -/
def PostB (g : Gx) (W : WX) (q : Bool) (F : Hp) (A : AS) (σ : L2.St) (H : Hp) : Out Bool → (Bool → Hp → Prop) → Prop
  | .ok b ro', Q => ∀ F' H' A', Stp F H A F' H' A' → SR g.K g.cl F' A' ro' σ H' → (q = true → Sub H H') → Q b H'
  | .exc x ro', _ => ∀ C F' H' A', g.mg x.cls = some (.ref C) → Stp F H A F' H' A' → SR g.K g.cl F' A' ro' σ H' → W (.ref C) none σ H'
  | .stuck, _ => False
def rdB (g : Gx) (W : WX) (q : Bool) (f : Ro → Out Bool) : TT := fun σ H Q => ∃ F A ro, SR g.K g.cl F A ro σ H ∧ PostB g W q F A σ H (f ro) Q
/-- what is shown of each piece of syntax -/
structure Snd (g : Gx) (ce : CE) : Prop where
  E : ∀ {c : CC} {k : Nat} {W : WX} {X : Cx}, XOk g c k W X → ∀ {e : Expr}, chk c ce e = true → PE X e (rdE g W (qt ce) (ev g.G ce))
  T : ∀ {c : CC} {k : Nat} {W : WX} {X : Cx}, XOk g c k W X → ∀ {e : Expr}, chk c ce e = true → PT X e (rdT g W (qt ce) (ev g.G ce))
  B : ∀ {c : CC} {k : Nat} {W : WX} {X : Cx}, XOk g c k W X → ∀ {op : BoolOp} {es : List Expr} {pos : Pos}, chk c ce (.BoolOp op es pos) = true → PW X (.BoolOp op es pos) (rdT g W (qt ce) (ev g.G ce))
  L : ∀ {c : CC} {k : Nat} {W : WX} {X : Cx}, XOk g c k W X → ∀ {es : List Expr}, chks c ce es = true → PA X es (rdA g W (qt ce) (evs g.G ce))
  O : ∀ {c : CC} {k : Nat} {W : WX} {X : Cx}, XOk g c k W X → ∀ {e : Option Expr}, chkO c ce e = true → PO X e (tOof (rdA g W (qt ce) (evs g.G ce)))
  I : ∀ {c : CC} {k : Nat} {W : WX} {X : Cx} (z : Bool), XOk g c k W X → ∀ {tg e : Expr}, chkI c ce tg e = true → PI X tg e (rdI g W (qt ce) z (evI g.G z ce))
  D : ∀ {c : CC} {k : Nat} {W : WX} {X : Cx}, XOk g c k W X → ∀ {es : List Expr}, chks c ce es = true → PTs X es (rdB g W (qt ce) (evB g.G ce))

theorem isTrue_of {e : Expr} {env : Env} (h : testPlain e = true) (whole : Sem Value) : isTrue e env whole = (do let v ← whole; standAt e.pos; holding [v] (truthy v)) := by
  cases e with
  | UnaryOp op a p => cases op <;> first | rfl | cases h
  | BoolOp _ _ _ => cases h
  | IfExp _ _ _ _ => cases h
  | Compare _ _ _ _ => cases h
  | _ => rfl
theorem PostT.val {q : Bool} {F : Hp} {A : AS} {σ : L2.St} {H : Hp} {r : Out Hd} {Q : Bool → Hp → Prop} (h : PostT g W q F A σ H r Q) : Post g W q F A σ H r (fun x H1 => ∃ b, x = .bl b ∧ Q b H1) := by
  cases r with
  | ok hd ro1 =>
    obtain ⟨b, hb, h⟩ := h
    intro v F' H' A' Ao st S hv hs
    exact ⟨b, hv.bool S hb, h F' H' A' (st.weak fun a z => .inl z) S fun z => (hs z).s⟩
  | exc x ro1 => exact h
  | stuck => exact h
theorem pt_of {q : Bool} {f : Ro → Out Hd} {e : Expr} (h : PE X e (rdE g W q f)) (hp : testPlain e = true) : PT X e (rdT g W q f) := by
  refine ⟨fun pins s σ H Q I ⟨F, A, ro, S, hh⟩ => ?_⟩
  exact (pt_val h (fun w => isTrue_of hp w)).run pins s σ H Q I ⟨F, A, ro, S, hh.val⟩
theorem pw_none {q : Bool} {f : Ro → Out Hd} {es : List Expr} {op : BoolOp} {pos : Pos} (h : False) : PW X (.BoolOp op es pos) (rdT g W q f) := h.elim

theorem okD_of {h : Hd} {b : CE} (e : okD h b = true) (d : h.deep = true) : qt b = true := by
  unfold okD at e
  rw [d] at e
  exact e
theorem and2 {a b : Bool} (h : (a && b) = true) : a = true ∧ b = true := by rw [Bool.and_eq_true] at h; exact h
/-! ### leaves -/
theorem e_var (ok : XOk g c k W X) {i : Nat} {e : Expr} (h : chk c (.var i) e = true) : PE X e (rdE g W (qt (.var i)) (ev g.G (.var i))) := by
  simp only [chk] at h
  split at h
  · simp only [Bool.and_eq_true, decide_eq_true_eq, Bool.not_eq_true'] at h
    obtain ⟨⟨⟨h1, h2⟩, h3⟩, h4⟩ := h
    refine ⟨fun pins s σ H Q I ⟨F, A, ro, S, hh⟩ => ?_⟩
    refine (pe_var (i := i) (by rw [ok.hN]; exact h1) (ok.vis h2) h3 h4).run pins s σ H Q I ?_
    simp only [ev] at hh
    split at hh
    · rename_i o ho
      obtain ⟨v, Ai, B, k1, k2, _⟩ := S.rs.out ho
      exact ⟨v, k1, hh v F H A (fun _ => False) (Stp.refl.weak fun a z => z.elim id False.elim) S ⟨⟨v, k1, rfl⟩, fun _ z => z⟩ fun _ => Qt.refl⟩
    · exact hh.elim
  · cases h
theorem e_int (ok : XOk g c k W X) {n : Int} {e : Expr} (h : chk c (.int n) e = true) : PE X e (rdE g W (qt (.int n)) (ev g.G (.int n))) := by
  simp only [chk] at h
  split at h
  · have h := of_decide_eq_true h
    subst h
    refine ⟨fun pins s σ H Q I ⟨F, A, ro, S, hh⟩ => ?_⟩
    simp only [ev] at hh
    exact pe_int.run pins s σ H Q I (hh.sc S (.int _))
  · cases h
theorem e_bl (ok : XOk g c k W X) {n : Bool} {e : Expr} (h : chk c (.bl n) e = true) : PE X e (rdE g W (qt (.bl n)) (ev g.G (.bl n))) := by
  simp only [chk] at h
  split at h
  · have h := eq_of_beq h
    subst h
    refine ⟨fun pins s σ H Q I ⟨F, A, ro, S, hh⟩ => ?_⟩
    simp only [ev] at hh
    exact pe_bl.run pins s σ H Q I (hh.sc S (.bl _))
  · cases h
theorem e_non (ok : XOk g c k W X) {e : Expr} (h : chk c .non e = true) : PE X e (rdE g W (qt .non) (ev g.G .non)) := by
  simp only [chk] at h
  split at h
  · refine ⟨fun pins s σ H Q I ⟨F, A, ro, S, hh⟩ => ?_⟩
    simp only [ev] at hh
    exact pe_non.run pins s σ H Q I (hh.sc S .non)
  · cases h
theorem e_str (ok : XOk g c k W X) {n : Str} {e : Expr} (h : chk c (.str n) e = true) : PE X e (rdE g W (qt (.str n)) (ev g.G (.str n))) := by
  simp only [chk] at h
  split at h
  · have h := of_decide_eq_true h
    subst h
    refine ⟨fun pins s σ H Q I ⟨F, A, ro, S, hh⟩ => ?_⟩
    simp only [ev] at hh
    exact pe_str.run pins s σ H Q I (hh.sc S (.str _))
  · cases h
theorem e_glob (ok : XOk g c k W X) {n : Str} {e : Expr} (h : chk c (.glob n) e = true) : PE X e (rdE g W (qt (.glob n)) (ev g.G (.glob n))) := by
  simp only [chk] at h
  split at h
  · simp only [Bool.and_eq_true, decide_eq_true_eq] at h
    obtain ⟨⟨h1, h2⟩, h3⟩ := h
    subst h1
    obtain ⟨u, v, d, m1, m2, m3, m4⟩ := ok.gls n (by simpa using h3)
    obtain ⟨g1, g2, g3⟩ := ok.glb h2
    refine ⟨fun pins s σ H Q I ⟨F, A, ro, S, hh⟩ => ?_⟩
    simp only [ev, m3] at hh
    exact (pe_glob g1 (by rw [ok.mm]; exact m1) m2 g2).run pins s σ H Q I (hh.sc S (m4 F))
  · cases h
/-! ### two operands -/
theorem two_of {a b : CE} {q : Bool} {r : R2} {fin : Hd → Hd → Ro → Out Hd} {σ : L2.St} {H : Hp} {Q : VK} (hqa : q = true → qt a = true) (hqb : q = true → qt b = true)
    (hr : ∀ F A ro H1 x y h1 h2 B1 B2, SR g.K g.cl F A ro σ H1 → HR g.K g.cl F H1 A σ h1 x B1 → HR g.K g.cl F H1 A σ h2 y B2 → Post g W q F A σ H1 (fin h1 h2 ro) Q → r x y H1 Q)
    (h : rdE g W q (fun ro => (ev g.G a ro).bind fun h1 ro => if okD h1 b then (ev g.G b ro).bind fun h2 ro => fin h1 h2 ro else .stuck) σ H Q) :
    tOp r (rdE g W (qt a) (ev g.G a)) (rdE g W (qt b) (ev g.G b)) σ H Q := by
  obtain ⟨F, A, ro, S, hh⟩ := h
  refine ⟨F, A, ro, S, hh.bind fun h1 ro1 _ hh v F1 H1 A1 Ao st S1 hv hs => ?_⟩
  have hh := hh.shift st (fun z => (hs (hqa z)).s)
  split at hh
  · rename_i hd
    refine ⟨F1, A1, ro1, S1, hh.bind fun h2 ro2 _ hh2 w F2 H2 A2 Bo st2 S2 hw hs2 => ?_⟩
    have hh2 := hh2.shift st2 (fun z => (hs2 (hqb z)).s)
    obtain ⟨hv2, _⟩ := hv.step st2 (fun z => (hs2 (okD_of hd z)).s)
    exact hr _ _ _ _ _ _ _ _ _ _ S2 hv2 hw hh2
  · exact hh.elim
theorem Post.ofOpt {q : Bool} {F : Hp} {A : AS} {σ : L2.St} {H : Hp} {Q : VK} {o : Option Hd} {ro : Ro} (h : Post g W q F A σ H (.ofOpt o ro) Q) : ∃ hd, o = some hd ∧ Post g W q F A σ H (.ok hd ro) Q := by
  cases o with
  | none => exact h.elim
  | some hd => exact ⟨hd, rfl, h⟩
theorem cmp_fin {op : CmpOp} {q : Bool} {σ : L2.St} {Q : VK} {F : Hp} {A : AS} {ro : Ro} {H1 : Hp} {x y : V} {h1 h2 : Hd} {B1 B2 : AS} (S : SR g.K g.cl F A ro σ H1) (r1 : HR g.K g.cl F H1 A σ h1 x B1) (r2 : HR g.K g.cl F H1 A σ h2 y B2)
    (hh : Post g W q F A σ H1 (match h1.lookD ro, h2.lookD ro with
      | some x, some y => .ofOpt ((cmpD op x y).map fun b => .tm (.d (.bool b))) ro
      | _, _ => .stuck) Q) : rCmp g.K op x y H1 Q := by
  split at hh
  · rename_i d e e1 e2
    obtain ⟨hd, ho, hh⟩ := hh.ofOpt
    obtain ⟨o, ho2, rfl⟩ := of_map_some ho
    exact ⟨d, e, o, r1.lookD S e1, r2.lookD S e2, ho2, hh.sc S (.bl _)⟩
  · exact hh.elim
theorem e_cmp (ok : XOk g c k W X) {op : CmpOp} {a b : CE} (ia : Snd g a) (ib : Snd g b) {e : Expr} (h : chk c (.cmp op a b) e = true) : PE X e (rdE g W (qt (.cmp op a b)) (ev g.G (.cmp op a b))) := by
  simp only [chk] at h
  split at h
  · simp only [Bool.and_eq_true, decide_eq_true_eq] at h
    obtain ⟨⟨⟨h1, h2⟩, h3⟩, h4⟩ := h
    subst h1
    refine ⟨fun pins s σ H Q I hh => ?_⟩
    refine (pe_cmpR (op_cmp ok.hu op) (ia.E ok h2) (ib.E ok h3) (mark_of h4)).run pins s σ H Q I ?_
    refine two_of (q := qt (.cmp op a b)) (fun z => (and2 z).1) (fun z => (and2 z).2) (fun F A ro H1 x y h1 h2 B1 B2 S r1 r2 hh => ?_) hh
    rw [ok.kk]
    exact cmp_fin S r1 r2 hh
  · cases h
theorem t_cmp (ok : XOk g c k W X) {op : CmpOp} {a b : CE} (ia : Snd g a) (ib : Snd g b) {e : Expr} (h : chk c (.cmp op a b) e = true) : PT X e (rdT g W (qt (.cmp op a b)) (ev g.G (.cmp op a b))) := by
  simp only [chk] at h
  split at h
  · simp only [Bool.and_eq_true, decide_eq_true_eq] at h
    obtain ⟨⟨⟨h1, h2⟩, h3⟩, h4⟩ := h
    subst h1
    refine ⟨fun pins s σ H Q I hh => ?_⟩
    refine (pt_cmpR (op_cmp ok.hu op) (ia.E ok h2) (ib.E ok h3) (mark_of h4)).run pins s σ H Q I ?_
    obtain ⟨F, A, ro, S, hh⟩ := hh
    refine two_of (q := qt (.cmp op a b)) (fun z => (and2 z).1) (fun z => (and2 z).2) (fun F A ro H1 x y h1 h2 B1 B2 S r1 r2 hh => ?_) ⟨F, A, ro, S, hh.val⟩
    rw [ok.kk]
    exact cmp_fin S r1 r2 hh
  · cases h
theorem e_idx (ok : XOk g c k W X) {a b : CE} (ia : Snd g a) (ib : Snd g b) {e : Expr} (h : chk c (.idx a b) e = true) : PE X e (rdE g W (qt (.idx a b)) (ev g.G (.idx a b))) := by
  simp only [chk] at h
  split at h
  · simp only [Bool.and_eq_true] at h
    obtain ⟨⟨h2, h3⟩, h4⟩ := h
    refine ⟨fun pins s σ H Q I hh => ?_⟩
    refine (pe_ix ix_idx (ia.E ok h2) (ib.E ok h3) (ix_of h4)).run pins s σ H Q I ?_
    refine two_of (q := qt (.idx a b)) (fun z => (and2 z).1) (fun z => (and2 z).2) (fun F A ro H1 x y h1 h2 B1 B2 S r1 r2 hh => ?_) hh
    split at hh
    · rename_i d e e1 e2
      obtain ⟨hd, ho, hh⟩ := hh.ofOpt
      obtain ⟨o, ho2, rfl⟩ := of_map_some ho
      rw [ok.kk]
      exact ⟨F, d, e, o, S.sub, r1.lookF S e1, r2.lookD S e2, ho2, fun v hv => hh.sc S hv⟩
    · exact hh.elim
  · cases h
end
end Lw

set_option maxRecDepth 100000
set_option maxHeartbeats 1000000
/-! Lw7: the soundness of the other expressions. -/
namespace Lw
open PySem L2
section
variable {g : Gx} {c : CC} {k : Nat} {W : WX} {X : Cx}
theorem e_neg (ok : XOk g c k W X) {a : CE} (ia : Snd g a) {e : Expr} (h : chk c (.neg a) e = true) : PE X e (rdE g W (qt (.neg a)) (ev g.G (.neg a))) := by
  simp only [chk] at h
  split at h
  · refine ⟨fun pins s σ H Q I ⟨F, A, ro, S, hh⟩ => ?_⟩
    refine (pe_un un_neg (ia.E ok h)).run pins s σ H Q I ?_
    simp only [ev] at hh
    refine ⟨F, A, ro, S, hh.bind fun h1 ro1 _ hh v F1 H1 A1 Ao st S1 hv hs => ?_⟩
    have hh := hh.shift st fun z => (hs z).s
    split at hh
    · rename_i i hi
      exact ⟨i, (hv.lookD S1 hi).int_eq, hh.sc S1 (.int _)⟩
    · exact hh.elim
  · cases h
theorem e_not (ok : XOk g c k W X) {a : CE} (ia : Snd g a) {e : Expr} (h : chk c (.not a) e = true) : PE X e (rdE g W (qt (.not a)) (ev g.G (.not a))) := by
  simp only [chk] at h
  split at h
  · refine ⟨fun pins s σ H Q I ⟨F, A, ro, S, hh⟩ => ?_⟩
    refine (pe_not (ia.E ok h)).run pins s σ H Q I ?_
    simp only [ev] at hh
    refine ⟨F, A, ro, S, hh.bind fun h1 ro1 _ hh v F1 H1 A1 Ao st S1 hv hs => ?_⟩
    have hh := hh.shift st fun z => (hs z).s
    split at hh
    · rename_i b hb
      exact ⟨b, hv.bool S1 hb, hh.sc S1 (.bl _)⟩
    · exact hh.elim
  · cases h
theorem PostT.bind {q qa : Bool} {F : Hp} {A : AS} {σ : L2.St} {H : Hp} {r : Out Hd} {f : Hd → Ro → Out Hd} {Q R : Bool → Hp → Prop} (h : PostT g W q F A σ H (r.bind f) Q)
    (k : ∀ hd ro1, r = .ok hd ro1 → PostT g W q F A σ H (f hd ro1) Q → ∃ b, hd.bool ro1 = some b ∧ ∀ F1 H1 A1, Stp F H A F1 H1 A1 → SR g.K g.cl F1 A1 ro1 σ H1 → (qa = true → Sub H H1) → R b H1) : PostT g W qa F A σ H r R := by
  cases r with
  | ok hd ro1 => exact k hd ro1 rfl h
  | exc x ro1 => exact h
  | stuck => exact h
theorem Stp.asT {F H F' H' : Hp} {A A' : AS} (s : Stp F H A F' H' A') : Stp F H A F' H' (fun a => A' a ∨ False) := s.weak fun a z => z.elim id False.elim
/-- a bool that is there -/
theorem PostT.lit {q : Bool} {F : Hp} {A : AS} {σ : L2.St} {H : Hp} {b : Bool} {ro : Ro} {Q : Bool → Hp → Prop} (h : PostT g W q F A σ H (.ok (.tm (.d (.bool b))) ro) Q) (S : SR g.K g.cl F A ro σ H) : Q b H := by
  obtain ⟨b', hb, h⟩ := h
  have : b = b' := by
    simpa [Hd.bool, Hd.lookD, Hd.look, O.toD] using hb
  subst this
  exact h F H A .refl S fun _ => .refl _
theorem t_not (ok : XOk g c k W X) {a : CE} (ia : Snd g a) {e : Expr} (h : chk c (.not a) e = true) : PT X e (rdT g W (qt (.not a)) (ev g.G (.not a))) := by
  simp only [chk] at h
  split at h
  · refine ⟨fun pins s σ H Q I ⟨F, A, ro, S, hh⟩ => ?_⟩
    refine (pt_not (ia.T ok h)).run pins s σ H Q I ?_
    simp only [ev] at hh
    refine ⟨F, A, ro, S, hh.bind fun h1 ro1 _ hh => ?_⟩
    split at hh
    · rename_i b hb
      refine ⟨b, hb, fun F1 H1 A1 st S1 hs => ?_⟩
      exact (hh.shift st.asT hs).lit S1
    · exact hh.elim
  · cases h
theorem e_and (ok : XOk g c k W X) {a b : CE} (ia : Snd g a) (ib : Snd g b) {e : Expr} (h : chk c (.and a b) e = true) : PE X e (rdE g W (qt (.and a b)) (ev g.G (.and a b))) := by
  simp only [chk] at h
  split at h
  · obtain ⟨h1, h2⟩ := and2 h
    refine ⟨fun pins s σ H Q I ⟨F, A, ro, S, hh⟩ => ?_⟩
    refine (pe_and (ia.E ok h1) (ib.E ok h2)).run pins s σ H Q I ?_
    simp only [ev] at hh
    refine ⟨F, A, ro, S, hh.bind fun h1 ro1 _ hh v F1 H1 A1 Ao st S1 hv hs => ?_⟩
    have hh := hh.shift st (fun z => (hs (and2 z).1).s)
    split at hh
    · rename_i hb
      exact ⟨true, hv.bool S1 hb, by rw [if_pos rfl]; exact ⟨F1, A1, ro1, S1, hh.mono fun z => (and2 z).2⟩⟩
    · rename_i hb
      exact ⟨false, hv.bool S1 hb, by rw [if_neg Bool.false_ne_true]; exact hh.sc S1 (.bl _)⟩
    · exact hh.elim
  · cases h

theorem t_and (ok : XOk g c k W X) {a b : CE} (ia : Snd g a) (ib : Snd g b) {op : BoolOp} {es : List Expr} {pos : Pos} (h : chk c (.and a b) (.BoolOp op es pos) = true) : PW X (.BoolOp op es pos) (rdT g W (qt (.and a b)) (ev g.G (.and a b))) := by
  simp only [chk] at h
  split at h
  · rename_i x y rest pos' e
    cases e
    obtain ⟨h1, h2⟩ := and2 h
    refine ⟨fun wh pins s σ H Q I ⟨F, A, ro, S, hh⟩ => ?_⟩
    refine (pw_and (ia.T ok h1) (ib.B ok h2)).run wh pins s σ H Q I ?_
    simp only [ev] at hh
    refine ⟨F, A, ro, S, hh.bind fun h1 ro1 _ hh => ?_⟩
    split at hh
    · rename_i hb
      refine ⟨true, hb, fun F1 H1 A1 st S1 hs => ?_⟩
      rw [if_pos rfl]
      exact ⟨F1, A1, ro1, S1, (hh.shift st.asT (fun z => hs (and2 z).1)).mono fun z => (and2 z).2⟩
    · rename_i hb
      refine ⟨false, hb, fun F1 H1 A1 st S1 hs => ?_⟩
      rw [if_neg Bool.false_ne_true]
      exact (hh.shift st.asT (fun z => hs (and2 z).1)).lit S1
    · exact hh.elim
  · cases h
theorem e_or (ok : XOk g c k W X) {a b : CE} (ia : Snd g a) (ib : Snd g b) {e : Expr} (h : chk c (.or a b) e = true) : PE X e (rdE g W (qt (.or a b)) (ev g.G (.or a b))) := by
  simp only [chk] at h
  split at h
  · obtain ⟨h1, h2⟩ := and2 h
    refine ⟨fun pins s σ H Q I ⟨F, A, ro, S, hh⟩ => ?_⟩
    refine (pe_or (ia.E ok h1) (ib.E ok h2)).run pins s σ H Q I ?_
    simp only [ev] at hh
    refine ⟨F, A, ro, S, hh.bind fun h1 ro1 _ hh v F1 H1 A1 Ao st S1 hv hs => ?_⟩
    have hh := hh.shift st (fun z => (hs (and2 z).1).s)
    split at hh
    · rename_i hb
      exact ⟨false, hv.bool S1 hb, by rw [if_neg Bool.false_ne_true]; exact ⟨F1, A1, ro1, S1, hh.mono fun z => (and2 z).2⟩⟩
    · rename_i hb
      exact ⟨true, hv.bool S1 hb, by rw [if_pos rfl]; exact hh.sc S1 (.bl _)⟩
    · exact hh.elim
  · cases h
theorem t_or (ok : XOk g c k W X) {a b : CE} (ia : Snd g a) (ib : Snd g b) {op : BoolOp} {es : List Expr} {pos : Pos} (h : chk c (.or a b) (.BoolOp op es pos) = true) : PW X (.BoolOp op es pos) (rdT g W (qt (.or a b)) (ev g.G (.or a b))) := by
  simp only [chk] at h
  split at h
  · rename_i x y rest pos' e
    cases e
    obtain ⟨h1, h2⟩ := and2 h
    refine ⟨fun wh pins s σ H Q I ⟨F, A, ro, S, hh⟩ => ?_⟩
    refine (pw_or (ia.T ok h1) (ib.B ok h2)).run wh pins s σ H Q I ?_
    simp only [ev] at hh
    refine ⟨F, A, ro, S, hh.bind fun h1 ro1 _ hh => ?_⟩
    split at hh
    · rename_i hb
      refine ⟨false, hb, fun F1 H1 A1 st S1 hs => ?_⟩
      rw [if_neg Bool.false_ne_true]
      exact ⟨F1, A1, ro1, S1, (hh.shift st.asT (fun z => hs (and2 z).1)).mono fun z => (and2 z).2⟩
    · rename_i hb
      refine ⟨true, hb, fun F1 H1 A1 st S1 hs => ?_⟩
      rw [if_pos rfl]
      exact (hh.shift st.asT (fun z => hs (and2 z).1)).lit S1
    · exact hh.elim
  · cases h
theorem e_one (ok : XOk g c k W X) {a : CE} (ia : Snd g a) {e : Expr} (h : chk c (.one a) e = true) : PE X e (rdE g W (qt (.one a)) (ev g.G (.one a))) := by
  simp only [chk] at h
  split at h
  · refine ⟨fun pins s σ H Q I hh => ?_⟩
    simp only [ev] at hh
    exact (pe_one (ia.E ok h)).run pins s σ H Q I hh
  · cases h
theorem t_one (ok : XOk g c k W X) {a : CE} (ia : Snd g a) {op : BoolOp} {es : List Expr} {pos : Pos} (h : chk c (.one a) (.BoolOp op es pos) = true) : PW X (.BoolOp op es pos) (rdT g W (qt (.one a)) (ev g.G (.one a))) := by
  simp only [chk] at h
  split at h
  · rename_i e
    cases e
    refine ⟨fun wh pins s σ H Q I hh => ?_⟩
    simp only [ev] at hh
    cases op with
    | And => exact (pw_and1 (ia.T ok h)).run wh pins s σ H Q I hh
    | Or => exact (pw_or1 (ia.T ok h)).run wh pins s σ H Q I hh
  · cases h
theorem chain_of (ok : XOk g c k W X) {o1 o2 : CmpOp} {a b d : CE} {q : Bool} {σ : L2.St} {H : Hp} {Q : VK} (hqa : q = true → qt a = true) (hqb : q = true → qt b = true) (hqd : q = true → qt d = true)
    (h : rdE g W q (fun ro => (ev g.G a ro).bind fun h1 ro => if okD h1 b then (ev g.G b ro).bind fun h2 ro => match h1.lookD ro, h2.lookD ro with
      | some x, some y => match cmpD o1 x y with
        | some true => if okD h2 d then (ev g.G d ro).bind fun h3 ro => match h2.lookD ro, h3.lookD ro with
          | some y, some z => .ofOpt ((cmpD o2 y z).map fun b => .tm (.d (.bool b))) ro
          | _, _ => .stuck
          else .stuck
        | some false => .ok (.tm (.d (.bool false))) ro
        | none => .stuck
      | _, _ => .stuck
      else .stuck) σ H Q) : tChain (rCmp g.K o1) (rCmp g.K o2) (rdE g W (qt a) (ev g.G a)) (rdE g W (qt b) (ev g.G b)) (rdE g W (qt d) (ev g.G d)) σ H Q := by
  obtain ⟨F, A, ro, S, hh⟩ := h
  refine ⟨F, A, ro, S, hh.bind fun h1 ro1 _ hh v F1 H1 A1 Ao st S1 hv hs => ?_⟩
  have hh := hh.shift st (fun z => (hs (hqa z)).s)
  split at hh
  · rename_i hd
    refine ⟨F1, A1, ro1, S1, hh.bind fun h2 ro2 _ hh w F2 H2 A2 Bo st2 S2 hw hs2 => ?_⟩
    have hh := hh.shift st2 (fun z => (hs2 (hqb z)).s)
    obtain ⟨hv2, _⟩ := hv.step st2 (fun z => (hs2 (okD_of hd z)).s)
    split at hh
    · rename_i x y e1 e2
      split at hh
      · rename_i e3
        refine ⟨x, y, true, hv2.lookD S2 e1, hw.lookD S2 e2, e3, true, rfl, ?_⟩
        rw [if_pos rfl]
        split at hh
        · rename_i hd2
          refine ⟨F2, A2, ro2, S2, hh.bind fun h3 ro3 _ hh u F3 H3 A3 Co st3 S3 hu hs3 => ?_⟩
          have hh := hh.shift st3 (fun z => (hs3 (hqd z)).s)
          obtain ⟨hw2, _⟩ := hw.step st3 (fun z => (hs3 (okD_of hd2 z)).s)
          exact cmp_fin S3 hw2 hu hh
        · exact hh.elim
      · rename_i e3
        refine ⟨x, y, false, hv2.lookD S2 e1, hw.lookD S2 e2, e3, false, rfl, ?_⟩
        rw [if_neg Bool.false_ne_true]
        exact hh.sc S2 (.bl _)
      · exact hh.elim
    · exact hh.elim
  · exact hh.elim
theorem last_of {y z : Expr} {p1 p2 : CmpOp} (h : plainE z = true) : lastMarks [p1, p2] [y, z] = false := by
  show behindInMarks p2 z = false
  exact mark_of h
theorem e_chain (ok : XOk g c k W X) {o1 o2 : CmpOp} {a b d : CE} (ia : Snd g a) (ib : Snd g b) (id : Snd g d) {e : Expr} (h : chk c (.chain o1 o2 a b d) e = true) : PE X e (rdE g W (qt (.chain o1 o2 a b d)) (ev g.G (.chain o1 o2 a b d))) := by
  simp only [chk] at h
  split at h
  · simp only [Bool.and_eq_true, decide_eq_true_eq] at h
    obtain ⟨⟨⟨⟨⟨h1, h2⟩, h3⟩, h4⟩, h5⟩, h6⟩ := h
    subst h1; subst h2
    refine ⟨fun pins s σ H Q I hh => ?_⟩
    refine (pe_chain (op_cmp ok.hu o1) (op_cmp ok.hu o2) (ia.E ok h3) (ib.E ok h4) (id.E ok h5) (last_of h6)).run pins s σ H Q I ?_
    rw [ok.kk]
    exact chain_of ok (q := qt (.chain o1 o2 a b d)) (fun z => (and2 (and2 z).1).1) (fun z => (and2 (and2 z).1).2) (fun z => (and2 z).2) hh
  · cases h
theorem t_chain (ok : XOk g c k W X) {o1 o2 : CmpOp} {a b d : CE} (ia : Snd g a) (ib : Snd g b) (id : Snd g d) {e : Expr} (h : chk c (.chain o1 o2 a b d) e = true) : PT X e (rdT g W (qt (.chain o1 o2 a b d)) (ev g.G (.chain o1 o2 a b d))) := by
  simp only [chk] at h
  split at h
  · simp only [Bool.and_eq_true, decide_eq_true_eq] at h
    obtain ⟨⟨⟨⟨⟨h1, h2⟩, h3⟩, h4⟩, h5⟩, h6⟩ := h
    subst h1; subst h2
    refine ⟨fun pins s σ H Q I hh => ?_⟩
    refine (pt_chain (op_cmp ok.hu o1) (op_cmp ok.hu o2) (ia.E ok h3) (ib.E ok h4) (id.E ok h5) (last_of h6)).run pins s σ H Q I ?_
    rw [ok.kk]
    obtain ⟨F, A, ro, S, hh⟩ := hh
    exact chain_of ok (q := qt (.chain o1 o2 a b d)) (fun z => (and2 (and2 z).1).1) (fun z => (and2 (and2 z).1).2) (fun z => (and2 z).2) ⟨F, A, ro, S, hh.val⟩
  · cases h
theorem e_ifx (ok : XOk g c k W X) {a b d : CE} (ia : Snd g a) (ib : Snd g b) (id : Snd g d) {e : Expr} (h : chk c (.ifx a b d) e = true) : PE X e (rdE g W (qt (.ifx a b d)) (ev g.G (.ifx a b d))) := by
  simp only [chk] at h
  split at h
  · obtain ⟨h1, h3⟩ := and2 h
    obtain ⟨h1, h2⟩ := and2 h1
    refine ⟨fun pins s σ H Q I ⟨F, A, ro, S, hh⟩ => ?_⟩
    refine (pe_ifExp (ia.T ok h1) (ib.E ok h2) (id.E ok h3)).run pins s σ H Q I ?_
    simp only [ev] at hh
    -- the test
    have key : PostT g W (qt a) F A σ H (ev g.G a ro) (fun b1 H1 => if b1 = true then rdE g W (qt b) (ev g.G b) σ H1 Q else rdE g W (qt d) (ev g.G d) σ H1 Q) := by
      cases hr : ev g.G a ro with
      | ok hd ro1 =>
        rw [hr] at hh
        simp only [Out.bind_ok] at hh
        split at hh
        · rename_i hb
          refine ⟨true, hb, fun F1 H1 A1 st S1 hs => ?_⟩
          refine iteT ?_
          exact ⟨F1, A1, ro1, S1, (hh.shift st.asT (fun z => hs (and2 (and2 z).1).1)).mono fun z => (and2 (and2 z).1).2⟩
        · rename_i hb
          refine ⟨false, hb, fun F1 H1 A1 st S1 hs => ?_⟩
          refine iteF ?_
          exact ⟨F1, A1, ro1, S1, (hh.shift st.asT (fun z => hs (and2 (and2 z).1).1)).mono fun z => (and2 z).2⟩
        · exact hh.elim
      | exc x ro1 => rw [hr] at hh; exact hh
      | stuck => rw [hr] at hh; exact hh
    exact ⟨F, A, ro, S, key⟩
  · cases h
theorem t_ifx (ok : XOk g c k W X) {a b d : CE} (ia : Snd g a) (ib : Snd g b) (id : Snd g d) {e : Expr} (h : chk c (.ifx a b d) e = true) : PT X e (rdT g W (qt (.ifx a b d)) (ev g.G (.ifx a b d))) := by
  simp only [chk] at h
  split at h
  · rename_i t' a' b' pos
    obtain ⟨h1, h3⟩ := and2 h
    obtain ⟨h1, h2⟩ := and2 h1
    refine ⟨fun pins s σ H Q I ⟨F, A, ro, S, hh⟩ => ?_⟩
    simp only [ev] at hh
    have key : PostT g W (qt a) F A σ H (ev g.G a ro) (fun b1 H1 => if b1 = true then rdT g W (qt b) (ev g.G b) σ H1 Q else rdT g W (qt d) (ev g.G d) σ H1 Q) := by
      cases hr : ev g.G a ro with
      | ok hd ro1 =>
        rw [hr] at hh
        simp only [Out.bind_ok] at hh
        split at hh
        · rename_i hb
          refine ⟨true, hb, fun F1 H1 A1 st S1 hs => ?_⟩
          refine iteT ?_
          exact ⟨F1, A1, ro1, S1, (hh.shift st.asT (fun z => hs (and2 (and2 z).1).1)).mono fun z => (and2 (and2 z).1).2⟩
        · rename_i hb
          refine ⟨false, hb, fun F1 H1 A1 st S1 hs => ?_⟩
          refine iteF ?_
          exact ⟨F1, A1, ro1, S1, (hh.shift st.asT (fun z => hs (and2 (and2 z).1).1)).mono fun z => (and2 z).2⟩
        · exact hh.elim
      | exc x ro1 => rw [hr] at hh; exact hh
      | stuck => rw [hr] at hh; exact hh
    show wpAny _ X.A (isTrue t' X.env (eval t' X.env) >>= fun z => if z = true then isTrue a' X.env (eval a' X.env) else isTrue b' X.env (eval b' X.env)) _ _ _
    refine wpAny_bind (thn ((ia.T ok h1).run pins s σ H _ I ⟨F, A, ro, S, key⟩) fun z s1 ⟨H1, I1, q1⟩ => ?_)
    cases z with
    | true => exact (ib.T ok h2).run pins s1 σ H1 Q I1 q1
    | false => exact (id.T ok h3).run pins s1 σ H1 Q I1 q1
  · cases h

/-! ### lists of expressions -/
theorem HRs.step {K : PySem.W.Frag} {cl : Str → Option Addr} {F F' H H' : Hp} {A A' T : AS} {σ : L2.St} (st : Stp F H A F' H' (fun a => A' a ∨ T a)) (d : Sub H H') : ∀ {hs : List Hd} {vs : List V} {Ao : AS}, HRs K cl F H A σ hs vs Ao → HRs K cl F' H' A' σ hs vs Ao ∧ ∀ a, Ao a → T a → False
  | [], vs, Ao, ⟨h1, h2⟩ => ⟨⟨h1, h2⟩, fun a x _ => h2 a x⟩
  | h :: hs, vs, Ao, ⟨v, ws, B, C, e, h1, h2, h3, h4⟩ => by
    obtain ⟨q1, q2⟩ := h1.step st (fun _ => d)
    obtain ⟨q3, q4⟩ := HRs.step st d h2
    exact ⟨⟨v, ws, B, C, e, q1, q3, h3, h4⟩, fun a x y => ((h4 a).mp x).elim (fun z => q2 a z y) fun z => q4 a z y⟩
theorem l_nil : ∀ {c : CC} {k : Nat} {W : WX} {X : Cx}, XOk g c k W X → ∀ {es : List Expr}, chks c .nil es = true → PA X es (rdA g W (qt .nil) (evs g.G .nil)) := by
  intro c k W X ok es h
  simp only [chks] at h
  split at h
  · refine ⟨fun pos pins s σ H Q I ⟨F, A, ro, S, hh⟩ => ?_⟩
    simp only [evs] at hh
    exact pa_nil.run pos pins s σ H Q I (hh [] F H A (fun _ => False) Stp.refl.asT S ⟨rfl, fun _ z => z⟩ fun _ => Qt.refl)
  · cases h
theorem l_cons {a as : CE} (ia : Snd g a) (ib : Snd g as) : ∀ {c : CC} {k : Nat} {W : WX} {X : Cx}, XOk g c k W X → ∀ {es : List Expr}, chks c (.cons a as) es = true → PA X es (rdA g W (qt (.cons a as)) (evs g.G (.cons a as))) := by
  intro c k W X ok es h
  simp only [chks] at h
  split at h
  · simp only [Bool.and_eq_true] at h
    obtain ⟨⟨h1, h2⟩, h3⟩ := h
    refine ⟨fun pos pins s σ H Q I ⟨F, A, ro, S, hh⟩ => ?_⟩
    refine (pa_cons (ia.E ok h2) (ib.L ok h3) (star_of h1)).run pos pins s σ H Q I ?_
    simp only [evs] at hh
    refine ⟨F, A, ro, S, PostA.bind hh fun h1 ro1 _ hh v F1 H1 A1 Ao st S1 hv hs => ?_⟩
    split at hh
    · rename_i hd
      cases hr : evs g.G as ro1 with
      | ok hs' ro2 =>
        rw [hr] at hh
        simp only [Out.bind_ok] at hh
        refine ⟨F1, A1, ro1, S1, ?_⟩
        rw [hr]
        intro ws F2 H2 A2 Bo st2 S2 hw hs2
        obtain ⟨hv2, dj⟩ := hv.step st2 (fun z => (hs2 (okD_of hd z)).s)
        refine hh (v :: ws) F2 H2 A2 (fun a => Ao a ∨ Bo a) ?_ S2 ⟨v, ws, Ao, Bo, rfl, hv2, hw, dj, fun a => Iff.rfl⟩ fun z => (hs (and2 z).1).join (hs2 (and2 z).2)
        refine (st.trans (st2.frame Ao)).weak fun a z => ?_
        rcases z with z | z | z
        · exact .inl (.inl z)
        · exact .inr z
        · exact .inl (.inr z)
      | exc x ro2 =>
        rw [hr] at hh
        refine ⟨F1, A1, ro1, S1, ?_⟩
        rw [hr]
        intro C F' H' A' hm s2 S2
        exact hh C F' H' A' hm ((st.trans (s2.frame Ao)).weak fun a z => .inl z) S2
      | stuck => rw [hr] at hh; exact hh.elim
    · exact hh.elim
  · cases h
theorem Stp.from {F H F' H' : Hp} {A A0 A' : AS} (s : Stp F H A F' H' A') (e : ∀ a, A a ↔ A0 a) : Stp F H A0 F' H' A' := by
  have : A = A0 := by funext a; exact propext (e a)
  rw [← this]; exact s
theorem HR.widen {K : PySem.W.Frag} {cl : Str → Option Addr} {F H : Hp} {A B C : AS} {σ : L2.St} {h : Hd} {v : V} (r : HR K cl F H A σ h v C) (n : ∀ a, B a → C a → False) : HR K cl F H (fun a => A a ∨ B a) σ h v C := by
  cases h with
  | tm o => exact ⟨r.1, fun a x y => y.elim (r.2 a x) fun y => n a y x⟩
  | sl i p => exact r
theorem HRs.widen {K : PySem.W.Frag} {cl : Str → Option Addr} {F H : Hp} {A B : AS} {σ : L2.St} : ∀ {hs : List Hd} {vs : List V} {C : AS}, HRs K cl F H A σ hs vs C → (∀ a, B a → C a → False) → HRs K cl F H (fun a => A a ∨ B a) σ hs vs C
  | [], vs, C, h, n => h
  | h :: hs, vs, C, ⟨v, ws, B1, C1, e, h1, h2, h3, h4⟩, n => ⟨v, ws, B1, C1, e, h1.widen fun a x y => n a x ((h4 a).mpr (.inl y)), HRs.widen h2 fun a x y => n a x ((h4 a).mpr (.inr y)), h3, h4⟩
/-- all frozen -/
theorem escs_ok {K : PySem.W.Frag} {cl : Str → Option Addr} : ∀ {hs : List Hd} {vs : List V} {F H : Hp} {A Ao : AS} {ro ro' : Ro} {σ : L2.St} {xs : List PyData}, SR K cl F A ro σ H → HRs K cl F H A σ hs vs Ao → escs hs ro = .ok xs ro' →
    ∃ F' A', SR K cl F' A' ro' σ H ∧ DqAll K F' vs xs ∧ Stp F H (fun a => A a ∨ Ao a) F' H A' ∧ ∀ a, A' a → A a
  | [], vs, F, H, A, Ao, ro, ro', σ, xs, S, ⟨h1, h2⟩, e => by
    rw [escs] at e
    cases e
    subst h1
    exact ⟨F, A, S, .nil, (Stp.refl.frame Ao).weak fun a z => .inl z, fun a z => z⟩
  | h :: hs, vs, F, H, A, Ao, ro, ro', σ, xs, S, ⟨v, ws, B, C, e1, h1, h2, h3, h4⟩, e => by
    subst e1
    rw [escs] at e
    cases q : h.esc ro with
    | exc x r => rw [q] at e; cases e
    | stuck => rw [q] at e; cases e
    | ok x ro1 =>
      rw [q] at e
      simp only [Out.bind_ok] at e
      cases q2 : escs hs ro1 with
      | exc x r => rw [q2] at e; cases e
      | stuck => rw [q2] at e; cases e
      | ok ys ro2 =>
        rw [q2] at e
        cases e
        obtain ⟨F1, A1, S1, d1, st1, su1⟩ := h1.esc S q
        have w := (HRs.widen (B := B) h2 h3)
        obtain ⟨k1, _⟩ := HRs.step st1.asT (Sub.refl H) w
        obtain ⟨F2, A2, S2, d2, st2, su2⟩ := escs_ok S1 k1 q2
        refine ⟨F2, A2, S2, .cons (Dq.mono st2.fr _ _ d1) d2, ?_, fun a z => su1 a (su2 a z)⟩
        refine ((st1.frame C).trans st2).from fun a => ?_
        constructor
        · rintro ((z | z) | z)
          · exact .inl z
          · exact .inr ((h4 a).mpr (.inl z))
          · exact .inr ((h4 a).mpr (.inr z))
        · rintro (z | z)
          · exact .inl (.inl z)
          · rcases (h4 a).mp z with z | z
            · exact .inl (.inr z)
            · exact .inr z
/-- one stored -/
theorem sto_ok {K : PySem.W.Frag} {cl : Str → Option Addr} {h : Hd} {v : V} {F H : Hp} {A Ao : AS} {ro ro' : Ro} {σ : L2.St} {o : O} (S : SR K cl F A ro σ H) (r : HR K cl F H A σ h v Ao) (e : h.sto ro = .ok o ro') :
    ∃ F' A' Bo, SR K cl F' A' ro' σ H ∧ OR K cl F' H o v Bo ∧ (∀ a, Bo a → A' a → False) ∧ Stp F H (fun a => A a ∨ Ao a) F' H (fun a => A' a ∨ Bo a) ∧ (∀ a, A' a → A a) ∧ ∀ a, Bo a → Ao a := by
  cases h with
  | tm x =>
    unfold Hd.sto at e
    cases e
    exact ⟨F, A, Ao, S, r.1, r.2, .refl, fun a z => z, fun a z => z⟩
  | sl i p =>
    unfold Hd.sto at e
    dsimp only at e
    cases q : Hd.esc (.sl i p) ro with
    | exc x r => rw [q] at e; cases e
    | stuck => rw [q] at e; cases e
    | ok x ro1 =>
      rw [q] at e
      cases e
      obtain ⟨F1, A1, S1, d1, st1, su1⟩ := r.esc S q
      exact ⟨F1, A1, fun _ => False, S1, .d d1, fun a z => z.elim, st1.asT, su1, fun a z => z.elim⟩
theorem stos_ok {K : PySem.W.Frag} {cl : Str → Option Addr} : ∀ {hs : List Hd} {vs : List V} {F H : Hp} {A Ao : AS} {ro ro' : Ro} {σ : L2.St} {os : List O}, SR K cl F A ro σ H → HRs K cl F H A σ hs vs Ao → stos hs ro = .ok os ro' →
    ∃ F' A' Bo, SR K cl F' A' ro' σ H ∧ ORs K cl F' H os vs Bo ∧ (∀ a, Bo a → A' a → False) ∧ Stp F H (fun a => A a ∨ Ao a) F' H (fun a => A' a ∨ Bo a) ∧ (∀ a, A' a → A a) ∧ ∀ a, Bo a → Ao a
  | [], vs, F, H, A, Ao, ro, ro', σ, xs, S, ⟨h1, h2⟩, e => by
    rw [stos] at e
    cases e
    subst h1
    exact ⟨F, A, fun _ => False, S, .nil, fun a z => z.elim, (Stp.refl.frame Ao).weak fun a z => .inl (z.elim id False.elim), fun a z => z, fun a z => z.elim⟩
  | h :: hs, vs, F, H, A, Ao, ro, ro', σ, xs, S, ⟨v, ws, B, C, e1, h1, h2, h3, h4⟩, e => by
    subst e1
    rw [stos] at e
    cases q : h.sto ro with
    | exc x r => rw [q] at e; cases e
    | stuck => rw [q] at e; cases e
    | ok x ro1 =>
      rw [q] at e
      simp only [Out.bind_ok] at e
      cases q2 : stos hs ro1 with
      | exc x r => rw [q2] at e; cases e
      | stuck => rw [q2] at e; cases e
      | ok ys ro2 =>
        rw [q2] at e
        cases e
        obtain ⟨F1, A1, B1, S1, d1, dj1, st1, su1, sb1⟩ := sto_ok S h1 q
        have w := (HRs.widen (B := B) h2 h3)
        obtain ⟨k1, _⟩ := HRs.step st1 (Sub.refl H) w
        obtain ⟨F2, A2, B2, S2, d2, dj2, st2, su2, sb2⟩ := stos_ok S1 k1 q2
        -- the first tree stands through the second step
        have dj3 : ∀ a, B1 a → (A1 a ∨ C a) → False := fun a x y => y.elim (dj1 a x) fun y => h3 a (sb1 a x) y
        obtain ⟨d1', dj4⟩ := d1.step dj3 st2
        refine ⟨F2, A2, fun a => B1 a ∨ B2 a, S2, .cons d1' d2 (fun a x y => dj4 a x (.inr y)), fun a x y => x.elim (fun x => dj4 a x (.inl y)) fun x => dj2 a x y, ?_, fun a z => su1 a (su2 a z), fun a z => (h4 a).mpr (z.elim (fun z => .inl (sb1 a z)) fun z => .inr (sb2 a z))⟩
        have t2 := st2.frame B1
        have t1 := st1.frame C
        have t1' : Stp F H (fun a => A a ∨ Ao a) F1 H (fun a => (A1 a ∨ C a) ∨ B1 a) := (t1.weak (T := fun a => (A1 a ∨ C a) ∨ B1 a) (fun a z => by
          rcases z with (z | z) | z
          · exact .inl (.inl z)
          · exact .inr z
          · exact .inl (.inr z))).from fun a => by
            constructor
            · rintro ((z | z) | z)
              · exact .inl z
              · exact .inr ((h4 a).mpr (.inl z))
              · exact .inr ((h4 a).mpr (.inr z))
            · rintro (z | z)
              · exact .inl (.inl z)
              · rcases (h4 a).mp z with z | z
                · exact .inl (.inr z)
                · exact .inr z
        refine (t1'.trans t2).weak fun a z => ?_
        rcases z with z | z | z
        · exact .inl (.inl z)
        · exact .inr z
        · exact .inl (.inr z)
theorem HR.opd {K : PySem.W.Frag} {cl : Str → Option Addr} {F H : Hp} {A Ao : AS} {ro : Ro} {σ : L2.St} {h : Hd} {v : V} {x : PyData} (S : SR K cl F A ro σ H) (r : HR K cl F H A σ h v Ao) (e : h.opd ro = some x) :
    ∃ F' A', SR K cl F' A' ro σ H ∧ FV K F' H v x ∧ Stp F H (fun a => A a ∨ Ao a) F' H A' ∧ ∀ a, A' a → A a := by
  cases h with
  | tm o =>
    have q : (Hd.tm o).esc ro = .ok x ro := by
      have e : o.toD = some x := e
      unfold Hd.esc
      simp only [e, Out.ofOpt_some]
    obtain ⟨F', A', S', d, st, su⟩ := r.esc S q
    exact ⟨F', A', S', d.fv S'.sub, st, su⟩
  | sl i p => exact ⟨F, A, S, r.lookF S e, (Stp.refl.frame Ao).weak fun a z => .inl z, fun a z => z⟩
theorem FV.mono {K : PySem.W.Frag} {F F' H : Hp} (s : Sub F F') {v : V} {x : PyData} (h : FV K F H v x) : FV K F' H v x := by
  cases x with
  | list xs =>
    obtain ⟨p, vs, rfl, h1, h2⟩ := h
    exact ⟨p, vs, rfl, h1, Dq.monoAll s _ _ h2⟩
  | none => exact Dq.mono s _ _ h
  | bool b => exact Dq.mono s _ _ h
  | int b => exact Dq.mono s _ _ h
  | str b => exact Dq.mono s _ _ h
  | tuple b => exact Dq.mono s _ _ h
  | dict b => exact Dq.mono s _ _ h
theorem e_bin (ok : XOk g c k W X) {op : Operator} {a b : CE} (ia : Snd g a) (ib : Snd g b) {e : Expr} (h : chk c (.bin op a b) e = true) : PE X e (rdE g W (qt (.bin op a b)) (ev g.G (.bin op a b))) := by
  simp only [chk] at h
  split at h
  · simp only [Bool.and_eq_true, decide_eq_true_eq] at h
    obtain ⟨⟨h1, h2⟩, h3⟩ := h
    subst h1
    refine ⟨fun pins s σ H Q I ⟨F, A, ro, S, hh⟩ => ?_⟩
    refine (pe_op (op_bin op) (ia.E ok h2) (ib.E ok h3)).run pins s σ H Q I ?_
    simp only [ev] at hh
    refine ⟨F, A, ro, S, hh.bind fun h1 ro1 _ hh v F1 H1 A1 Ao st S1 hv hs => ?_⟩
    split at hh
    · rename_i hd
      cases hr : ev g.G b ro1 with
      | stuck => rw [hr] at hh; exact hh.elim
      | exc x ro2 =>
        rw [hr] at hh
        refine ⟨F1, A1, ro1, S1, ?_⟩
        rw [hr]
        intro C F' H' A' hm s2 S2
        exact hh C F' H' A' hm ((st.trans (s2.frame Ao)).weak fun a z => .inl z) S2
      | ok h2 ro2 =>
        rw [hr] at hh
        simp only [Out.bind_ok] at hh
        refine ⟨F1, A1, ro1, S1, ?_⟩
        rw [hr]
        intro w F2 H2 A2 Bo st2 S2 hw hs2
        obtain ⟨hv2, dj⟩ := hv.step st2 (fun z => (hs2 (okD_of hd z)).s)
        split at hh
        · rename_i d e e1 e2
          obtain ⟨hd2, ho, hh⟩ := hh.ofOpt
          obtain ⟨o, ho2, rfl⟩ := of_map_some ho
          obtain ⟨F3, A3, S3, fx, st3, su3⟩ := hv2.opd S2 e1
          have hw1 : HR g.K g.cl F2 H2 (fun a => A2 a ∨ Ao a) σ h2 w Bo := hw.widen dj
          have hw2 := (hw1.step st3.asT (fun _ => .refl _)).1
          obtain ⟨F4, A4, S4, fy, st4, su4⟩ := hw2.opd S3 e2
          have tot : Stp F H A F4 H2 A4 := by
            refine (st.trans (st2.frame Ao)).trans (Stp.trans (Stp.from (st3.frame Bo) fun a => ?_) st4)
            constructor
            · rintro ((z | z) | z)
              · exact .inl (.inl z)
              · exact .inr z
              · exact .inl (.inr z)
            · rintro ((z | z) | z)
              · exact .inl (.inl z)
              · exact .inr z
              · exact .inl (.inr z)
          have hh := hh.shift tot.asT (fun z => (hs (and2 z).1).s.trans (hs2 (and2 z).2).s)
          rw [ok.kk]
          exact ⟨F4, d, e, o, S4.sub, fx.mono st4.fr, fy, ho2, fun v H' r => hh.res S4 r⟩
        · exact hh.elim
    · exact hh.elim
  · cases h
end
end Lw

set_option maxRecDepth 100000
set_option maxHeartbeats 1000000
/-! Lw8: displays, slices, calls, what loops walk. -/
namespace Lw
open PySem L2
section
variable {g : Gx} {c : CC} {k : Nat} {W : WX} {X : Cx}
theorem plain_each {c : CC} {env : Env} : ∀ {as : CE} {es : List Expr}, chks c as es = true → (starEach es env).any (·.1) = false
  | as, [], _ => rfl
  | as, e :: es, h => by
    cases as <;> simp only [chks, Bool.false_eq_true] at h
    case cons a as =>
      simp only [Bool.and_eq_true] at h
      rw [star_of h.1.1, List.any_cons, plain_each h.2]
      rfl
theorem back_each {pos : Pos} : ∀ {l : List (Bool × Sem Value)}, l.any (·.1) = false → (backTo pos l).any (·.1) = false
  | [], _ => rfl
  | (b, t) :: l, h => by
    rw [List.any_cons, Bool.or_eq_false_iff] at h
    show ((b, _) :: backTo pos l).any (·.1) = false
    rw [List.any_cons, back_each h.2, Bool.or_false]
    exact h.1
theorem plain_args {c : CC} {as : CE} {e : Expr} {es : List Expr} {env : Env} {pos : Pos} (h : chks c as (e :: es) = true) : starEach (e :: es) env = (false, eval e env) :: starEach es env ∧ (backTo pos (starEach es env)).any (·.1) = false := by
  cases as <;> simp only [chks, Bool.false_eq_true] at h
  case cons a as =>
    simp only [Bool.and_eq_true] at h
    exact ⟨star_of h.1.1, back_each (plain_each h.2)⟩
theorem esc_noexc {h : Hd} {ro ro' : Ro} {x : Exn} : h.esc ro ≠ .exc x ro' := by
  intro e
  unfold Hd.esc at e
  split at e
  · cases q : O.toD _ with
    | none => rw [q] at e; cases e
    | some y => rw [q] at e; cases e
  · split at e
    · cases e
    · split at e <;> cases e
    · cases e
  · cases e
theorem escs_noexc : ∀ {hs : List Hd} {ro ro' : Ro} {x : Exn}, escs hs ro ≠ .exc x ro'
  | [], ro, ro', x, e => by rw [escs] at e; cases e
  | h :: hs, ro, ro', x, e => by
    rw [escs] at e
    cases q : h.esc ro with
    | exc y r => exact esc_noexc q
    | stuck => rw [q] at e; cases e
    | ok y ro1 =>
      rw [q] at e
      simp only [Out.bind_ok] at e
      cases q2 : escs hs ro1 with
      | exc y r => exact escs_noexc q2
      | stuck => rw [q2] at e; cases e
      | ok y r => rw [q2] at e; cases e
theorem sto_noexc {h : Hd} {ro ro' : Ro} {x : Exn} : h.sto ro ≠ .exc x ro' := by
  intro e
  unfold Hd.sto at e
  split at e
  · cases e
  · cases q : Hd.esc (.sl _ _) ro with
    | exc y r => exact esc_noexc q
    | stuck => rw [q] at e; cases e
    | ok y ro1 => rw [q] at e; cases e
theorem stos_noexc : ∀ {hs : List Hd} {ro ro' : Ro} {x : Exn}, stos hs ro ≠ .exc x ro'
  | [], ro, ro', x, e => by rw [stos] at e; cases e
  | h :: hs, ro, ro', x, e => by
    rw [stos] at e
    cases q : h.sto ro with
    | exc y r => exact sto_noexc q
    | stuck => rw [q] at e; cases e
    | ok y ro1 =>
      rw [q] at e
      simp only [Out.bind_ok] at e
      cases q2 : stos hs ro1 with
      | exc y r => exact stos_noexc q2
      | stuck => rw [q2] at e; cases e
      | ok y r => rw [q2] at e; cases e
/-! ### displays -/
theorem e_tup (ok : XOk g c k W X) {as : CE} (ia : Snd g as) {e : Expr} (h : chk c (.tup as) e = true) : PE X e (rdE g W (qt (.tup as)) (ev g.G (.tup as))) := by
  simp only [chk] at h
  split at h
  · refine ⟨fun pins s σ H Q I ⟨F, A, ro, S, hh⟩ => ?_⟩
    refine (pe_tup (ia.L ok h)).run pins s σ H Q I ?_
    simp only [ev] at hh
    refine ⟨F, A, ro, S, hh.bindA fun hs ro1 _ hh vs F1 H1 A1 Ao st S1 hv hq => ?_⟩
    cases q : escs hs ro1 with
    | exc x r => exact absurd q escs_noexc
    | stuck => rw [q] at hh; exact hh.elim
    | ok xs ro2 =>
      rw [q] at hh
      simp only [Out.bind_ok] at hh
      split at hh
      · rename_i hl
        obtain ⟨F2, A2, S2, d2, st2, su2⟩ := escs_ok S1 hv q
        have hh := hh.shift (st.trans st2).asT (fun z => (hq z).s)
        exact ⟨by rw [d2.len]; exact lenOk_le hl, fun p hp => hh.res S2 (.inr ⟨p, vs, rfl, hp, rfl, d2⟩)⟩
      · exact hh.elim
  · cases h
/-- a new object behind a step -/
theorem Stp.fresh {F H F1 H1 : Hp} {A A1 : AS} (s : Stp F H A F1 H1 A1) {p : Addr} (hp : H1 p = none) : A p ∨ H p = none := by
  by_cases hA : A p
  · exact .inl hA
  · cases e : H p with
    | none => exact .inr rfl
    | some o => rw [s.kp p o e hA] at hp; cases hp
/-- a new list of trees, held beside -/
theorem new_lst {K : PySem.W.Frag} {cl : Str → Option Addr} {F H : Hp} {A Bo : AS} {ro : Ro} {σ : L2.St} {os : List O} {vs : List V} {p : Addr} (S : SR K cl F A ro σ H) (ho : ORs K cl F H os vs Bo) (dj : ∀ a, Bo a → A a → False) (hp : H p = none) :
    SR K cl F A ro σ (upd H p (.lst vs)) ∧ OR K cl F (upd H p (.lst vs)) (.lst os) (.ref p) (fun a => a = p ∨ Bo a) ∧ (∀ a, (a = p ∨ Bo a) → A a → False) ∧ Stp F H (fun a => A a ∨ Bo a) F (upd H p (.lst vs)) (fun a => A a ∨ (a = p ∨ Bo a)) := by
  obtain ⟨S1, s1, fp, nA⟩ := S.newO (ob := .lst vs) hp
  have nB : ∀ a, Bo a → a ≠ p := fun a z e => by subst e; exact (ho.own _ z).2 hp
  refine ⟨S1, .lst upd_same (ho.frame (.refl _) (fun a z => upd_ne (nB a z)) fun a z => (ho.own a z).1) (fun z => nB p z rfl) fp, fun a z w => ?_, ⟨s1.fr, fun a o e n => s1.kp a o e fun z => n (.inl z), fun a z => .inl z, fun a z => ?_⟩⟩
  · rcases z with z | z
    · subst z; exact nA w
    · exact dj a z w
  · rcases z with z | z | z
    · exact .inl (.inl z)
    · subst z; exact .inr hp
    · exact .inl (.inr z)
theorem e_lst (ok : XOk g c k W X) {as : CE} (ia : Snd g as) {e : Expr} (h : chk c (.lst as) e = true) : PE X e (rdE g W (qt (.lst as)) (ev g.G (.lst as))) := by
  simp only [chk] at h
  split at h
  · refine ⟨fun pins s σ H Q I ⟨F, A, ro, S, hh⟩ => ?_⟩
    refine (pe_lst (ia.L ok h)).run pins s σ H Q I ?_
    simp only [ev] at hh
    refine ⟨F, A, ro, S, hh.bindA fun hs ro1 _ hh vs F1 H1 A1 Ao st S1 hv hq => ?_⟩
    cases q : stos hs ro1 with
    | exc x r => exact absurd q stos_noexc
    | stuck => rw [q] at hh; exact hh.elim
    | ok xs ro2 =>
      rw [q] at hh
      simp only [Out.bind_ok] at hh
      split at hh
      · rename_i hl
        obtain ⟨F2, A2, Bo, S2, d2, dj, st2, su2, sb2⟩ := stos_ok S1 hv q
        refine ⟨by rw [← d2.len]; exact lenOk_le hl, fun p hp => ?_⟩
        obtain ⟨S3, t3, dj3, st3⟩ := new_lst S2 d2 dj hp
        refine hh _ _ _ _ _ ((st.trans st2).trans st3) S3 ⟨t3, dj3⟩ fun z => ⟨(hq z).s.trans (Sub.new hp), fun a w => ?_⟩
        rcases w with w | w
        · subst w; exact (hq z).s.none hp
        · exact (hq z).f a (sb2 a w)
      · exact hh.elim
  · cases h
/-! ### parts of a slice -/
theorem o_nil : ∀ {c : CC} {k : Nat} {W : WX} {X : Cx}, XOk g c k W X → ∀ {e : Option Expr}, chkO c .nil e = true → PO X e (tOof (rdA g W (qt .nil) (evs g.G .nil))) := by
  intro c k W X ok e h
  simp only [chkO] at h
  split at h
  · refine ⟨fun pins s σ H Q I ⟨F, A, ro, S, hh⟩ => ?_⟩
    simp only [evs] at hh
    refine po_none.run pins s σ H Q I ?_
    rcases hh [] F H A (fun _ => False) Stp.refl.asT S ⟨rfl, fun _ z => z⟩ (fun _ => Qt.refl) with ⟨_, q⟩ | ⟨i, q, _⟩
    · exact q
    · cases q
  · cases h
theorem o_cons {a as : CE} (ia : Snd g a) : ∀ {c : CC} {k : Nat} {W : WX} {X : Cx}, XOk g c k W X → ∀ {e : Option Expr}, chkO c (.cons a as) e = true → PO X e (tOof (rdA g W (qt (.cons a as)) (evs g.G (.cons a as)))) := by
  intro c k W X ok e h
  cases as <;> simp only [chkO, Bool.false_eq_true] at h
  split at h
  · refine ⟨fun pins s σ H Q I ⟨F, A, ro, S, hh⟩ => ?_⟩
    refine (po_some (ia.E ok h)).run pins s σ H Q I ?_
    simp only [evs] at hh
    refine ⟨F, A, ro, S, PostA.bind hh fun h1 ro1 _ hh v F1 H1 A1 Ao st S1 hv hs => ?_⟩
    split at hh
    · simp only [Out.bind_ok] at hh
      rcases hh [v] F1 H1 A1 Ao st S1 ⟨v, [], Ao, fun _ => False, rfl, hv, ⟨rfl, fun _ z => z⟩, fun a x y => y, fun a => by simp⟩ (fun z => hs (and2 z).1) with ⟨q, _⟩ | ⟨i, q1, q2⟩
      · cases q
      · cases q1
        exact ⟨i, rfl, q2⟩
    · exact hh.elim
  · cases h
theorem HRs.looksD {K : PySem.W.Frag} {cl : Str → Option Addr} {F H : Hp} {A : AS} {ro : Ro} {σ : L2.St} (S : SR K cl F A ro σ H) : ∀ {hs : List Hd} {vs : List V} {Ao : AS} {xs : List PyData}, HRs K cl F H A σ hs vs Ao → Lw.looksD ro hs = some xs → DqAll K H vs xs
  | [], vs, Ao, xs, ⟨h1, h2⟩, e => by
    rw [Lw.looksD] at e
    cases e
    subst h1
    exact .nil
  | h :: hs, vs, Ao, xs, ⟨v, ws, B, C, e1, h1, h2, h3, h4⟩, e => by
    subst e1
    rw [Lw.looksD] at e
    split at e
    · rename_i x ys k1 k2
      cases e
      exact .cons (h1.lookD S k1) (HRs.looksD S h2 k2)
    · cases e
theorem HRs.looksF {K : PySem.W.Frag} {cl : Str → Option Addr} {F H : Hp} {A : AS} {ro : Ro} {σ : L2.St} (S : SR K cl F A ro σ H) : ∀ {hs : List Hd} {vs : List V} {Ao : AS} {xs : List PyData}, HRs K cl F H A σ hs vs Ao → Lw.looksF ro hs = some xs → FVs K F H vs xs
  | [], vs, Ao, xs, ⟨h1, h2⟩, e => by
    rw [Lw.looksF] at e
    cases e
    subst h1
    exact .nil
  | h :: hs, vs, Ao, xs, ⟨v, ws, B, C, e1, h1, h2, h3, h4⟩, e => by
    subst e1
    rw [Lw.looksF] at e
    split at e
    · rename_i x ys k1 k2
      cases e
      exact .cons (h1.lookF S k1) (HRs.looksF S h2 k2)
    · cases e
/-- a part, read -/
theorem HRs.part {K : PySem.W.Frag} {cl : Str → Option Addr} {F H : Hp} {A : AS} {ro : Ro} {σ : L2.St} (S : SR K cl F A ro σ H) {hs : List Hd} {vs : List V} {Ao : AS} {l : Option Int} (r : HRs K cl F H A σ hs vs Ao) (e : partD ro hs = some l) {Q : Option Int → Prop} (q : Q l) :
    (vs = [] ∧ Q none) ∨ ∃ i, vs = [.int i] ∧ Q (some i) := by
  unfold partD at e
  split at e
  · rename_i h
    cases e
    have := r.looksD S h
    cases this
    exact .inl ⟨rfl, q⟩
  · rename_i i h
    cases e
    have := r.looksD S h
    cases this with
    | cons k1 k2 =>
      cases k2
      cases k1
      exact .inr ⟨_, rfl, q⟩
  · cases e
theorem HRs.stepQ {K : PySem.W.Frag} {cl : Str → Option Addr} {F F' H H' : Hp} {A A' T : AS} {σ : L2.St} {h : Hd} {v : V} {Ao : AS} (r : HR K cl F H A σ h v Ao) (st : Stp F H A F' H' (fun a => A' a ∨ T a)) (d : h.deep = true → Sub H H') : HR K cl F' H' A' σ h v Ao := (r.step st d).1
theorem e_slc (ok : XOk g c k W X) {a lo hi : CE} (ia : Snd g a) (il : Snd g lo) (iu : Snd g hi) {e : Expr} (h : chk c (.slc a lo hi) e = true) : PE X e (rdE g W (qt (.slc a lo hi)) (ev g.G (.slc a lo hi))) := by
  simp only [chk] at h
  split at h
  · simp only [Bool.and_eq_true] at h
    obtain ⟨⟨h1, h2⟩, h3⟩ := h
    refine ⟨fun pins s σ H Q I ⟨F, A, ro, S, hh⟩ => ?_⟩
    refine (pe_slice sl_slc (ia.E ok h1) (il.O ok h2) (iu.O ok h3)).run pins s σ H Q I ?_
    simp only [ev] at hh
    refine ⟨F, A, ro, S, hh.bind fun hd ro1 _ hh v F1 H1 A1 Ao st S1 hv hq => ?_⟩
    have hh := hh.shift st (fun z => (hq (and2 (and2 z).1).1).s)
    split at hh
    · rename_i hd2
      obtain ⟨d1, d2⟩ := and2 hd2
      refine ⟨F1, A1, ro1, S1, hh.bindA fun ls ro2 _ hh vl F2 H2 A2 Bo st2 S2 hl hq2 => ?_⟩
      have hh := hh.shift st2 (fun z => (hq2 (and2 (and2 z).1).2).s)
      have hv2 := (hv.step st2 (fun z => (hq2 (okD_of d1 z)).s)).1
      split at hh
      · rename_i l el
        refine hl.part S2 el (Q := fun l => tOof (rdA g W (qt hi) (evs g.G hi)) σ H2 fun u H3 => rSlc X.K v l u H3 Q) ?_
        refine ⟨F2, A2, ro2, S2, hh.bindA fun us ro3 _ hh vu F3 H3 A3 Co st3 S3 hu hq3 => ?_⟩
        have hh := hh.shift st3 (fun z => (hq3 (and2 z).2).s)
        have hv3 := (hv2.step st3 (fun z => (hq3 (okD_of d2 z)).s)).1
        split at hh
        · rename_i o u eo eu
          refine hu.part S3 eu (Q := fun u => rSlc X.K v l u H3 Q) ?_
          obtain ⟨hd3, ho, hh⟩ := hh.ofOpt
          obtain ⟨r, hr, rfl⟩ := of_map_some ho
          obtain ⟨B, hB, _⟩ := hv3.look S3 eo
          rw [ok.kk]
          exact ⟨F3, g.cl, B, o, r, S3.sub, hB, hr, fun w H' z => hh.res S3 z⟩
        · exact hh.elim
      · exact hh.elim
    · exact hh.elim
  · cases h
end
end Lw

set_option maxRecDepth 100000
set_option maxHeartbeats 1000000
/-! Lw9: calls, what loops walk. -/
namespace Lw
open PySem L2 RZ
section
variable {g : Gx} {c : CC} {k : Nat} {W : WX} {X : Cx}
/-- a built-in function, by the table -/
theorem prim_run (ok : XOk g c k W X) (p : Pr) (hc : (c.calm || !p.calm) = true) {e : Expr} {es : List Expr} {t : TA} {pn pos : Pos} (hg : bltB c p.nm = true) (ha : PA X (e :: es) t) (he : starEach (e :: es) X.env = (false, eval e X.env) :: starEach es X.env) (hpl : (backTo pos (starEach es X.env)).any (·.1) = false) :
    PE X (.Call (.Name p.nm pn) (e :: es) [] pos) (tCB (rPrim X.K p) t) := by
  obtain ⟨g1, g2, g3, g4⟩ := ok.bltn hg
  have hcm : p.calm = true → X.calm = true := fun z => by rw [ok.calm]; rw [z] at hc; simpa using hc
  cases p with
  | len => exact pe_callB pr_len g1 g4 (by decide +kernel) ha g3 g2 he hpl
  | int => exact pe_callTy pr_int g1 g4 (by decide +kernel) ha g3 g2 he hpl
  | abs => exact pe_callB pr_abs g1 g4 (by decide +kernel) ha g3 g2 he hpl
  | max => exact pe_callB (pr_max (hcm rfl) ok.hu) g1 g4 (by decide +kernel) ha g3 g2 he hpl
  | min => exact pe_callB (pr_min (hcm rfl) ok.hu) g1 g4 (by decide +kernel) ha g3 g2 he hpl
  | sum => exact pe_callB (pr_sum (hcm rfl)) g1 g4 (by decide +kernel) ha g3 g2 he hpl
  | all => exact pe_callB (pr_all (hcm rfl)) g1 g4 (by decide +kernel) ha g3 g2 he hpl
  | any => exact pe_callB (pr_any (hcm rfl)) g1 g4 (by decide +kernel) ha g3 g2 he hpl
  | tuple => exact pe_callTy pr_tuple g1 g4 (by decide +kernel) ha g3 g2 he hpl
  | list => exact pe_callTy pr_list g1 g4 (by decide +kernel) ha g3 g2 he hpl
  | sorted => exact pe_callB (pr_sorted ok.hu) g1 g4 (by decide +kernel) ha g3 g2 he hpl
theorem e_prim (ok : XOk g c k W X) {p : Pr} {as : CE} (ia : Snd g as) {e : Expr} (h : chk c (.prim p as) e = true) : PE X e (rdE g W (qt (.prim p as)) (ev g.G (.prim p as))) := by
  simp only [chk] at h
  split at h
  · simp only [Bool.and_eq_true, decide_eq_true_eq] at h
    obtain ⟨⟨⟨h1, h2⟩, h3⟩, h4⟩ := h
    subst h2
    obtain ⟨k1, k2⟩ := plain_args (env := X.env) h4
    refine ⟨fun pins s σ H Q I ⟨F, A, ro, S, hh⟩ => ?_⟩
    refine (prim_run ok p h1 h3 (ia.L ok h4) k1 k2).run pins s σ H Q I ?_
    simp only [ev] at hh
    refine ⟨F, A, ro, S, hh.bindA fun hs ro1 _ hh vs F1 H1 A1 Ao st S1 hv hq => ?_⟩
    have hh := hh.shift st (fun z => (hq z).s)
    split at hh
    · rename_i xs ex
      obtain ⟨hd, ho, hh⟩ := hh.ofOpt
      obtain ⟨r, hr, rfl⟩ := of_map_some ho
      rw [ok.kk]
      exact ⟨F1, xs, r, S1.sub, hv.looksF S1 ex, hr, fun v H' z => hh.res S1 z⟩
    · exact hh.elim
  · cases h
theorem boot_isi : bootBuiltins ("isinstance" : Str) = some (.builtin "isinstance") := by decide +kernel
theorem boot_tn (T : Tn) : bootBuiltins T.nm = some (.type T.s) := by cases T <;> decide +kernel
theorem e_isi (ok : XOk g c k W X) {a : CE} {T : Tn} (ia : Snd g a) {e : Expr} (h : chk c (.isi a T) e = true) : PE X e (rdE g W (qt (.isi a T)) (ev g.G (.isi a T))) := by
  simp only [chk] at h
  split at h
  · simp only [Bool.and_eq_true, decide_eq_true_eq] at h
    obtain ⟨⟨⟨⟨⟨h1, h2⟩, h3⟩, h4⟩, h5⟩, h6⟩ := h
    subst h1; subst h3
    obtain ⟨g1, g2, g3, g4⟩ := ok.bltn h2
    obtain ⟨f1, f2, f3, f4⟩ := ok.bltn h4
    refine ⟨fun pins s σ H Q I ⟨F, A, ro, S, hh⟩ => ?_⟩
    refine (pe_callB call_isi g1 g4 boot_isi (pa_cons (ia.E ok h5) (pa_cons (pe_bltn f1 f4 (boot_tn T) (v := .ty T.s) rfl f3 f2) pa_nil) (star_of h6)) g3 g2 (star_of h6) rfl).run pins s σ H Q I ?_
    simp only [ev] at hh
    refine ⟨F, A, ro, S, hh.bind fun hs ro1 _ hh v F1 H1 A1 Ao st S1 hv hq => ?_⟩
    have hh := hh.shift st (fun z => (hq z).s)
    split at hh
    · rename_i x ex
      obtain ⟨hd, ho, hh⟩ := hh.ofOpt
      obtain ⟨r, hr, rfl⟩ := of_map_some ho
      show rIsi X.K [v, .ty T.s] H1 Q
      rw [ok.kk]
      exact isi_of (hv.lookD S1 ex) hr (hh.sc S1 (.bl _))
    · exact hh.elim
  · cases h
theorem arg_ok {K : PySem.W.Frag} {cl : Str → Option Addr} {h : Hd} {v : V} {F H : Hp} {A Ao : AS} {ro ro' : Ro} {σ : L2.St} {o : O} (S : SR K cl F A ro σ H) (r : HR K cl F H A σ h v Ao) (e : h.arg ro = .ok o ro') :
    ∃ F' A', SR K cl F' A' ro' σ H ∧ OR K cl F' H o v (fun _ => False) ∧ Stp F H (fun a => A a ∨ Ao a) F' H A' ∧ ∀ a, A' a → A a := by
  unfold Hd.arg at e
  split at e
  · rename_i ns hl
    cases e
    obtain ⟨B, hB, _⟩ := r.look S hl
    cases hB with
    | scr hs => exact ⟨F, A, S, .scr hs, (Stp.refl.frame Ao).weak fun a z => .inl z, fun a z => z⟩
  · cases q : h.esc ro with
    | exc x r => rw [q] at e; cases e
    | stuck => rw [q] at e; cases e
    | ok x ro1 =>
      rw [q] at e
      cases e
      obtain ⟨F1, A1, S1, d1, st1, su1⟩ := r.esc S q
      exact ⟨F1, A1, S1, .d d1, st1, su1⟩
theorem argsO_ok {K : PySem.W.Frag} {cl : Str → Option Addr} : ∀ {hs : List Hd} {vs : List V} {F H : Hp} {A Ao : AS} {ro ro' : Ro} {σ : L2.St} {os : List O}, SR K cl F A ro σ H → HRs K cl F H A σ hs vs Ao → argsO hs ro = .ok os ro' →
    ∃ F' A', SR K cl F' A' ro' σ H ∧ ORs K cl F' H os vs (fun _ => False) ∧ Stp F H (fun a => A a ∨ Ao a) F' H A' ∧ ∀ a, A' a → A a
  | [], vs, F, H, A, Ao, ro, ro', σ, xs, S, ⟨h1, h2⟩, e => by
    rw [argsO] at e
    cases e
    subst h1
    exact ⟨F, A, S, .nil, (Stp.refl.frame Ao).weak fun a z => .inl z, fun a z => z⟩
  | h :: hs, vs, F, H, A, Ao, ro, ro', σ, xs, S, ⟨v, ws, B, C, e1, h1, h2, h3, h4⟩, e => by
    subst e1
    rw [argsO] at e
    cases q : h.arg ro with
    | exc x r => rw [q] at e; cases e
    | stuck => rw [q] at e; cases e
    | ok x ro1 =>
      rw [q] at e
      simp only [Out.bind_ok] at e
      cases q2 : argsO hs ro1 with
      | exc x r => rw [q2] at e; cases e
      | stuck => rw [q2] at e; cases e
      | ok ys ro2 =>
        rw [q2] at e
        cases e
        obtain ⟨F1, A1, S1, d1, st1, su1⟩ := arg_ok S h1 q
        have w := (HRs.widen (B := B) h2 h3)
        obtain ⟨k1, _⟩ := HRs.step st1.asT (Sub.refl H) w
        obtain ⟨F2, A2, S2, d2, st2, su2⟩ := argsO_ok S1 k1 q2
        have d1' := (d1.step (fun _ z => z.elim) st2).1
        refine ⟨F2, A2, S2, (ORs.cons d1' d2 fun _ z => z.elim).cast fun a => ⟨fun z => z.elim id id, fun z => z.elim⟩, ?_, fun a z => su1 a (su2 a z)⟩
        refine ((st1.frame C).trans st2).from fun a => ?_
        constructor
        · rintro ((z | z) | z)
          · exact .inl z
          · exact .inr ((h4 a).mpr (.inl z))
          · exact .inr ((h4 a).mpr (.inr z))
        · rintro (z | z)
          · exact .inl (.inl z)
          · rcases (h4 a).mp z with z | z
            · exact .inl (.inr z)
            · exact .inr z
theorem arg_noexc {h : Hd} {ro ro' : Ro} {x : Exn} : h.arg ro ≠ .exc x ro' := fun e => by
  unfold Hd.arg at e
  split at e
  · cases e
  · cases q : h.esc ro with
    | exc y r => exact esc_noexc q
    | ok a r => rw [q] at e; cases e
    | stuck => rw [q] at e; cases e
theorem argsO_noexc : ∀ {hs : List Hd} {ro ro' : Ro} {x : Exn}, argsO hs ro ≠ .exc x ro'
  | [], ro, ro', x, e => by rw [argsO] at e; cases e
  | h :: hs, ro, ro', x, e => by
    rw [argsO] at e
    cases q : h.arg ro with
    | exc y r => exact arg_noexc q
    | stuck => rw [q] at e; cases e
    | ok a r =>
      rw [q] at e
      simp only [Out.bind_ok] at e
      cases q2 : argsO hs r with
      | exc y r => exact argsO_noexc q2
      | ok b r2 => rw [q2] at e; cases e
      | stuck => rw [q2] at e; cases e
theorem e_call (ok : XOk g c k W X) {f : Nat} {as : CE} (ia : Snd g as) {e : Expr} (h : chk c (.call f as) e = true) : PE X e (rdE g W (qt (.call f as)) (ev g.G (.call f as))) := by
  simp only [chk] at h
  split at h
  · simp only [Bool.and_eq_true, decide_eq_true_eq] at h
    obtain ⟨⟨⟨h1, h2⟩, h3⟩, h4⟩ := h
    obtain ⟨k1, k2⟩ := plain_args (env := X.env) h4
    obtain ⟨ad, fd, ps, m1, m2, m3, m4⟩ := ok.fns f _ h2
    obtain ⟨g1, g2, g3⟩ := ok.glb h3
    refine ⟨fun pins s σ H Q I ⟨F, A, ro, S, hh⟩ => ?_⟩
    refine (pe_callS (CX := L2.CX g.P g.w) (k := k) (f := ad) (fd := fd) (ps := ps) (sp := PSpec g (g.G.call f)) (E := WE W) (by rw [ok.pr, ok.ww, ok.kk, ok.mm, ok.bb]; exact m2) (ok.room h1) g1 (by rw [ok.mm]; exact m1) (by rw [ok.kk]; exact m3) (by rw [ok.kk]; exact m4) (fun σ => by rw [← ok.pr, ← ok.ww]; exact passAt ok.tk σ) (ia.L ok h4) g2 k1 k2).run pins s σ H Q I ?_
    simp only [ev] at hh
    refine ⟨F, A, ro, S, hh.bindA fun hs ro1 _ hh vs F1 H1 A1 Ao st S1 hv hq => ?_⟩
    cases q : argsO hs ro1 with
    | exc x r => exact absurd q argsO_noexc
    | stuck => rw [q] at hh; exact hh.elim
    | ok xs ro2 =>
      rw [q] at hh
      simp only [Out.bind_ok] at hh
      obtain ⟨F2, A2, S2, d2, st2, su2⟩ := argsO_ok S1 hv q
      have hh := hh.shift (st.trans st2).asT (fun z => (hq z).s)
      refine ⟨F2, fun _ => False, xs, S2.sub, d2, ?_⟩
      -- what the call leaves of the own trees
      have key : ∀ {F' H' : Hp} {Bo : AS}, Stp F2 H1 (fun _ => False) F' H' Bo → Sub F' H' → SR g.K g.cl F' A2 ro2 σ H' ∧ Stp F2 H1 A2 F' H' (fun a => A2 a ∨ Bo a) ∧ (∀ a, Bo a → A2 a → False) ∧ Qt H1 H' Bo := fun {F' H' Bo} s3 sb => by
        have fr : ∀ a, A2 a → H' a = H1 a := fun a z => by
          cases e : H1 a with
          | none => exact absurd e (S2.rs.own a z).2
          | some o => exact s3.kp a o e fun z => z
        have nb : ∀ a, Bo a → H1 a = none := fun a z => (s3.na a z).elim False.elim id
        refine ⟨⟨S2.rs.frame s3.fr fr fun a z => ?_, sb⟩, ⟨s3.fr, fun a o e n => s3.kp a o e fun z => z, fun a z => (s3.nf a z).elim .inl fun z => z.elim (fun z => .inr (.inl z)) False.elim, fun a z => z.elim .inl fun z => .inr (nb a z)⟩, fun a z w => (S2.rs.own a w).2 (nb a z), ⟨fun a o e => s3.kp a o e fun z => z, nb⟩⟩
        cases e : F' a with
        | none => rfl
        | some o =>
          exfalso
          rcases s3.nf a (by rw [e]; simp) with z2 | z2 | z2
          · exact z2 (S2.rs.own a z).1
          · exact (S2.rs.own a z).2 z2
          · exact z2
      cases hr : g.G.call f xs with
      | ok o back =>
        rw [hr] at hh
        intro v F' H' Bo s3 sb ho
        obtain ⟨q1, q2, q3, q4⟩ := key s3 sb
        exact hh v F' H' A2 Bo q2 q1 ⟨ho, q3⟩ fun _ => q4
      | exc x back =>
        rw [hr] at hh
        intro C F' H' hm s3 sb
        obtain ⟨q1, q2, q3, q4⟩ := key s3 sb
        exact hh C F' H' A2 hm (q2.weak fun a z => .inl z) q1
      | stuck => rw [hr] at hh; exact hh
  · cases h
/-! ### what loops walk -/
theorem PostI.from {q z qa : Bool} {F : Hp} {A : AS} {σ : L2.St} {H : Hp} {R : It → Hp → Prop} {Q : VK} {r : Out Hd} {f : Hd → Ro → Out (List PyData)} (h : PostI g W q z F A σ H (r.bind f) R)
    (k : ∀ hd ro1, r = .ok hd ro1 → PostI g W q z F A σ H (f hd ro1) R → ∀ v F1 H1 A1 Ao, Stp F H A F1 H1 (fun a => A1 a ∨ Ao a) → SR g.K g.cl F1 A1 ro1 σ H1 → HR g.K g.cl F1 H1 A1 σ hd v Ao → (qa = true → Qt H H1 Ao) → Q v H1) : Post g W qa F A σ H r Q := by
  cases r with
  | ok hd ro1 => exact k hd ro1 rfl h
  | exc x ro1 => exact h
  | stuck => exact h
theorem PostI.fromA {q z qa : Bool} {F : Hp} {A : AS} {σ : L2.St} {H : Hp} {R : It → Hp → Prop} {Q : List V → Hp → Prop} {r : Out (List Hd)} {f : List Hd → Ro → Out (List PyData)} (h : PostI g W q z F A σ H (r.bind f) R)
    (k : ∀ hd ro1, r = .ok hd ro1 → PostI g W q z F A σ H (f hd ro1) R → ∀ v F1 H1 A1 Ao, Stp F H A F1 H1 (fun a => A1 a ∨ Ao a) → SR g.K g.cl F1 A1 ro1 σ H1 → HRs g.K g.cl F1 H1 A1 σ hd v Ao → (qa = true → Qt H H1 Ao) → Q v H1) : PostA g W qa F A σ H r Q := by
  cases r with
  | ok hd ro1 => exact k hd ro1 rfl h
  | exc x ro1 => exact h
  | stuck => exact h
theorem PostI.shift {q z : Bool} {F F1 H H1 : Hp} {A A1 T : AS} {σ : L2.St} {r : Out (List PyData)} {Q : It → Hp → Prop} (h : PostI g W q z F A σ H r Q) (st : Stp F H A F1 H1 (fun a => A1 a ∨ T a)) (hq : q = true → Sub H H1) : PostI g W q z F1 A1 σ H1 r Q := by
  cases r with
  | ok hd ro1 =>
    intro J F' H' A' s2 S hJ hs
    exact h J F' H' A' ((st.trans (s2.frame T)).weak fun a z => .inl z) S hJ fun e => (hq e).trans (hs e)
  | exc x ro1 =>
    intro C F' H' A' hm s2 S
    exact h C F' H' A' hm ((st.trans (s2.frame T)).weak fun a z => .inl z) S
  | stuck => exact h
theorem iter_list {K : PySem.W.Frag} {F B : Hp} {a : Addr} {vs : List V} {xs : List PyData} (hb : B a = some (.lst vs)) (hd : DqAll K F vs xs) : IterFor K F B (Itl K a) xs where
  go := fun i x H e s => by
    have hq : SqL K H a vs := .of (s _ _ hb)
    obtain ⟨v, hv, hx⟩ := hd.getD e
    refine ⟨⟨vs, v, hq, hv⟩, fun w H' y => ?_⟩
    obtain ⟨e1, y⟩ := y
    have := y vs hq
    rw [hv] at this
    cases this
    rw [e1]
    exact res_old' hx
  stop := fun H s => ⟨vs, .of (s _ _ hb), by rw [hd.len]; exact Nat.le_refl _⟩
theorem iter_tup {K : PySem.W.Frag} {F B : Hp} {a : Addr} {vs : List V} {xs : List PyData} (hb : SqT K B a vs) (hd : DqAll K F vs xs) : IterFor K F B (Itt K a) xs where
  go := fun i x H e s => by
    have hq : SqT K H a vs := s.sqT hb
    obtain ⟨v, hv, hx⟩ := hd.getD e
    refine ⟨⟨vs, v, hq, hv⟩, fun w H' y => ?_⟩
    obtain ⟨e1, y⟩ := y
    have := y vs hq
    rw [hv] at this
    cases this
    rw [e1]
    exact res_old' hx
  stop := fun H s => ⟨vs, s.sqT hb, by rw [hd.len]; exact Nat.le_refl _⟩
theorem range_get (lo : Int) (n i : Nat) (x : PyData) (h : ((List.range n).map fun (k : Nat) => PyData.int (lo + (k : Int)))[i]? = some x) : i < n ∧ x = .int (lo + (i : Int)) := by
  rw [List.getElem?_map] at h
  by_cases hi : i < n
  · rw [List.getElem?_range hi] at h
    simp at h
    exact ⟨hi, h.symm⟩
  · rw [List.getElem?_eq_none (by simpa using hi)] at h
    simp at h
theorem iter_rng {K : PySem.W.Frag} {F B : Hp} {lo hi : Int} : IterFor K F B (Itr lo (hi - lo).toNat) (rangeD lo hi) where
  go := fun i x H e s => by
    obtain ⟨h1, rfl⟩ := range_get _ _ _ _ e
    refine ⟨h1, fun w H' y => ?_⟩
    obtain ⟨e1, e2⟩ := y
    subst e1; subst e2
    exact ⟨rfl, .int _⟩
  stop := fun H s => by
    unfold rangeD
    rw [List.length_map, List.length_range]
    exact Nat.le_refl _
theorem enum_get {xs : List PyData} {i : Nat} {y : PyData} (h : (enumD xs)[i]? = some y) : ∃ x, xs[i]? = some x ∧ y = .tuple [.int (i : Int), x] := by
  unfold enumD at h
  rw [List.getElem?_zipWith] at h
  cases e : xs[i]? with
  | none => rw [e] at h; split at h <;> simp_all
  | some x =>
    have hi : i < xs.length := (List.getElem?_eq_some_iff.mp e).1
    rw [e, List.getElem?_range hi] at h
    simp at h
    exact ⟨x, rfl, h.symm⟩
theorem enum_len (xs : List PyData) : (enumD xs).length = xs.length := by
  unfold enumD
  rw [List.length_zipWith, List.length_range, Nat.min_self]
theorem iter_enum {K : PySem.W.Frag} {F B : Hp} {a : Addr} {vs : List V} {xs : List PyData} (hb : B a = some (.lst vs)) (hd : DqAll K F vs xs) : IterFor K F B (Ite K a) (enumD xs) where
  go := fun i y H e s => by
    have hq : SqL K H a vs := .of (s _ _ hb)
    obtain ⟨x, ex, rfl⟩ := enum_get e
    obtain ⟨v, hv, hx⟩ := hd.getD ex
    refine ⟨⟨vs, v, hq, hv⟩, fun w H' y => ?_⟩
    obtain ⟨T, x', rfl, hT, rfl, y⟩ := y
    have := y vs hq
    rw [hv] at this
    cases this
    exact .inr ⟨T, _, rfl, hT, rfl, .cons (.int _) (.cons hx .nil)⟩
  stop := fun H s => ⟨vs, .of (s _ _ hb), by rw [hd.len, enum_len]; exact Nat.le_refl _⟩
theorem zip_get {xs ys : List PyData} {i : Nat} {z : PyData} (h : (zipD xs ys)[i]? = some z) : ∃ x y, xs[i]? = some x ∧ ys[i]? = some y ∧ z = .tuple [x, y] := by
  unfold zipD at h
  rw [List.getElem?_zipWith] at h
  cases e : xs[i]? with
  | none => rw [e] at h; simp at h
  | some x =>
    cases e2 : ys[i]? with
    | none => rw [e, e2] at h; simp at h
    | some y =>
      rw [e, e2] at h
      simp at h
      exact ⟨x, y, rfl, rfl, h.symm⟩
theorem iter_zip {K : PySem.W.Frag} {F B : Hp} {a b : Addr} {vs ws : List V} {xs ys : List PyData} (hb : B a = some (.lst vs)) (hb2 : B b = some (.lst ws)) (hd : DqAll K F vs xs) (hd2 : DqAll K F ws ys) : IterFor K F B (Itz K a b) (zipD xs ys) where
  go := fun i y H e s => by
    have hq : SqL K H a vs := .of (s _ _ hb)
    have hq2 : SqL K H b ws := .of (s _ _ hb2)
    obtain ⟨x, y', ex, ey, rfl⟩ := zip_get e
    obtain ⟨v, hv, hx⟩ := hd.getD ex
    obtain ⟨w, hw, hy⟩ := hd2.getD ey
    refine ⟨⟨vs, ws, v, w, hq, hq2, hv, hw⟩, fun u H' y => ?_⟩
    obtain ⟨T, x1, x2, rfl, hT, rfl, y1, y2⟩ := y
    have e1 := y1 vs hq
    have e2 := y2 ws hq2
    rw [hv] at e1; cases e1
    rw [hw] at e2; cases e2
    exact .inr ⟨T, _, rfl, hT, rfl, .cons hx (.cons hy .nil)⟩
  stop := fun H s => ⟨vs, ws, .of (s _ _ hb), .of (s _ _ hb2), by
    unfold zipD
    rw [List.length_zipWith, hd.len, hd2.len]
    omega⟩
theorem iter_zipT {K : PySem.W.Frag} {F B : Hp} {a b : Addr} {vs ws : List V} {xs ys : List PyData} (hb : SqT K B a vs) (hb2 : SqT K B b ws) (hd : DqAll K F vs xs) (hd2 : DqAll K F ws ys) : IterFor K F B (ItzT K a b) (zipD xs ys) where
  go := fun i y H e s => by
    have hq : SqT K H a vs := s.sqT hb
    have hq2 : SqT K H b ws := s.sqT hb2
    obtain ⟨x, y', ex, ey, rfl⟩ := zip_get e
    obtain ⟨v, hv, hx⟩ := hd.getD ex
    obtain ⟨w, hw, hy⟩ := hd2.getD ey
    refine ⟨⟨vs, ws, v, w, hq, hq2, hv, hw⟩, fun u H' y => ?_⟩
    obtain ⟨T, x1, x2, rfl, hT, rfl, y1, y2⟩ := y
    have e1 := y1 vs hq
    have e2 := y2 ws hq2
    rw [hv] at e1; cases e1
    rw [hw] at e2; cases e2
    exact .inr ⟨T, _, rfl, hT, rfl, .cons hx (.cons hy .nil)⟩
  stop := fun H s => ⟨vs, ws, s.sqT hb, s.sqT hb2, by
    unfold zipD
    rw [List.length_zipWith, hd.len, hd2.len]
    omega⟩
def WalkP (K : PySem.W.Frag) (F B : Hp) (v : V) : PyData → Prop
  | .list xs => ∃ a vs, v = .ref a ∧ B a = some (.lst vs) ∧ DqAll K F vs xs
  | .tuple xs => ∃ a vs, v = .ref a ∧ SqT K B a vs ∧ DqAll K F vs xs
  | _ => True
/-- what is walked, frozen or looked at -/
theorem walk_of {z : Bool} {F H : Hp} {A Ao : AS} {ro : Ro} {σ : L2.St} {h : Hd} {v : V} {xs : PyData} {ro2 : Ro} (S : SR g.K g.cl F A ro σ H) (hv : HR g.K g.cl F H A σ h v Ao) (e : (if z = true then h.esc ro else .ofOpt (h.lookF ro) ro) = .ok xs ro2) :
    ∃ F2 A2, SR g.K g.cl F2 A2 ro2 σ H ∧ Stp F H (fun a => A a ∨ Ao a) F2 H A2 ∧ WalkP g.K F2 (if z = true then F2 else H) v xs := by
  cases z with
  | true =>
    simp only [if_true] at e ⊢
    obtain ⟨F2, A2, S2, d, st, _⟩ := hv.esc S e
    refine ⟨F2, A2, S2, st, ?_⟩
    cases xs <;> first | exact trivial | exact d.lst_eq | exact d.tup_eq
  | false =>
    simp only [Bool.false_eq_true, if_false] at e ⊢
    cases q : h.lookF ro with
    | none => rw [q] at e; cases e
    | some x =>
      rw [q] at e
      cases e
      have d := hv.lookF S q
      refine ⟨F, A, S, (Stp.refl.frame Ao).weak fun a z => .inl z, ?_⟩
      cases xs with
      | list xs => exact d
      | tuple xs =>
        obtain ⟨a, vs, e1, e2, e3⟩ := Dq.tup_eq d
        exact ⟨a, vs, e1, S.sub.sqT e2, e3⟩
      | _ => exact trivial
theorem i_seq {a : CE} (ia : Snd g a) (z : Bool) (ok : XOk g c k W X) {tg e : Expr} (h : chkI c (.seq a) tg e = true) : PI X tg e (rdI g W (qt (.seq a)) z (evI g.G z (.seq a))) := by
  simp only [chkI] at h
  obtain ⟨h0, h1⟩ := and2 h
  refine ⟨fun pins s σ H R I ⟨F, A, ro, S, hh⟩ => ?_⟩
  simp only [evI] at hh
  have hh : PostI g W (qt a) z F A σ H ((ev g.G a ro).bind fun h ro => (if z = true then h.esc ro else .ofOpt (h.lookF ro) ro).bind fun x ro => .ofOpt (itemsD x) ro) R := by
    cases r : ev g.G a ro with
    | ok hd ro1 =>
      rw [r] at hh
      simp only [Out.bind_ok] at hh ⊢
      cases z with
      | true => exact hh
      | false =>
        simp only [Bool.false_eq_true, if_false] at hh ⊢
        cases q : hd.lookF ro1 with
        | none => rw [q] at hh; exact hh.elim
        | some x => rw [q] at hh; exact hh
    | exc x ro1 => rw [r] at hh; exact hh
    | stuck => rw [r] at hh; exact hh
  -- which of the two rules
  cases r : ev g.G a ro with
  | stuck => rw [r] at hh; exact hh.elim
  | exc x ro1 =>
    refine (pi_list (ia.E ok h1)).run pins s σ H R I ⟨F, A, ro, S, ?_⟩
    rw [r] at hh ⊢
    exact hh
  | ok hd ro1 =>
    rw [r] at hh
    simp only [Out.bind_ok] at hh
    cases q : (if z = true then hd.esc ro1 else .ofOpt (hd.lookF ro1) ro1 : Out PyData) with
    | stuck => rw [q] at hh; exact hh.elim
    | exc x r2 =>
      cases z with
      | true => exact absurd q esc_noexc
      | false =>
        simp only [Bool.false_eq_true, if_false] at q
        cases q2 : hd.lookF ro1 <;> rw [q2] at q <;> cases q
    | ok x ro2 =>
      rw [q] at hh
      simp only [Out.bind_ok] at hh
      cases x with
      | list xs =>
        refine (pi_list (ia.E ok h1)).run pins s σ H R I ⟨F, A, ro, S, ?_⟩
        rw [r]
        intro v F1 H1 A1 Ao st S1 hv hq
        obtain ⟨F2, A2, S2, st2, a', vs, e1, e2, e3⟩ := walk_of S1 hv q
        refine ⟨a', e1, ⟨vs, ?_⟩, ?_⟩
        · refine .of ?_
          cases z with
          | true => exact S2.sub _ _ e2
          | false => exact e2
        · rw [ok.kk]
          exact hh _ F2 H1 A2 (st.trans st2) S2 (iter_list e2 e3) fun z => (hq z).s
      | tuple xs =>
        refine (pi_tup (ia.E ok h1)).run pins s σ H R I ⟨F, A, ro, S, ?_⟩
        rw [r]
        intro v F1 H1 A1 Ao st S1 hv hq
        obtain ⟨F2, A2, S2, st2, a', vs, e1, e2, e3⟩ := walk_of S1 hv q
        refine ⟨a', e1, ⟨vs, ?_⟩, ?_⟩
        · rw [ok.kk]
          cases z with
          | true => exact S2.sub.sqT e2
          | false => exact e2
        · rw [ok.kk]
          exact hh _ F2 H1 A2 (st.trans st2) S2 (iter_tup e2 e3) fun z => (hq z).s
      | _ => exact hh.elim
theorem evs_len {G : GE} {c : CC} : ∀ {as : CE} {es : List Expr} {ro ro' : Ro} {hs : List Hd}, chks c as es = true → evs G as ro = .ok hs ro' → hs.length = es.length
  | as, [], ro, ro', hs, h, e => by
    cases as <;> simp only [chks, Bool.false_eq_true] at h
    rw [evs] at e
    cases e
    rfl
  | as, x :: es, ro, ro', hs, h, e => by
    cases as <;> simp only [chks, Bool.false_eq_true] at h
    case cons a as =>
      rw [evs] at e
      cases q : ev G a ro with
      | exc y r => rw [q] at e; cases e
      | stuck => rw [q] at e; cases e
      | ok y r =>
        rw [q] at e
        simp only [Out.bind_ok] at e
        split at e
        · cases q2 : evs G as r with
          | exc y r => rw [q2] at e; cases e
          | stuck => rw [q2] at e; cases e
          | ok ys r2 =>
            rw [q2] at e
            cases e
            rw [List.length_cons, List.length_cons, evs_len (and2 h).2 q2]
        · cases e
theorem HRs.len {K : PySem.W.Frag} {cl : Str → Option Addr} {F H : Hp} {A : AS} {σ : L2.St} : ∀ {hs : List Hd} {vs : List V} {Ao : AS}, HRs K cl F H A σ hs vs Ao → vs.length = hs.length
  | [], vs, Ao, ⟨h1, h2⟩ => by rw [h1]; rfl
  | h :: hs, vs, Ao, ⟨v, ws, B, C, e1, h1, h2, h3, h4⟩ => by rw [e1, List.length_cons, List.length_cons, HRs.len h2]
theorem i_rng {as : CE} (ia : Snd g as) (z : Bool) (ok : XOk g c k W X) {tg e : Expr} (h : chkI c (.rng as) tg e = true) : PI X tg e (rdI g W (qt (.rng as)) z (evI g.G z (.rng as))) := by
  simp only [chkI] at h
  have key : ∀ {es : List Expr} (_ : chks c as es = true) {F : Hp} {A : AS} {ro : Ro} {σ : L2.St} {H : Hp} {R : It → Hp → Prop} (Q : List V → Hp → Prop), PostI g W (qt (.rng as)) z F A σ H (evI g.G z (.rng as) ro) R →
      (∀ vs H1, vs.length = es.length → ((∃ j : Int, vs = [.int j] ∧ -(2 ^ 62) ≤ j ∧ j < 2 ^ 62 ∧ R (Itr 0 j.toNat) H1) ∨ (∃ i j : Int, vs = [.int i, .int j] ∧ (-(2 ^ 62) ≤ i ∧ i < 2 ^ 62 ∧ -(2 ^ 62) ≤ j ∧ j < 2 ^ 62) ∧ R (Itr i (j - i).toNat) H1)) → Q vs H1) →
      PostA g W (qt as) F A σ H (evs g.G as ro) Q := by
    intro es hc F A ro σ H R Q hh hQ
    simp only [evI] at hh
    refine hh.fromA fun hs ro1 hr hh vs F1 H1 A1 Ao st S1 hv hq => hQ _ _ (by rw [hv.len, evs_len hc hr]) ?_
    have hh := hh.shift st (fun z => (hq z).s)
    split at hh
    · rename_i n en
      split at hh
      · rename_i hn
        have d := hv.looksD S1 en
        cases d with
        | cons k1 k2 =>
          cases k1; cases k2
          refine .inl ⟨n, rfl, hn.1, hn.2, ?_⟩
          have it : IterFor g.K F1 (if z = true then F1 else H1) (Itr 0 (n - 0).toNat) (rangeD 0 n) := iter_rng
          rw [Int.sub_zero] at it
          exact hh _ F1 H1 A1 .refl S1 it fun _ => .refl _
      · exact hh.elim
    · rename_i m n en
      split at hh
      · rename_i hn
        have d := hv.looksD S1 en
        cases d with
        | cons k1 k2 =>
          cases k2 with
          | cons k2 k3 =>
            cases k1; cases k2; cases k3
            exact .inr ⟨m, n, rfl, hn, hh _ F1 H1 A1 .refl S1 iter_rng fun _ => .refl _⟩
      · exact hh.elim
    · exact hh.elim
  split at h
  · simp only [Bool.and_eq_true, decide_eq_true_eq] at h
    obtain ⟨⟨h1, h2⟩, h3⟩ := h
    subst h1
    obtain ⟨g1, g2, g3, g4⟩ := ok.bltn h2
    refine ⟨fun pins s σ H R I ⟨F, A, ro, S, hh⟩ => ?_⟩
    obtain ⟨p1, p2⟩ := plain_args (env := X.env) (pos := default) h3
    refine (pi_range1 g1 g4 (ia.L ok h3) p1).run pins s σ H R I ⟨F, A, ro, S, key h3 _ hh ?_⟩
    rintro vs H1 hl (q | ⟨i, j, e, _⟩)
    · exact q
    · rw [e] at hl; cases hl
  · simp only [Bool.and_eq_true, decide_eq_true_eq] at h
    obtain ⟨⟨h1, h2⟩, h3⟩ := h
    subst h1
    obtain ⟨g1, g2, g3, g4⟩ := ok.bltn h2
    refine ⟨fun pins s σ H R I ⟨F, A, ro, S, hh⟩ => ?_⟩
    obtain ⟨p1, p2⟩ := plain_args (env := X.env) (pos := default) h3
    have p3 : ∀ {a b : Expr}, chks c as [a, b] = true → starEach [b] X.env = [(false, eval b X.env)] := by
      intro a b h3
      cases as <;> simp only [chks, Bool.false_eq_true] at h3
      exact (plain_args (env := X.env) (pos := default) (and2 h3).2).1
    refine (pi_range2 g1 g4 (ia.L ok h3) (by rw [p1, p3 h3]) (p3 h3)).run pins s σ H R I ⟨F, A, ro, S, key h3 _ hh ?_⟩
    rintro vs H1 hl (⟨j, e, _⟩ | q)
    · rw [e] at hl; cases hl
    · exact q
  · cases h
end
end Lw

set_option maxRecDepth 100000
set_option maxHeartbeats 1000000
/-! LwT: sorted(set(xs)), xs tuples of ints. -/
namespace Lw
open PySem L2 RZ
/-! ### the order of tuples of ints -/
theorem dataLt_nil_tup : PySem.W.dataLt (.tuple []) (.tuple []) = false := by decide
theorem lexLt_atom (n m : Int) (a b : List (Int ⊕ List Nat)) : PyProof.Rows.lexLt PyProof.Rows.itemOrd (.inl n :: a) (.inl m :: b) = (decide (n < m) || (!decide (m < n) && PyProof.Rows.lexLt PyProof.Rows.itemOrd a b)) := by
  rw [PyProof.Rows.lex_cons]; rfl
theorem dataLt_tup_int (n m : Int) (xs ys : List PyData) : PySem.W.dataLt (.tuple (.int n :: xs)) (.tuple (.int m :: ys)) = (decide (n < m) || (decide (n = m) && PySem.W.dataLt (.tuple xs) (.tuple ys))) := by
  have e : PySem.W.dataLt (.tuple (.int n :: xs)) (.tuple (.int m :: ys)) = PyProof.Rows.lexLt PyProof.Rows.itemOrd (.inl 1 :: .inl n :: PySem.W.keyToksAll xs) (.inl 1 :: .inl m :: PySem.W.keyToksAll ys) := by
    unfold PySem.W.dataLt
    simp [PySem.W.keyToks, PySem.W.keyToksAll]
  rw [e, lexLt_atom, lexLt_atom]
  have e2 : PySem.W.dataLt (.tuple xs) (.tuple ys) = PyProof.Rows.lexLt PyProof.Rows.itemOrd (PySem.W.keyToksAll xs) (PySem.W.keyToksAll ys) := by
    unfold PySem.W.dataLt
    simp [PySem.W.keyToks]
  rw [e2]
  rcases Int.lt_trichotomy n m with h | h | h
  · simp [h, show ¬ m < n by omega]
  · subst h; simp
  · simp [h, show ¬ n < m by omega, show ¬ n = m by omega]
def tupI (k : List Int) : PyData := .tuple (k.map .int)
theorem code_dataLt {B : Int} : ∀ (k q : List Int), k.length = q.length → TS.Bd B k → TS.Bd B q → (PySem.W.dataLt (tupI k) (tupI q) = true ↔ TS.code B k < TS.code B q)
  | [], [], _, _, _ => by
    constructor
    · intro h; exact absurd h (by unfold tupI; rw [List.map_nil, dataLt_nil_tup]; decide)
    · intro h; exact absurd h (Int.lt_irrefl _)
  | [], _ :: _, h, _, _ => by cases h
  | _ :: _, [], h, _, _ => by cases h
  | d :: r, e :: s, h, h1, h2 => by
    have hl : r.length = s.length := by simpa using h
    have ih := code_dataLt r s hl h1.tail h2.tail
    have e1 : PySem.W.dataLt (tupI (d :: r)) (tupI (e :: s)) = (decide (d < e) || (decide (d = e) && PySem.W.dataLt (tupI r) (tupI s))) := dataLt_tup_int d e _ _
    rw [e1]
    rcases Int.lt_trichotomy d e with hde | hde | hde
    · have := TS.code_lt hl h1.tail h2.tail hde
      simp [hde, this]
    · subst hde
      rw [TS.code_same hl, ← ih]
      simp
    · have := TS.code_lt hl.symm h2.tail h1.tail hde
      have q : ¬ TS.code B (d :: r) < TS.code B (e :: s) := by omega
      simp [show ¬ d < e by omega, show ¬ d = e by omega, q]
theorem tupI_inj {k q : List Int} (h : tupI k = tupI q) : k = q := by
  unfold tupI at h
  injection h with h
  exact List.map_inj_right (fun a b e => by injection e) |>.mp h
theorem intsD_eq : ∀ {xs : List PyData} {is : List Int}, intsD xs = some is → xs = is.map .int
  | [], is, h => by rw [intsD] at h; cases h; rfl
  | x :: xs, is, h => by
    cases x <;> simp only [intsD] at h <;> try cases h
    split at h
    · rename_i js e
      cases h
      rw [intsD_eq e] <;> rfl
    · cases h
theorem tupsD_eq : ∀ {xs : List PyData} {ks : List (List Int)}, tupsD xs = some ks → xs = ks.map tupI
  | [], ks, h => by rw [tupsD] at h; cases h; rfl
  | x :: xs, ks, h => by
    cases x <;> simp only [tupsD] at h <;> try cases h
    split at h
    · rename_i a b e1 e2
      cases h
      rw [tupsD_eq e2, intsD_eq e1] <;> rfl
    · cases h
theorem tups_ks {K : PySem.W.Frag} {F : Hp} : ∀ {ks : List (List Int)} {ws : List V}, DqAll K F ws (ks.map tupI) → ∃ ps : List (Addr × List Int), ws = ps.map (fun p => V.ref p.1) ∧ ps.map (·.2) = ks ∧ ∀ p ∈ ps, SqT K F p.1 (p.2.map V.int)
  | [], ws, h => by cases h; exact ⟨[], rfl, rfl, fun _ z => nomatch z⟩
  | k :: ks, ws, h => by
    cases h with
    | cons h1 h2 =>
      obtain ⟨ps, e1, e2, e3⟩ := tups_ks h2
      obtain ⟨a, vs, rfl, k1, k2⟩ := Dq.tup_eq h1
      have : vs = k.map V.int := k2.ints (by
        have : ∀ k : List Int, intsD (k.map .int) = some k := fun k => by
          induction k with
          | nil => rfl
          | cons a k ih => rw [List.map_cons, intsD, ih]
        exact this k)
      subst this
      exact ⟨(a, k) :: ps, by rw [e1]; rfl, by rw [List.map_cons, e2], fun p hp => by
        rcases List.mem_cons.mp hp with rfl | hp
        · exact k1
        · exact e3 p hp⟩
theorem dq_tups {K : PySem.W.Frag} {F : Hp} : ∀ {ps : List (Addr × List Int)}, (∀ p ∈ ps, SqT K F p.1 (p.2.map V.int)) → DqAll K F (ps.map fun p => V.ref p.1) (ps.map fun p => tupI p.2)
  | [], _ => .nil
  | p :: ps, h => .cons (.tup (h p List.mem_cons_self) (DqAll.ofInts _)) (dq_tups fun q hq => h q (List.mem_cons_of_mem _ hq))
theorem mem_dedupL {k : List Int} : ∀ {ks : List (List Int)}, k ∈ dedupL ks ↔ k ∈ ks
  | [] => by rw [dedupL]
  | a :: ks => by
    rw [dedupL]
    split
    · rename_i h
      rw [mem_dedupL, List.mem_cons]
      constructor
      · exact .inr
      · rintro (rfl | h2)
        · simpa using h
        · exact h2
    · rw [List.mem_cons, List.mem_cons, mem_dedupL]
theorem nodup_dedupL : ∀ ks : List (List Int), (dedupL ks).Nodup
  | [] => .nil
  | a :: ks => by
    rw [dedupL]
    split
    · exact nodup_dedupL ks
    · rename_i h
      refine List.nodup_cons.mpr ⟨fun z => h ?_, nodup_dedupL ks⟩
      simpa using mem_dedupL.mp z
/-- what is there once, by the order -/
theorem sset_eq {B : Int} {d : Nat} {ks : List (List Int)} {L : List (List Int)} (hL : L.Nodup) (hm : ∀ k, k ∈ L ↔ k ∈ ks) (hk : ∀ k ∈ ks, k.length = d ∧ TS.Bd B k) (hs : L.Pairwise fun a b => TS.code B a ≤ TS.code B b) :
    L.map tupI = insSort ((dedupL ks).map tupI) := by
  have hn : ((dedupL ks)).Nodup := nodup_dedupL ks
  have pm : L.Perm (dedupL ks) := (List.perm_ext_iff_of_nodup hL hn).mpr fun k => by rw [hm k, mem_dedupL]
  have hlt : ∀ a ∈ L, ∀ b ∈ L, TS.code B a ≤ TS.code B b → leB (tupI a) (tupI b) = true := fun a ha b hb h => by
    unfold leB
    have ka := hk a ((hm a).mp ha)
    have kb := hk b ((hm b).mp hb)
    cases q : PySem.W.dataLt (tupI b) (tupI a) with
    | false => rfl
    | true =>
      have := (code_dataLt b a (by rw [ka.1, kb.1]) kb.2 ka.2).mp q
      omega
  refine List.Perm.eq_of_pairwise (le := fun a b => leB a b = true) (fun a b ha hb h1 h2 => ?_) ?_ (insSort_sorted _) ((pm.map tupI).trans (insSort_perm _).symm)
  · obtain ⟨x, hx, rfl⟩ := List.mem_map.mp ha
    obtain ⟨y, hy, rfl⟩ := List.mem_map.mp ((insSort_perm _).mem_iff.mp hb)
    have kx := hk x ((hm x).mp hx)
    have ky := hk y (by rw [mem_dedupL] at hy; exact hy)
    unfold leB at h1 h2
    have al : ∀ x y : List Int, PySem.W.alike (tupI x) (tupI y) = true := fun x y => by
      unfold tupI
      rw [PySem.W.alike]
      induction x generalizing y with
      | nil => rw [List.map_nil, PySem.W.alikeAll]
      | cons a x ih =>
        cases y with
        | nil => rw [List.map_cons, List.map_nil, PySem.W.alikeAll]
        | cons b y => rw [List.map_cons, List.map_cons, PySem.W.alikeAll, PySem.W.alike, ih y]; rfl
    refine lt_antisymm (al x y) ?_ ?_
    · cases q : PySem.W.dataLt (tupI x) (tupI y) with
      | false => rfl
      | true => rw [q] at h2; cases h2
    · cases q : PySem.W.dataLt (tupI y) (tupI x) with
      | false => rfl
      | true => rw [q] at h1; cases h1
  · refine List.pairwise_map.mpr (List.Pairwise.imp_of_mem (fun {a b} ha hb h => hlt a ha b hb h) hs)
theorem le_sum_nat : ∀ {ks : List (List Int)} {k : List Int} {n : Int}, k ∈ ks → n ∈ k → n ≤ ((ks.map fun k => (k.map Int.natAbs).sum).sum : Nat)
  | c :: ks, k, n, h, hn => by
    rw [List.map_cons, List.sum_cons]
    rcases List.mem_cons.mp h with rfl | h
    · have : ∀ {k : List Int} {n : Int}, n ∈ k → n ≤ ((k.map Int.natAbs).sum : Nat) := fun {k n} hn => by
        induction k with
        | nil => cases hn
        | cons a k ih =>
          rw [List.map_cons, List.sum_cons]
          rcases List.mem_cons.mp hn with rfl | hn
          · omega
          · have := ih hn
            omega
      have := this hn
      omega
    · have := le_sum_nat h hn
      omega
section
variable {g : Gx} {c : CC} {k : Nat} {W : WX} {X : Cx}
theorem e_sset (ok : XOk g c k W X) {a : CE} (ia : Snd g a) {e : Expr} (h : chk c (.sset a) e = true) : PE X e (rdE g W (qt (.sset a)) (ev g.G (.sset a))) := by
  simp only [chk] at h
  split at h
  · simp only [Bool.and_eq_true, decide_eq_true_eq] at h
    obtain ⟨⟨⟨⟨⟨⟨h1, h2⟩, h3⟩, h4⟩, h5⟩, h6⟩, h7⟩ := h
    subst h2; subst h4
    obtain ⟨g1, g2, g3, g4⟩ := ok.bltn h3
    obtain ⟨f1, f2, f3, f4⟩ := ok.bltn h5
    have hc : X.calm = true := by rw [ok.calm]; exact h1
    have hu := ok.un
    refine ⟨fun pins s σ H Q I ⟨F, A, ro, S, hh⟩ => ?_⟩
    refine (pe_callB (cr_sortedT hc) g1 g4 (by decide +kernel) (pa_cons (pe_callTy (cr_setOfT hc (by omega)) f1 f4 (by decide +kernel) (pa_cons (ia.E ok h7) pa_nil (star_of h6)) f3 f2 (star_of h6) rfl) pa_nil) g3 g2 rfl rfl).run pins s σ H Q I ?_
    simp only [ev] at hh
    refine ⟨F, A, ro, S, hh.bind fun hs ro1 _ hh v F1 H1 A1 Ao st S1 hv hq => ?_⟩
    have hh := hh.shift st (fun z => (hq z).s)
    split at hh
    · rename_i xs hx
      obtain ⟨hd, ho, hh⟩ := hh.ofOpt
      obtain ⟨ys, hy, rfl⟩ := of_map_some ho
      unfold ssetD at hy
      split at hy
      · rename_i ks hks
        split at hy
        · rename_i hcond
          cases hy
          obtain ⟨hlen, hall⟩ := hcond
          rw [tupsD_eq hks] at hx
          obtain ⟨l, ws, rfl, hl, hws⟩ := hv.lookF S1 hx
          obtain ⟨ps, e1, e2, e3⟩ := tups_ks hws
          subst e1
          have sq : ∀ p ∈ ps, SqT g.K F1 p.1 (p.2.map V.int) := e3
          have hB : ∀ p ∈ ps, p.2.length = (ks.headD []).length ∧ 1 ≤ p.2.length ∧ TS.Bd (((ks.map fun k => (k.map Int.natAbs).sum).sum : Nat) + 1) p.2 := fun p hp => by
            have hm : p.2 ∈ ks := by rw [← e2]; exact List.mem_map_of_mem hp
            have := List.all_eq_true.mp hall p.2 hm
            simp only [Bool.and_eq_true, decide_eq_true_eq, List.all_eq_true] at this
            refine ⟨this.1.2, this.1.1, fun n hn => ⟨this.2 n hn, ?_⟩⟩
            have := le_sum_nat hm hn
            omega
          rw [ok.kk, ok.pr, ok.ww]
          refine ⟨l, ps, rfl, SqL.of hl, fun p hp => S1.sub.sqT (sq p hp), by rw [← List.length_map (f := (·.2)), e2]; exact hlen, fun a L ha hL1 hL2 => ?_⟩
          have sub1 : Sub H1 (upd H1 a (SetTO g.P g.w a L)) := Sub.new ha
          have neA : ∀ p ∈ L, SqT g.K F1 p.1 (p.2.map V.int) := fun p hp => sq p (hL1 p hp)
          obtain ⟨d, hd1, hd⟩ : ∃ d : Nat, 1 ≤ d ∧ ∀ p ∈ ps, p.2.length = d := by
            cases ps with
            | nil => exact ⟨1, Nat.le_refl _, fun _ z => nomatch z⟩
            | cons p0 ps => exact ⟨_, (hB p0 List.mem_cons_self).2.1, fun p hp => (hB p hp).1.trans (hB p0 List.mem_cons_self).1.symm⟩
          refine ⟨a, L, d, ((ks.map fun k => (k.map Int.natAbs).sum).sum : Nat) + 1, rfl, upd_same, fun p hp => sub1.sqT (S1.sub.sqT (neA p hp)), hd1, fun p hp => ⟨hd p (hL1 p hp), (hB p (hL1 p hp)).2.2⟩, fun L' q pm nd few pw hq2 => ?_⟩
          obtain ⟨S2, st2, _, _⟩ := S1.newO (ob := SetTO g.P g.w a L) ha
          have hh2 := hh.shift st2.asT (fun _ => sub1)
          have em : (L'.map fun p => tupI p.2) = insSort ((dedupL ks).map tupI) := by
            have := sset_eq (ks := ks) (L := L'.map (·.2)) (d := d) (B := ((ks.map fun k => (k.map Int.natAbs).sum).sum : Nat) + 1) nd (fun k => ?_) (fun k hk => ?_) (List.pairwise_map.mpr pw)
            · rw [← this, List.map_map]; rfl
            · rw [← e2]
              constructor
              · intro h
                obtain ⟨p, hp, rfl⟩ := List.mem_map.mp h
                exact List.mem_map_of_mem (hL1 p (pm.mem_iff.mp hp))
              · intro h
                obtain ⟨p, hp, rfl⟩ := List.mem_map.mp h
                obtain ⟨r, hr, er⟩ := List.mem_map.mp (hL2 p hp)
                exact List.mem_map.mpr ⟨r, pm.mem_iff.mpr hr, er⟩
            · rw [← e2] at hk
              obtain ⟨p, hp, rfl⟩ := List.mem_map.mp hk
              exact ⟨hd p hp, (hB p hp).2.2⟩
          refine hh2.res S2 ⟨q, _, _, rfl, rfl, hq2, rfl, ?_⟩
          have := dq_tups (K := g.K) (F := F1) (ps := L') fun p hp => neA p (pm.mem_iff.mp hp)
          rw [em] at this
          exact this
        · cases hy
      · cases hy
    · exact hh.elim
  · cases h
end
end Lw

set_option maxRecDepth 100000
set_option maxHeartbeats 1000000
/-! LwE: enumerate over a tuple. -/
namespace Lw
open PySem PySem.Spec PyProof.Rows L2
open AutoSeq1 (wpAny_loadPart')

theorem meets_enumerate_newT (l : Addr) (items : Array Value) (n : Nat) (dct : Option Addr) (sl : Array (Option Value)) :
    Meets (Builtin.«enumerate.__new__» ⟨[.type "enumerate", .ref l], []⟩) (fun _ R s => s.heap.get? l = some { cls := .type "tuple", dict := dct, data := .seq items n, slots := sl } ∧
      R (.ok (.ret (.ref (s.heap.push { cls := .type "tuple_iterator", data := .fields #[.ref l, .int 0 0] }).objs.size)))
        { s with heap := (s.heap.push { cls := .type "tuple_iterator", data := .fields #[.ref l, .int 0 0] }).push { cls := .type "enumerate", data := .fields #[.none, .bool false, .ref s.heap.objs.size, rawInt 0, .none, .none] } }) :=
  .of_wp fun prog w A R s h => by
    obtain ⟨hp, g, d, tk, os⟩ := s; obtain ⟨hl, h⟩ := h
    have hsub := sub_enumerate
    have hL : Heap.IsTuple (Shared.heap ⟨hp, g, d, tk, os⟩) l items := ⟨_, hl, rfl, n, rfl⟩
    wp_walk using wpAny_loadPart' hl
    refine wpAny_stack_any fun st => wpAny_pure ?_
    split
    · rename_i c _ _ _ _ _
      cases (c == Value.type "enumerate")
      · wp_walk using wpAny_loadPart' hl, wpAny_pyIter_tuple hL
        exact ⟨_, rfl, h⟩
      · wp_walk using wpAny_loadPart' hl, wpAny_pyIter_tuple hL
        exact ⟨_, rfl, h⟩
    · wp_walk using wpAny_loadPart' hl, wpAny_pyIter_tuple hL
      exact ⟨_, rfl, h⟩
section
variable {prog : Program} {w : World} {A : Around} {E : Value → Shared → Prop} {s : Shared}
theorem call_enumerate_tuple {l : Addr} {items : Array Value} {Q : Value → Shared → Prop} (hL : s.heap.IsTuple l items)
    (h : ∀ h', IsEnum h' (s.heap.objs.size + 1) s.heap.objs.size 0 .none → h'.IsTupleIter s.heap.objs.size l 0 → h'.objs.size = s.heap.objs.size + 2 →
      (∀ b o, s.heap.get? b = some o → h'.get? b = some o) → Q (.ref (s.heap.objs.size + 1)) { s with heap := h' }) :
    wpAny (model prog w) A (call (.type "enumerate") [.ref l]) Q E s := by
  obtain ⟨⟨c, dct, dt, sl⟩, hl, hc, n, hd⟩ := hL
  replace hc : c = .type "tuple" := hc
  replace hd : dt = .seq items n := hd
  subst hc hd
  refine callType_new F.called_enumerate (by decide) (F.typeCall_enumerate_1 _) (F.newCall_enumerate_1 _) (fun obj => F.args_object_init_2 obj _) F.entry_enumerate_new
    (meets_enumerate_newT l items n dct sl) ⟨hl, ?_⟩
  have hz : (s.heap.push { cls := .type "tuple_iterator", data := .fields #[.ref l, .int 0 0] }).objs.size = s.heap.objs.size + 1 := Heap.size_push ..
  show _ ∧ _
  rw [hz]
  have he : IsEnum ((s.heap.push { cls := .type "tuple_iterator", data := .fields #[.ref l, .int 0 0] }).push
      { cls := .type "enumerate", data := .fields #[.none, .bool false, .ref s.heap.objs.size, rawInt 0, .none, .none] }) (s.heap.objs.size + 1) s.heap.objs.size 0 .none := by
    have := Heap.get?_push_size (s.heap.push { cls := .type "tuple_iterator", data := .fields #[.ref l, .int 0 0] })
      (o := { cls := .type "enumerate", data := .fields #[.none, .bool false, .ref s.heap.objs.size, rawInt 0, .none, .none] }) rfl
    rw [hz] at this; exact this
  refine ⟨⟨_, he, rfl⟩, h _ he ⟨_, Heap.get?_push_of_some _ (Heap.get?_push_size _ rfl), rfl, rfl⟩ (by rw [Heap.size_push, hz]) fun b o x => Heap.get?_push_of_some _ (Heap.get?_push_of_some _ x)⟩
end
/-- the tuple at a as it stands at each turn, each item in a new pair -/
def IteT (K : PySem.W.Frag) (a : Addr) : It :=
  ⟨fun i H => ∃ (xs : List V) (x : V), SqT K H a xs ∧ xs[i]? = some x, fun i H v H' => ∃ T x, v = .ref T ∧ H T = none ∧ H' = upd H T (.tup [.int (i : Nat), x]) ∧ ∀ xs, SqT K H a xs → xs[i]? = some x, fun i H => ∃ xs : List V, SqT K H a xs ∧ xs.length = i⟩
theorem turn_enumT {P : Program} {w : World} {K : PySem.W.Frag} {elts : List Expr} {kk : Nat} {tpos : Pos} (a e it : Addr) (hai : a ≠ it) (hae : a ≠ e) :
    Turn P w K (.Tuple elts kk tpos) (IteT K a) [e, it] e (fun i h => (∃ old, IsEnum h e it ((i : Nat) : Int) old) ∧ h.IsTupleIter it a i ∧ e ≠ it) where
  mem := by simp
  obj := fun i h st b hb => by
    obtain ⟨⟨old, he⟩, ⟨o, ho, hc, hd⟩, _⟩ := st
    have e' : b = e ∨ b = it := by simpa using hb
    rcases e' with z | z
    · rw [z]; exact ⟨_, he, fun v q => nomatch q⟩
    · rw [z]; exact ⟨o, ho, fun v q => by rw [hd] at q; cases q⟩
  keep := fun i h h' st k => let ⟨⟨old, he⟩, hi, hne⟩ := st; ⟨⟨old, k e (by simp) _ he⟩, hi.at fun o q => k it (by simp) o q, hne⟩
  item := by
    intro X hP hw hK hc i pins s σ H E I hf st hg
    subst hP hw hK
    obtain ⟨⟨old, he⟩, hit, hne⟩ := st
    obtain ⟨xs, x, hq, hx⟩ := hg
    obtain ⟨its, rv, p, hz⟩ := I.tuple hq
    have pT : s.heap.IsTuple a its.toArray := p
    obtain ⟨u, hu, ru⟩ := rv.get hx
    have hel : e < s.heap.objs.size := Heap.lt_size he
    have hil : it < s.heap.objs.size := by obtain ⟨_, q, _⟩ := hit; exact Heap.lt_size q
    have hin : i < its.toArray.size := by
      obtain ⟨w, _⟩ := List.getElem?_eq_some_iff.mp hu
      simpa using w
    refine wpAny_pyNext_enum_itemD (Draws.tuple (A := X.A.in1) (I.ok.hd hc) it a hai its.toArray) he ⟨hit, pT⟩ hin hne (by simp [hne, Ne.symm hae]) fun x' h' tk hP ho hst' hT hsz hk => ?_
    have hux : x' = u := by
      have h1 : its[i]? = some x' := by simpa using hP
      rw [hu] at h1
      exact (Option.some.inj h1).symm
    subst hux
    refine ⟨_, rfl, wpAny_letOwnedTupleGo_enum (s := { s with heap := h', toks := tk + 1 }) ho fun h'' he' sb => ?_⟩
    have hT2 : h''.get? s.heap.objs.size = some { cls := .type "tuple", data := .seq #[.int i tk, x'] } := (sb.2 _ (Nat.ne_of_gt hel)).trans hT
    have new : ObjOk X.prog X.w (upd H s.heap.objs.size (.tup [.int (i : Nat), x])) h'' s.heap.objs.size (.tup [.int (i : Nat), x]) :=
      ⟨by show 2 ≤ sizeLine; decide, [.int i tk, x'], .cons ⟨_, rfl⟩ (.cons ru .nil), ⟨_, hT2, rfl, _, rfl⟩⟩
    have I1 : Inv X pins σ (upd H s.heap.objs.size (.tup [.int (i : Nat), x])) { s with heap := h'', toks := tk + 1 } :=
      I.turnedNew (t' := tk + 1) (ch := [e, it]) (fun b ob hb q => (sb.2 b (fun z => hb (by simp [z]))).trans (hk b ob (fun z => hb (by simp [z])) (fun z => hb (by simp [z])) q)) hf (Nat.le_refl _) new
    refine ⟨.ref s.heap.objs.size, _, I1, rfl, ⟨_, x, rfl, I.hok.fresh (Nat.le_refl _), rfl, fun ys hy => by rw [I.tuple_inj hy hq]; exact hx⟩, ⟨⟨x', ?_⟩, hst'.1.at fun o q => (sb.2 it (Ne.symm hne)).trans q, hne⟩, fun b hb => ?_⟩
    · have e1 : ((i + 1 : Nat) : Int) = (i : Int) + 1 := by omega
      rw [e1]; exact he'
    · have hb' : b < s.heap.objs.size := by
        have e' : b = e ∨ b = it := by simpa using hb
        rcases e' with z | z
        · rw [z]; exact hel
        · rw [z]; exact hil
      rw [upd_ne (Nat.ne_of_lt hb')]
      exact (hf b hb).1
  done := by
    intro X hP hw hK hc i pins s σ H E I hf st hg
    subst hP hw hK
    obtain ⟨⟨old, he⟩, hit, hne⟩ := st
    obtain ⟨xs, hq, hx⟩ := hg
    obtain ⟨its, rv, p, hz⟩ := I.tuple hq
    have pT : s.heap.IsTuple a its.toArray := p
    obtain ⟨f0, f1, f2, f3, f4, f5⟩ := hf it (by simp)
    have hl := rv.length
    have en : i = its.toArray.size := by simp; omega
    refine wpAny_pyNext_enum_endD (Draws.tuple (A := X.A.in1) (I.ok.hd hc) it a hai its.toArray) he (by rw [← en]; exact ⟨hit, pT⟩) fun h' eb => ⟨rfl, I.turned (t' := s.toks) (fun b o hb q => eb b o hb q) f0 f1 f3 f4 f5⟩
  self := fun A i s Q E st h => let ⟨⟨_, he⟩, _⟩ := st; wpAny_pyIter_enum he h
def iEnumT (K : PySem.W.Frag) (ta : TA) : TI := fun σ H R => ta σ H fun vs H1 => ∃ a xs, vs = [.ref a] ∧ SqT K H1 a xs ∧ R (IteT K a) H1
theorem pi_enumT {X : Cx} {e : Expr} {ta : TA} {p pos tpos : Pos} {elts : List Expr} {kk : Nat} (hg : Gl X "enumerate") (hm : X.mg "enumerate" = none) (ha : PA X [e] ta) (hs : starEach [e] X.env = [(false, eval e X.env)] := by rfl) :
    PI X (.Tuple elts kk tpos) (.Call (.Name "enumerate" p) [e] [] pos) (iEnumT X.K ta) := by
  refine ⟨fun pins s σ H R I h => ?_⟩
  refine Call_ (ld_blt I hg hm boot_enumerate (PyProof.Rows.callWith_type1 (thn (ha.run pos pins s σ H _ I h) fun us s1 ⟨vs, H1, I1, r1, q1⟩ => ?_) hs rfl))
  obtain ⟨a, xs, ex, hq, q⟩ := q1
  subst ex
  cases r1 with
  | cons r rr =>
    cases rr
    cases r
    obtain ⟨its, rv, p', hz⟩ := I1.tuple hq
    have pT : s1.heap.IsTuple a its.toArray := p'
    have al : a < s1.heap.objs.size := by obtain ⟨_, q, _⟩ := id pT; exact Heap.lt_size q
    refine call_enumerate_tuple pT fun h' he hit hsz hk => wpAny_pyIter_enum he ?_
    have I2 : Inv X pins σ H1 { s1 with heap := h' } := I1.kept (t' := s1.toks) hk
    refine ⟨s1.heap.objs.size + 1, [s1.heap.objs.size + 1, s1.heap.objs.size], _, _, H1, rfl, I2, turn_enumT a (s1.heap.objs.size + 1) s1.heap.objs.size (Nat.ne_of_lt al) (Nat.ne_of_lt (Nat.lt_succ_of_lt al)), ⟨⟨.none, he⟩, hit, Nat.succ_ne_self _⟩, fun b hb => ?_, q⟩
    have e' : b = s1.heap.objs.size + 1 ∨ b = s1.heap.objs.size := by simpa using hb
    have hle : s1.heap.objs.size ≤ b := by
      rcases e' with z | z
      · rw [z]; exact Nat.le_add_right _ _
      · rw [z]; exact Nat.le_refl _
    exact I1.fpOk hle (I1.hok.fresh hle)
end Lw

set_option maxRecDepth 100000
set_option maxHeartbeats 1000000
/-! LwZ: zip of a list or a tuple with a list or a tuple. -/
namespace Lw
open PySem PySem.Spec PyProof.Rows L2
def SqB (b : Bool) (K : PySem.W.Frag) (H : Hp) (a : Addr) (xs : List V) : Prop := match b with
  | true => SqT K H a xs
  | false => SqL K H a xs
def SeqB (b : Bool) (h : Heap) (a : Addr) (items : Array Value) : Prop := match b with
  | true => h.IsTuple a items
  | false => h.IsList a items
def IterB (b : Bool) (h : Heap) (it a : Addr) (i : Nat) : Prop := match b with
  | true => h.IsTupleIter it a i
  | false => h.IsListIter it a i
def objB (b : Bool) (a : Addr) : Obj := match b with
  | true => { cls := .type "tuple_iterator", data := .fields #[.ref a, .int 0 0] }
  | false => { cls := .type "list_iterator", data := .fields #[.ref a, .int 0 0] }
theorem IterB.obj {b : Bool} {h : Heap} {it a : Addr} {i : Nat} (x : IterB b h it a i) : ∃ o, h.get? it = some o ∧ ∀ v, o.data ≠ .cell v := by
  cases b <;> exact (let ⟨o, e, _, d⟩ := x; ⟨o, e, fun v q => by rw [d] at q; cases q⟩)
theorem IterB.at {b : Bool} {h h' : Heap} {it a : Addr} {i : Nat} (x : IterB b h it a i) (e : ∀ o, h.get? it = some o → h'.get? it = some o) : IterB b h' it a i := by
  cases b
  · exact Heap.IsListIter.at x e
  · exact Heap.IsTupleIter.at x e
theorem SeqB.lt {b : Bool} {h : Heap} {a : Addr} {items : Array Value} (x : SeqB b h a items) : a < h.objs.size := by
  cases b
  · obtain ⟨o, e, _⟩ := x; exact Heap.lt_size e
  · obtain ⟨o, e, _⟩ := x; exact Heap.lt_size e
section
variable {X : Cx} {pins : List (Addr × Obj)} {σ : L2.St} {H : Hp} {s : Shared}
theorem sqB_get (I : Inv X pins σ H s) {b : Bool} {a : Addr} {xs : List V} (h : SqB b X.K H a xs) : ∃ its : List Value, Vals xs its ∧ SeqB b s.heap a its.toArray := by
  cases b
  · obtain ⟨its, rv, p, _⟩ := I.list h
    exact ⟨its, rv, p.isList⟩
  · obtain ⟨its, rv, p, _⟩ := I.tuple h
    exact ⟨its, rv, p⟩
theorem sqB_inj (I : Inv X pins σ H s) {b : Bool} {a : Addr} {xs ys : List V} (h : SqB b X.K H a xs) (h' : SqB b X.K H a ys) : xs = ys := by
  cases b
  · exact I.list_inj h h'
  · exact I.tuple_inj h h'
end
theorem draws_b {prog : Program} {w : World} {A : Around} (hh : A.handled = none) (b : Bool) (it a : Addr) (hne : a ≠ it) (items : Array Value) :
    Draws prog w A it [it, a] items.size (fun i v => items[i]? = some v) (fun i h => IterB b h it a i ∧ SeqB b h a items) := by
  cases b
  · exact Draws.list hh it a hne items
  · exact Draws.tuple hh it a hne items
theorem begins_b (b : Bool) (a : Addr) (items : Array Value) : Begins (.ref a) (objB b a) fun h => SeqB b h a items := by
  cases b
  · exact begins_list a items
  · exact begins_tuple a items
theorem iterB_new {b : Bool} {h : Heap} {it a : Addr} (e : h.get? it = some (objB b a)) : IterB b h it a 0 := by
  cases b
  · exact ⟨_, e, rfl, rfl⟩
  · exact ⟨_, e, rfl, rfl⟩
/-- the items of the two in new pairs -/
def ItG (K : PySem.W.Frag) (b1 b2 : Bool) (a b : Addr) : It :=
  ⟨fun i H => ∃ (xs ys : List V) (x y : V), SqB b1 K H a xs ∧ SqB b2 K H b ys ∧ xs[i]? = some x ∧ ys[i]? = some y,
    fun i H v H' => ∃ T x y, v = .ref T ∧ H T = none ∧ H' = upd H T (.tup [x, y]) ∧ (∀ xs, SqB b1 K H a xs → xs[i]? = some x) ∧ ∀ ys, SqB b2 K H b ys → ys[i]? = some y,
    fun i H => ∃ xs ys : List V, SqB b1 K H a xs ∧ SqB b2 K H b ys ∧ i ≤ xs.length ∧ i ≤ ys.length ∧ (xs.length = i ∨ ys.length = i)⟩
theorem turn_zipG {P : Program} {w : World} {K : PySem.W.Frag} {elts : List Expr} {kk : Nat} {tpos : Pos} {b1 b2 : Bool} {a b z TI TO i1 i2 : Addr} (D : ZipSep2 z TI TO i1 i2 [i1, a] [i2, b]) (ha : a ≠ i1) (hb : b ≠ i2) :
    Turn P w K (.Tuple elts kk tpos) (ItG K b1 b2 a b) [z, TI, TO, i1, i2] z (fun i h => IsZip h z TI TO .none ∧ IsTupOf2 h TI (.ref i1) (.ref i2) ∧ (∃ x y, IsTupOf2 h TO x y) ∧ IterB b1 h i1 a i ∧ IterB b2 h i2 b i) where
  mem := by simp
  obj := fun i h st c hc => by
    obtain ⟨hz, hTI, ⟨x, y, hTO⟩, h1, h2⟩ := st
    have e' : c = z ∨ c = TI ∨ c = TO ∨ c = i1 ∨ c = i2 := by simpa using hc
    rcases e' with q | q | q | q | q
    · rw [q]; exact ⟨_, hz, fun v q => nomatch q⟩
    · rw [q]; exact ⟨_, hTI, fun v q => nomatch q⟩
    · rw [q]; exact ⟨_, hTO, fun v q => nomatch q⟩
    · rw [q]; exact h1.obj
    · rw [q]; exact h2.obj
  keep := fun i h h' st k => by
    obtain ⟨hz, hTI, ⟨x, y, hTO⟩, h1, h2⟩ := st
    exact ⟨k z (by simp) _ hz, k TI (by simp) _ hTI, ⟨x, y, k TO (by simp) _ hTO⟩, h1.at fun o q => k i1 (by simp) o q, h2.at fun o q => k i2 (by simp) o q⟩
  item := by
    intro X hP hw hK hc i pins s σ H E I hf st hg
    subst hP hw hK
    obtain ⟨hz, hTI, ⟨x0, y0, hTO⟩, h1, h2⟩ := st
    obtain ⟨xs, ys, x, y, hqx, hqy, hx, hy⟩ := hg
    obtain ⟨its, rv, p⟩ := sqB_get I hqx
    obtain ⟨its2, rv2, p2⟩ := sqB_get I hqy
    obtain ⟨u, hu, ru⟩ := rv.get hx
    obtain ⟨u2, hu2, ru2⟩ := rv2.get hy
    have hzl : z < s.heap.objs.size := Heap.lt_size hz
    have l1 : i < its.toArray.size := by obtain ⟨w, _⟩ := List.getElem?_eq_some_iff.mp hu; simpa using w
    have l2 : i < its2.toArray.size := by obtain ⟨w, _⟩ := List.getElem?_eq_some_iff.mp hu2; simpa using w
    refine wpAny_pyNext_zipD2_item D (draws_b (A := X.A.in1) (I.ok.hd hc) b1 i1 a ha its.toArray) (draws_b (A := X.A.in1) (I.ok.hd hc) b2 i2 b hb its2.toArray) hz hTI hTO ⟨h1, p⟩ ⟨h2, p2⟩ l1 l2 fun v1 v2 h' tk e1 e2 z' TO' st1 st2 hT hsz hk => ?_
    have e1 : v1 = u := by
      have q : its[i]? = some v1 := by simpa using e1
      rw [hu] at q; exact (Option.some.inj q).symm
    have e2 : v2 = u2 := by
      have q : its2[i]? = some v2 := by simpa using e2
      rw [hu2] at q; exact (Option.some.inj q).symm
    subst e1; subst e2
    refine ⟨_, rfl, wpAny_letOwnedTupleGo_zip (s := { s with heap := h', toks := tk }) z' fun h'' z'' sb => ?_⟩
    have hT2 : h''.get? s.heap.objs.size = some { cls := .type "tuple", data := .seq #[v1, v2] } := (sb.2 _ (Nat.ne_of_gt hzl)).trans hT
    have new : ObjOk X.prog X.w (upd H s.heap.objs.size (.tup [x, y])) h'' s.heap.objs.size (.tup [x, y]) :=
      ⟨by show 2 ≤ sizeLine; decide, [v1, v2], .cons ru (.cons ru2 .nil), ⟨_, hT2, rfl, _, rfl⟩⟩
    have I1 : Inv X pins σ (upd H s.heap.objs.size (.tup [x, y])) { s with heap := h'', toks := tk } :=
      I.turnedNew (t' := tk) (ch := [z, TI, TO, i1, i2]) (fun c o hb q => (sb.2 c (fun q' => hb (by simp [q']))).trans (hk c o (fun q' => hb (by simp [q'])) (fun q' => hb (by simp [q'])) (fun q' => hb (by simp [q'])) (fun q' => hb (by simp [q'])) q)) hf (Nat.le_refl _) new
    refine ⟨.ref s.heap.objs.size, _, I1, rfl, ⟨_, x, y, rfl, I.hok.fresh (Nat.le_refl _), rfl, fun l hl => by rw [sqB_inj I hl hqx]; exact hx, fun l hl => by rw [sqB_inj I hl hqy]; exact hy⟩, ⟨z'', ?_, ⟨v1, v2, ?_⟩, ?_, ?_⟩, fun c hcm => ?_⟩
    · exact (sb.2 _ D.TIz).trans (hk _ _ D.TIz D.TITO D.TIi1 D.TIi2 hTI)
    · exact (sb.2 _ D.TOz).trans TO'
    · exact st1.1.at fun o q => (sb.2 _ (Ne.symm D.zi1)).trans q
    · exact st2.1.at fun o q => (sb.2 _ (Ne.symm D.zi2)).trans q
    · have hlt : c < s.heap.objs.size := by
        have e' : c = z ∨ c = TI ∨ c = TO ∨ c = i1 ∨ c = i2 := by simpa using hcm
        rcases e' with q | q | q | q | q
        · rw [q]; exact hzl
        · rw [q]; exact Heap.lt_size hTI
        · rw [q]; exact Heap.lt_size hTO
        · rw [q]; obtain ⟨_, e1, _⟩ := h1.obj; exact Heap.lt_size e1
        · rw [q]; obtain ⟨_, e2, _⟩ := h2.obj; exact Heap.lt_size e2
      rw [upd_ne (Nat.ne_of_lt hlt)]
      exact (hf c hcm).1
  done := by
    intro X hP hw hK hc i pins s σ H E I hf st hg
    subst hP hw hK
    obtain ⟨hz, hTI, ⟨x0, y0, hTO⟩, h1, h2⟩ := st
    obtain ⟨xs, ys, hqx, hqy, hi1, hi2, hend⟩ := hg
    obtain ⟨its, rv, p⟩ := sqB_get I hqx
    obtain ⟨its2, rv2, p2⟩ := sqB_get I hqy
    have l1 := rv.length
    have l2 := rv2.length
    refine wpAny_pyNext_zipD2_end D (draws_b (A := X.A.in1) (I.ok.hd hc) b1 i1 a ha its.toArray) (draws_b (A := X.A.in1) (I.ok.hd hc) b2 i2 b hb its2.toArray) hz hTI hTO ⟨h1, p⟩ ⟨h2, p2⟩ (by simp; omega) (by simp; omega) (by simp; omega) fun h' tk hk => ⟨rfl, I.turnedL (t' := tk) (ch := [z, TI, TO, i1, i2]) (fun c o hb q =>
      hk c o (fun q' => hb (by simp [q'])) (fun q' => hb (by simp [q'])) (fun q' => hb (by simp [q'])) (fun q' => hb (by simp [q'])) q) hf⟩
  self := fun A i s Q E st h => wpAny_pyIter_zip st.1 h
theorem sep2 (n a b : Nat) (la : a < n) (lb : b < n) : ZipSep2 (n + 4) (n + 2) (n + 3) n (n + 1) [n, a] [n + 1, b] where
  TIz := by show (n + 2 : Nat) ≠ n + 4; omega
  TOz := by show (n + 3 : Nat) ≠ n + 4; omega
  TITO := by show (n + 2 : Nat) ≠ n + 3; omega
  TIi1 := by show (n + 2 : Nat) ≠ n; omega
  mem1 := List.mem_cons_self
  zf1 := fun hh => by
    rcases List.mem_cons.mp hh with hh | hh
    · have hh : (n + 4 : Nat) = n := hh; omega
    · have hh : (n + 4 : Nat) = a := List.mem_singleton.mp hh; omega
  Tf1 := fun hh => by
    rcases List.mem_cons.mp hh with hh | hh
    · have hh : (n + 3 : Nat) = n := hh; omega
    · have hh : (n + 3 : Nat) = a := List.mem_singleton.mp hh; omega
  TIi2 := by show (n + 2 : Nat) ≠ n + 1; omega
  mem2 := List.mem_cons_self
  zf2 := fun hh => by
    rcases List.mem_cons.mp hh with hh | hh
    · have hh : (n + 4 : Nat) = n + 1 := hh; omega
    · have hh : (n + 4 : Nat) = b := List.mem_singleton.mp hh; omega
  Tf2 := fun hh => by
    rcases List.mem_cons.mp hh with hh | hh
    · have hh : (n + 3 : Nat) = n + 1 := hh; omega
    · have hh : (n + 3 : Nat) = b := List.mem_singleton.mp hh; omega
  sep1_2 := fun hh => by
    rcases List.mem_cons.mp hh with hh | hh
    · have hh : (n : Nat) = n + 1 := hh; omega
    · have hh : (n : Nat) = b := List.mem_singleton.mp hh; omega
  sep2_1 := fun hh => by
    rcases List.mem_cons.mp hh with hh | hh
    · have hh : (n + 1 : Nat) = n := hh; omega
    · have hh : (n + 1 : Nat) = a := List.mem_singleton.mp hh; omega
def iZipG (K : PySem.W.Frag) (b1 b2 : Bool) (ta : TA) : TI := fun σ H R => ta σ H fun vs H1 => ∃ a b xs ys, vs = [.ref a, .ref b] ∧ SqB b1 K H1 a xs ∧ SqB b2 K H1 b ys ∧ R (ItG K b1 b2 a b) H1
theorem pi_zipG {X : Cx} {e e2 : Expr} {ta : TA} {p pos tpos : Pos} {elts : List Expr} {kk : Nat} (b1 b2 : Bool) (hg : Gl X "zip") (hm : X.mg "zip" = none) (ha : PA X [e, e2] ta)
    (hs : starEach [e, e2] X.env = (false, eval e X.env) :: starEach [e2] X.env := by rfl) (hpl : (backTo pos (starEach [e2] X.env)).any (·.1) = false := by rfl) :
    PI X (.Tuple elts kk tpos) (.Call (.Name "zip" p) [e, e2] [] pos) (iZipG X.K b1 b2 ta) := by
  refine ⟨fun pins s σ H R I h => ?_⟩
  refine Call_ (ld_blt I hg hm PyProof.Rows.boot_zip (PyProof.Rows.callWith_type1 (thn (ha.run pos pins s σ H _ I h) fun us s1 ⟨vs, H1, I1, r1, q1⟩ => ?_) hs hpl))
  obtain ⟨a, b, xs, ys, ex, hqx, hqy, q⟩ := q1
  subst ex
  cases r1 with
  | cons r rr =>
    cases rr with
    | cons r' rr =>
      cases rr
      cases r
      cases r'
      obtain ⟨its, rv, p1⟩ := sqB_get I1 hqx
      obtain ⟨its2, rv2, p2⟩ := sqB_get I1 hqy
      have la := p1.lt
      have lb := p2.lt
      refine zip_begins2 (begins_b b1 a its.toArray) (begins_b b2 b its2.toArray) p1 p2 fun h' hz hTI hTO h1 h2 hsz hk => wpAny_pyIter_zip hz ?_
      have I2 : Inv X pins σ H1 { s1 with heap := h' } := I1.kept (t' := s1.toks) hk
      refine ⟨s1.heap.objs.size + 4, [s1.heap.objs.size + 4, s1.heap.objs.size + 2, s1.heap.objs.size + 3, s1.heap.objs.size, s1.heap.objs.size + 1], _, _, H1, rfl, I2, turn_zipG (b1 := b1) (b2 := b2) (a := a) (b := b) ?_ (Nat.ne_of_lt la) (Nat.ne_of_lt (Nat.lt_succ_of_lt lb)), ⟨hz, hTI, ⟨_, _, hTO⟩, iterB_new h1, iterB_new h2⟩, fun c hcm => ?_, q⟩
      · exact sep2 _ _ _ la lb
      · have e' : c = s1.heap.objs.size + 4 ∨ c = s1.heap.objs.size + 2 ∨ c = s1.heap.objs.size + 3 ∨ c = s1.heap.objs.size ∨ c = s1.heap.objs.size + 1 := by simpa using hcm
        have hle : s1.heap.objs.size ≤ c := by
          rcases e' with z | z | z | z | z
          · rw [z]; exact Nat.le_add_right _ _
          · rw [z]; exact Nat.le_add_right _ _
          · rw [z]; exact Nat.le_add_right _ _
          · rw [z]; exact Nat.le_refl _
          · rw [z]; exact Nat.le_add_right _ _
        exact I1.fpOk hle (I1.hok.fresh hle)
end Lw

set_option maxRecDepth 100000
set_option maxHeartbeats 1000000
/-! Lw10: enumerate, zip; comprehensions. -/
namespace Lw
open PySem L2 RZ
section
variable {g : Gx} {c : CC} {k : Nat} {W : WX} {X : Cx}
theorem walkP_dq {K : PySem.W.Frag} {F : Hp} {v : V} {x : PyData} (h : Dq K F v x) : WalkP K F F v x := by
  cases x <;> first | exact trivial | exact h.lst_eq | exact h.tup_eq
theorem walkP_fv {K : PySem.W.Frag} {F H : Hp} {v : V} {x : PyData} (s : Sub F H) (h : FV K F H v x) : WalkP K F H v x := by
  cases x with
  | list xs => exact h
  | tuple xs =>
    obtain ⟨a, vs, e1, e2, e3⟩ := Dq.tup_eq h
    exact ⟨a, vs, e1, s.sqT e2, e3⟩
  | _ => exact trivial
theorem walks_of {z : Bool} {F H : Hp} {A Ao : AS} {ro : Ro} {σ : L2.St} {hs : List Hd} {vs : List V} {xs : List PyData} {ro2 : Ro} (S : SR g.K g.cl F A ro σ H) (hv : HRs g.K g.cl F H A σ hs vs Ao) (e : (if z = true then escs hs ro else .ofOpt (looksF ro hs) ro) = .ok xs ro2) :
    ∃ F2 A2, SR g.K g.cl F2 A2 ro2 σ H ∧ Stp F H (fun a => A a ∨ Ao a) F2 H A2 ∧ Paired (WalkP g.K F2 (if z = true then F2 else H)) vs xs := by
  cases z with
  | true =>
    simp only [if_true] at e ⊢
    obtain ⟨F2, A2, S2, d, st, _⟩ := escs_ok S hv e
    refine ⟨F2, A2, S2, st, ?_⟩
    clear e hv
    induction xs generalizing vs with
    | nil => cases d; exact .nil
    | cons x xs ih =>
      cases d with
      | cons h t => exact .cons (walkP_dq h) (ih t)
  | false =>
    simp only [Bool.false_eq_true, if_false] at e ⊢
    cases q : looksF ro hs with
    | none => rw [q] at e; cases e
    | some ys =>
      rw [q] at e
      cases e
      have d := hv.looksF S q
      refine ⟨F, A, S, (Stp.refl.frame Ao).weak fun a z => .inl z, ?_⟩
      clear q hv
      induction xs generalizing vs with
      | nil => cases d; exact .nil
      | cons x xs ih =>
        cases d with
        | cons h t => exact .cons (walkP_fv S.sub h) (ih t)
theorem iter_enumT {K : PySem.W.Frag} {F B : Hp} {a : Addr} {vs : List V} {xs : List PyData} (hb : SqT K B a vs) (hd : DqAll K F vs xs) : IterFor K F B (IteT K a) (enumD xs) where
  go := fun i y H e s => by
    have hq : SqT K H a vs := s.sqT hb
    obtain ⟨x, ex, rfl⟩ := enum_get e
    obtain ⟨v, hv, hx⟩ := hd.getD ex
    refine ⟨⟨vs, v, hq, hv⟩, fun w H' y => ?_⟩
    obtain ⟨T, x', rfl, hT, rfl, y⟩ := y
    have := y vs hq
    rw [hv] at this
    cases this
    exact .inr ⟨T, _, rfl, hT, rfl, .cons (.int _) (.cons hx .nil)⟩
  stop := fun H s => ⟨vs, s.sqT hb, by rw [hd.len, enum_len]⟩
theorem walked (z : Bool) {hs : List Hd} {ro : Ro} : (∃ xs ro2, (if z = true then escs hs ro else .ofOpt (looksF ro hs) ro) = .ok xs ro2) ∨ (if z = true then escs hs ro else .ofOpt (looksF ro hs) ro : Out (List PyData)) = .stuck := by
  cases z with
  | true =>
    simp only [if_true]
    cases q : escs hs ro with
    | ok xs r => exact .inl ⟨xs, r, rfl⟩
    | exc x r => exact absurd q escs_noexc
    | stuck => exact .inr rfl
  | false =>
    simp only [Bool.false_eq_true, if_false]
    cases q : looksF ro hs with
    | none => exact .inr rfl
    | some xs => exact .inl ⟨xs, ro, rfl⟩
theorem i_enum {as : CE} (ia : Snd g as) (z : Bool) (ok : XOk g c k W X) {tg e : Expr} (h : chkI c (.enum as) tg e = true) : PI X tg e (rdI g W (qt (.enum as)) z (evI g.G z (.enum as))) := by
  cases tg <;> simp only [chkI, Bool.false_eq_true] at h
  split at h
  · simp only [Bool.and_eq_true, decide_eq_true_eq] at h
    obtain ⟨⟨h1, h2⟩, h3⟩ := h
    subst h1
    obtain ⟨g1, g2, g3, g4⟩ := ok.bltn h2
    obtain ⟨p1, p2⟩ := plain_args (env := X.env) (pos := default) h3
    refine ⟨fun pins s σ H R I ⟨F, A, ro, S, hh⟩ => ?_⟩
    simp only [evI] at hh
    cases r : evs g.G as ro with
    | stuck => rw [r] at hh; exact hh.elim
    | exc x ro1 =>
      refine (pi_enum g1 g4 (ia.L ok h3) p1).run pins s σ H R I ⟨F, A, ro, S, ?_⟩
      rw [r] at hh ⊢
      exact hh
    | ok hs ro1 =>
      rw [r] at hh
      simp only [Out.bind_ok] at hh
      rcases walked z (hs := hs) (ro := ro1) with ⟨xs, ro2, q⟩ | q
      · rw [q] at hh
        simp only [Out.bind_ok] at hh
        split at hh
        · rename_i x
          cases x with
          | list xs =>
            refine (pi_enum g1 g4 (ia.L ok h3) p1).run pins s σ H R I ⟨F, A, ro, S, ?_⟩
            rw [r]
            intro vs F1 H1 A1 Ao st S1 hv hq
            obtain ⟨F2, A2, S2, st2, wp⟩ := walks_of S1 hv q
            cases wp with
            | cons w t =>
              cases t
              obtain ⟨a', ws, rfl, e2, e3⟩ := w
              refine ⟨a', ws, rfl, .of ?_, ?_⟩
              · cases z with
                | true => exact S2.sub _ _ e2
                | false => exact e2
              · rw [ok.kk]
                exact hh _ F2 H1 A2 (st.trans st2) S2 (iter_enum e2 e3) fun z => (hq z).s
          | tuple xs =>
            refine (pi_enumT g1 g4 (ia.L ok h3) p1).run pins s σ H R I ⟨F, A, ro, S, ?_⟩
            rw [r]
            intro vs F1 H1 A1 Ao st S1 hv hq
            obtain ⟨F2, A2, S2, st2, wp⟩ := walks_of S1 hv q
            cases wp with
            | cons w t =>
              cases t
              obtain ⟨a', ws, rfl, e2, e3⟩ := w
              refine ⟨a', ws, rfl, ?_, ?_⟩
              · rw [ok.kk]
                cases z with
                | true => exact S2.sub.sqT e2
                | false => exact e2
              · rw [ok.kk]
                exact hh _ F2 H1 A2 (st.trans st2) S2 (iter_enumT e2 e3) fun z => (hq z).s
          | _ => exact hh.elim
        · exact hh.elim
      · rw [q] at hh
        exact hh.elim
  · cases h
def tupB : PyData → Bool
  | .tuple _ => true
  | _ => false
theorem SqB.mono {K : PySem.W.Frag} {b : Bool} {F H : Hp} {a : Addr} {xs : List V} (s : Sub F H) (h : SqB b K F a xs) : SqB b K H a xs := by
  cases b
  · exact s.sqL h
  · exact s.sqT h
theorem walkB {K : PySem.W.Frag} {F B : Hp} {v : V} {x : PyData} {xs : List PyData} (e : itemsD x = some xs) (h : WalkP K F B v x) : ∃ a vs, v = .ref a ∧ SqB (tupB x) K B a vs ∧ DqAll K F vs xs := by
  cases x <;> simp only [itemsD] at e <;> cases e
  · obtain ⟨a, vs, e1, e2, e3⟩ := h
    exact ⟨a, vs, e1, SqL.of e2, e3⟩
  · exact h
theorem iter_zipG {K : PySem.W.Frag} {F B : Hp} {b1 b2 : Bool} {a b : Addr} {vs ws : List V} {xs ys : List PyData} (hb : SqB b1 K B a vs) (hb2 : SqB b2 K B b ws) (hd : DqAll K F vs xs) (hd2 : DqAll K F ws ys) : IterFor K F B (ItG K b1 b2 a b) (zipD xs ys) where
  go := fun i y H e s => by
    have hq : SqB b1 K H a vs := hb.mono s
    have hq2 : SqB b2 K H b ws := hb2.mono s
    obtain ⟨x, y', ex, ey, rfl⟩ := zip_get e
    obtain ⟨v, hv, hx⟩ := hd.getD ex
    obtain ⟨w, hw, hy⟩ := hd2.getD ey
    refine ⟨⟨vs, ws, v, w, hq, hq2, hv, hw⟩, fun u H' y => ?_⟩
    obtain ⟨T, x1, x2, rfl, hT, rfl, y1, y2⟩ := y
    have e1 := y1 vs hq
    have e2 := y2 ws hq2
    rw [hv] at e1; cases e1
    rw [hw] at e2; cases e2
    exact .inr ⟨T, _, rfl, hT, rfl, .cons hx (.cons hy .nil)⟩
  stop := fun H s => ⟨vs, ws, hb.mono s, hb2.mono s, by
    unfold zipD
    rw [List.length_zipWith, hd.len, hd2.len]
    omega⟩
theorem i_zip {as : CE} (ia : Snd g as) (z : Bool) (ok : XOk g c k W X) {tg e : Expr} (h : chkI c (.zip as) tg e = true) : PI X tg e (rdI g W (qt (.zip as)) z (evI g.G z (.zip as))) := by
  cases tg <;> simp only [chkI, Bool.false_eq_true] at h
  split at h
  · simp only [Bool.and_eq_true, decide_eq_true_eq] at h
    obtain ⟨⟨h1, h2⟩, h3⟩ := h
    subst h1
    obtain ⟨g1, g2, g3, g4⟩ := ok.bltn h2
    refine ⟨fun pins s σ H R I ⟨F, A, ro, S, hh⟩ => ?_⟩
    simp only [evI] at hh
    cases r : evs g.G as ro with
    | stuck => rw [r] at hh; exact hh.elim
    | exc x ro1 =>
      refine (pi_zipG true true g1 g4 (ia.L ok h3) (plain_args (env := X.env) (pos := default) h3).1 (plain_args h3).2).run pins s σ H R I ⟨F, A, ro, S, ?_⟩
      rw [r] at hh ⊢
      exact hh
    | ok hs ro1 =>
      rw [r] at hh
      simp only [Out.bind_ok] at hh
      rcases walked z (hs := hs) (ro := ro1) with ⟨xs, ro2, q⟩ | q
      · rw [q] at hh
        simp only [Out.bind_ok] at hh
        split at hh
        · rename_i x y
          split at hh
          · rename_i dx dy ex ey
            refine (pi_zipG (tupB x) (tupB y) g1 g4 (ia.L ok h3) (plain_args (env := X.env) (pos := default) h3).1 (plain_args h3).2).run pins s σ H R I ⟨F, A, ro, S, ?_⟩
            rw [r]
            intro vs F1 H1 A1 Ao st S1 hv hq
            obtain ⟨F2, A2, S2, st2, wp⟩ := walks_of S1 hv q
            cases wp with
            | cons w t =>
              cases t with
              | cons w2 t =>
                cases t
                obtain ⟨a', ws, rfl, e2, e3⟩ := walkB ex w
                obtain ⟨b', us, rfl, e4, e5⟩ := walkB ey w2
                have sB : Sub (if z = true then F2 else H1) H1 := by
                  cases z with
                  | true => exact S2.sub
                  | false => exact .refl _
                rw [ok.kk]
                exact ⟨a', b', ws, us, rfl, e2.mono sB, e4.mono sB, hh _ F2 H1 A2 (st.trans st2) S2 (iter_zipG e2 e4 e3 e5) fun z => (hq z).s⟩
          · exact hh.elim
        · exact hh.elim
      · rw [q] at hh
        exact hh.elim
  · cases h
end
end Lw

set_option maxRecDepth 100000
set_option maxHeartbeats 1000000
/-! Lw11: targets, tests of a clause, slots of a block. -/
namespace Lw
open PySem L2 RZ
section
variable {g : Gx} {c : CC} {k : Nat} {W : WX} {X : Cx}
/-! ### targets -/
def PostG (g : Gx) (F : Hp) (A : AS) (sl : List Nat) (σ : L2.St) (H : Hp) (ro' : Ro) (Q : L2.St → Hp → Prop) : Prop :=
  ∀ σ' A', SR g.K g.cl F A' ro' σ' H → (∀ a, A' a → A a) → (∀ vs : List Nat, (∀ i ∈ sl, i ∈ vs) → wipe σ' vs = wipe σ vs) → Q σ' H
def rdG (g : Gx) (tg : CE) : TG := fun v σ H Q => ∃ F A ro x ro', SR g.K g.cl F A ro σ H ∧ Dq g.K F v x ∧ asgT tg x ro = some ro' ∧ PostG g F A (tgSlots tg) σ H ro' Q
def rdGs (g : Gx) (tg : CE) : TGs := fun vs σ H Q => ∃ F A ro xs ro', SR g.K g.cl F A ro σ H ∧ DqAll g.K F vs xs ∧ asgTs tg xs ro = some ro' ∧ PostG g F A (tgSlots tg) σ H ro' Q
theorem wipe_set {σ : L2.St} {i : Nat} {v : Option V} : ∀ {vs : List Nat}, i ∈ vs → wipe (σ.set i v) vs = wipe σ vs
  | [], h => by cases h
  | j :: vs, h => by
    unfold wipe
    by_cases e : i ∈ vs
    · rw [wipe_set e]
    · have e2 : i = j := by
        rcases List.mem_cons.mp h with z | z
        · exact z
        · exact absurd z e
      subst e2
      -- the slot i is forgotten at the end
      have key : ∀ vs : List Nat, i ∉ vs → wipe (σ.set i v) vs = (wipe σ vs).set i v := by
        intro vs
        induction vs with
        | nil => intro _; rfl
        | cons k vs ih =>
          intro hk
          have h1 : i ≠ k := fun z => hk (by simp [z])
          unfold wipe
          rw [ih fun z => hk (List.mem_cons_of_mem _ z), List.set_comm _ _ h1]
      rw [key vs e, List.set_set]
theorem SR.setD {K : PySem.W.Frag} {cl : Str → Option Addr} {F H : Hp} {A : AS} {ro : Ro} {σ : L2.St} {i : Nat} {v : V} {x : PyData} (S : SR K cl F A ro σ H) (hi : i < σ.length) (h : Dq K F v x) : ∃ A', SR K cl F A' (ro.set i (some (.d x))) (σ.set i (some v)) H ∧ ∀ a, A' a → A a := by
  obtain ⟨B, h1, h2⟩ := S.rs.store (i := i) (o := .d x) (v := v) (Ao := fun _ => False) (by rw [S.rs.len]; exact hi) (.d h) (fun _ z => z.elim)
  exact ⟨B, ⟨h1, S.sub⟩, fun a z => (h2 a z).elim id False.elim⟩
theorem assign_each {env : Env} {e : Expr} {es : List Expr} (h : plainE e = true) : assignEach (e :: es) env = (false, assign e env) :: assignEach es env := by
  cases e <;> first | rfl | cases h
theorem tgs_len {env : Env} : ∀ {ts : CE} {es : List Expr}, chkTs c ts es = true → (assignEach es env).length = es.length ∧ (assignEach es env).findIdx? (·.1) = none
  | ts, [], _ => ⟨rfl, rfl⟩
  | ts, e :: es, h => by
    cases ts <;> simp only [chkTs, Bool.false_eq_true] at h
    case cons t ts =>
      simp only [Bool.and_eq_true] at h
      obtain ⟨k1, k2⟩ := tgs_len (env := env) h.2
      rw [assign_each h.1.1]
      refine ⟨by rw [List.length_cons, List.length_cons, k1], ?_⟩
      rw [List.findIdx?_cons]
      simp [k2]
theorem asgTs_len : ∀ {ts : CE} {xs : List PyData} {ro ro' : Ro} {es : List Expr}, chkTs c ts es = true → asgTs ts xs ro = some ro' → xs.length = es.length
  | ts, xs, ro, ro', [], h, e => by
    cases ts <;> simp only [chkTs, Bool.false_eq_true] at h
    cases xs with
    | nil => rfl
    | cons x xs => rw [asgTs] at e; cases e; all_goals (intros; contradiction)
  | ts, xs, ro, ro', y :: es, h, e => by
    cases ts <;> simp only [chkTs, Bool.false_eq_true] at h
    case cons t ts =>
      cases xs with
      | nil => rw [asgTs] at e; cases e; all_goals (intros; contradiction)
      | cons x xs =>
        simp only [Bool.and_eq_true] at h
        rw [asgTs] at e
        split at e
        · rw [List.length_cons, List.length_cons, asgTs_len h.2 e]
        · cases e
mutual
theorem g_all (ok : XOk g c k W X) (hc : c.calm = true) : ∀ (tg : CE) {e : Expr}, chkT c tg e = true → PG X e (rdG g tg)
  | .var i, e, h => by
    simp only [chkT] at h
    split at h
    · simp only [Bool.and_eq_true, decide_eq_true_eq] at h
      obtain ⟨h1, h2⟩ := h
      obtain ⟨l1, l2⟩ := ok.loc h2
      refine ⟨fun pins s σ H v u Q I r ⟨F, A, ro, x, ro', S, hx, ha, hh⟩ => ?_⟩
      refine (pg_name (i := i) (by rw [ok.hN]; exact ok.nd) (by rw [ok.hN]; exact h1) l1 l2).run pins s σ H v u Q I r ?_
      rw [asgT] at ha
      cases ha
      have hi : i < σ.length := by
        rw [I.len, ok.hN]
        exact (List.getElem?_eq_some_iff.mp h1).1
      obtain ⟨A', S', sb⟩ := S.setD hi hx
      exact hh _ A' S' sb fun vs hv => wipe_set (hv i (by simp [tgSlots]))
    · cases h
  | .tup ts, e, h => by
    simp only [chkT] at h
    split at h
    · rename_i es _ _
      obtain ⟨l1, l2⟩ := tgs_len (env := X.env) h
      refine ⟨fun pins s σ H v u Q I r ⟨F, A, ro, x, ro', S, hx, ha, hh⟩ => ?_⟩
      refine (pg_tup (n := es.length) (by rw [ok.calm]; exact hc) (gs_all ok hc ts h) l1 l2).run pins s σ H v u Q I r ?_
      cases x <;> first | (rw [asgT] at ha; cases ha; done) | skip
      all_goals try (rw [asgT] at ha)
      all_goals first
        | (obtain ⟨a, vs, e1, e2, e3⟩ := Dq.tup_eq hx
           refine ⟨a, vs, e1, by rw [ok.kk]; exact S.sub.sqT e2, by rw [e3.len]; exact asgTs_len h ha, F, A, ro, _, ro', S, e3, ha, ?_⟩
           exact hh)
        | (exfalso; cases ha)
        | skip
    · cases h
  | .int _, e, h => by simp [chkT] at h
  | .bl _, e, h => by simp [chkT] at h
  | .non, e, h => by simp [chkT] at h
  | .str _, e, h => by simp [chkT] at h
  | .glob _, e, h => by simp [chkT] at h
  | .bin _ _ _, e, h => by simp [chkT] at h
  | .neg _, e, h => by simp [chkT] at h
  | .not _, e, h => by simp [chkT] at h
  | .and _ _, e, h => by simp [chkT] at h
  | .or _ _, e, h => by simp [chkT] at h
  | .one _, e, h => by simp [chkT] at h
  | .cmp _ _ _, e, h => by simp [chkT] at h
  | .chain _ _ _ _ _, e, h => by simp [chkT] at h
  | .ifx _ _ _, e, h => by simp [chkT] at h
  | .lst _, e, h => by simp [chkT] at h
  | .idx _ _, e, h => by simp [chkT] at h
  | .slc _ _ _, e, h => by simp [chkT] at h
  | .call _ _, e, h => by simp [chkT] at h
  | .prim _ _, e, h => by simp [chkT] at h
  | .isi _ _, e, h => by simp [chkT] at h
  | .mth _ _ _, e, h => by simp [chkT] at h
  | .comp _ _ _ _ _ _, e, h => by simp [chkT] at h
  | .seq _, e, h => by simp [chkT] at h
  | .rng _, e, h => by simp [chkT] at h
  | .enum _, e, h => by simp [chkT] at h
  | .zip _, e, h => by simp [chkT] at h
  | .share _ _, e, h => by simp [chkT] at h
  | .rgl _ _ _, e, h => by simp [chkT] at h
  | .rev _, e, h => by simp [chkT] at h
  | .nil, e, h => by simp [chkT] at h
  | .cons _ _, e, h => by simp [chkT] at h
theorem gs_all (ok : XOk g c k W X) (hc : c.calm = true) : ∀ (tg : CE) {es : List Expr}, chkTs c tg es = true → PGs X es (rdGs g tg)
  | .nil, es, h => by
    simp only [chkTs] at h
    split at h
    · refine ⟨fun pins s σ H vs us Q I r ⟨F, A, ro, xs, ro', S, hx, ha, hh⟩ => ?_⟩
      refine pgs_nil.run pins s σ H vs us Q I r ?_
      cases xs with
      | nil =>
        rw [asgTs] at ha
        cases ha
        cases hx
        exact ⟨rfl, hh σ A S (fun a z => z) fun vs _ => rfl⟩
      | cons x xs => rw [asgTs] at ha; cases ha; all_goals (intros; contradiction)
    · cases h
  | .cons t ts, es, h => by
    simp only [chkTs] at h
    split at h
    · simp only [Bool.and_eq_true] at h
      obtain ⟨⟨h1, h2⟩, h3⟩ := h
      refine ⟨fun pins s σ H vs us Q I r ⟨F, A, ro, xs, ro', S, hx, ha, hh⟩ => ?_⟩
      refine (pgs_cons (g_all ok hc t h2) (gs_all ok hc ts h3) (by rw [assign_each h1]; rfl)).run pins s σ H vs us Q I r ?_
      cases xs with
      | nil => rw [asgTs] at ha; cases ha; all_goals (intros; contradiction)
      | cons x xs =>
        rw [asgTs] at ha
        cases hx with
        | cons hx1 hx2 =>
          split at ha
          · rename_i ro1 e1
            refine ⟨_, _, rfl, F, A, ro, x, ro1, S, hx1, e1, fun σ1 A1 S1 sb1 w1 => ⟨F, A1, ro1, xs, ro', S1, hx2, ha, fun σ2 A2 S2 sb2 w2 => hh σ2 A2 S2 (fun a z => sb1 a (sb2 a z)) fun vs hv => ?_⟩⟩
            simp only [tgSlots] at hv
            rw [w2 vs fun i hi => hv i (List.mem_append_right _ hi), w1 vs fun i hi => hv i (List.mem_append_left _ hi)]
          · cases ha
    · cases h
  | .var _, es, h => by simp [chkTs] at h
  | .tup _, es, h => by simp [chkTs] at h
  | .int _, e, h => by simp [chkTs] at h
  | .bl _, e, h => by simp [chkTs] at h
  | .non, e, h => by simp [chkTs] at h
  | .str _, e, h => by simp [chkTs] at h
  | .glob _, e, h => by simp [chkTs] at h
  | .bin _ _ _, e, h => by simp [chkTs] at h
  | .neg _, e, h => by simp [chkTs] at h
  | .not _, e, h => by simp [chkTs] at h
  | .and _ _, e, h => by simp [chkTs] at h
  | .or _ _, e, h => by simp [chkTs] at h
  | .one _, e, h => by simp [chkTs] at h
  | .cmp _ _ _, e, h => by simp [chkTs] at h
  | .chain _ _ _ _ _, e, h => by simp [chkTs] at h
  | .ifx _ _ _, e, h => by simp [chkTs] at h
  | .lst _, e, h => by simp [chkTs] at h
  | .idx _ _, e, h => by simp [chkTs] at h
  | .slc _ _ _, e, h => by simp [chkTs] at h
  | .call _ _, e, h => by simp [chkTs] at h
  | .prim _ _, e, h => by simp [chkTs] at h
  | .isi _ _, e, h => by simp [chkTs] at h
  | .mth _ _ _, e, h => by simp [chkTs] at h
  | .comp _ _ _ _ _ _, e, h => by simp [chkTs] at h
  | .seq _, e, h => by simp [chkTs] at h
  | .rng _, e, h => by simp [chkTs] at h
  | .enum _, e, h => by simp [chkTs] at h
  | .zip _, e, h => by simp [chkTs] at h
  | .share _ _, e, h => by simp [chkTs] at h
  | .rgl _ _ _, e, h => by simp [chkTs] at h
  | .rev _, e, h => by simp [chkTs] at h
end
end
end Lw

set_option maxRecDepth 100000
set_option maxHeartbeats 1000000
/-! LwX: list comprehensions that an exception may leave. -/
namespace Lw
open PySem L2 RZ PySem.HandSPX
section
variable {M : Model} {A : Around} {E : Value → Shared → Prop} {s : Shared} {Z : Obj → Prop} {base : Heap} {env : Env} {outer l : List Env} {L L' e : Addr}
/-- noted elsewhere, now by this frame -/
theorem looks_heldZ {fl : Value} {Q : Unit → Shared → Prop} (hZ : Steady Z) (hfr : A.frames = some (env :: outer)) (hf : env.frame = some L) (hne : (fl == rawInt L) = false) (hkb : base.StaysIn s.heap) (hen : base.get? e = none) (hl : s.heap.FunFrames base (env :: outer)) (ht : TracedZ s.heap base e Z fl)
    (hQ : ∀ h', HeldZ base (env :: outer) e Z L h' → s.heap.UpToSlots h' → Q () { s with heap := h' }) : wpAny M A (noteFrame (.ref e) env) Q E s := by
  obtain ⟨oe, vs, T, oT, ts, he, hz, hd, h1, hnT, hTe, hT, hdT, h3⟩ := ht
  unfold noteFrame
  simp only [hf]
  refine wpAny_bind (wpAny_field he hd h1 ?_)
  rw [if_pos (show (Value.ref T != Value.none) = true from by simp)]
  refine wpAny_bind (wpAny_field hT hdT h3 ?_)
  rw [if_neg (show ¬ ((fl == rawInt L) = true) from by rw [hne]; decide)]
  refine wpAny_bind (wpAny_setField hT hdT (Array.getElem?_eq_some_iff.mp h3).1 ?_)
  have other : ∀ b, b ≠ T → (s.heap.update T (Obj.mapFields (·.setIfInBounds 3 Value.none))).get? b = s.heap.get? b := fun b hb => Heap.get?_update_other _ _ (Ne.symm hb)
  have noRecord : ∀ b o, s.heap.get? b = some o → (∀ vs, o.data ≠ .fields vs) → b ≠ T := fun b o hb hnf q => by
    rw [q, hT] at hb; injection hb with hb; subst hb; exact hnf ts hdT
  refine wpAny_entryZ hZ hfr (hl.of_keeps fun b o hb hnf => ⟨o, (other b (noRecord b o hb hnf)).trans hb, rfl⟩) hf ((other e (Ne.symm hTe)).trans he)
    (fun b o hbo => (other b fun q => by rw [q, hnT] at hbo; cases hbo).trans (hkb b o hbo)) hen hd (Array.getElem?_eq_some_iff.mp h1).1 hz fun h' hN => ?_
  obtain ⟨x1, x2, x3, x4⟩ := hN
  exact hQ h' ⟨x1, hen, x2, x3⟩ fun b o hb hnf => x4 b o ((other b (noRecord b o hb hnf)).trans hb) hnf
/-- in the air, noted by this frame -/
theorem sky_noted {a : Addr} {B : Heap} {Q : Unit → Shared → Prop} (hZ : Steady Z) (hfr : A.frames = some (env :: outer)) (hf : env.frame = some L) (x : Sky B (env :: outer) a Z L' s.heap)
    (hQ : ∀ h', HeldZ B (env :: outer) a Z L h' → s.heap.UpToSlots h' → Q () { s with heap := h' }) : wpAny M A (noteFrame (.ref a) env) Q E s := by
  rcases x with ⟨hB, hn, hl, oe, vs, he, hz, hd, h1⟩ | fl | hh
  · exact look_newZ hZ hfr hl hf he hB hn hd h1 hz hQ
  · exact looks_onZ hZ hfr hf fl hQ
  · cases q : (rawInt L' == rawInt L) with
    | false => exact looks_heldZ hZ hfr hf q hh.1 hh.2.1 hh.2.2.1 hh.2.2.2 hQ
    | true =>
      have e : rawInt L' = rawInt L := eq_of_beq q
      have h4 := hh.2.2.2
      rw [e] at h4
      exact againZ hf h4 (hQ s.heap ⟨hh.1, hh.2.1, hh.2.2.1, h4⟩ (Heap.UpToSlots.refl _))
end
/-- a block with its own wish -/
abbrev _root_.L2.Cx.blkX (X : Cx) (s : Shared) (H : Hp) (scope : Scope) (cenv : Env) (fp : List Addr) (xe : Value → Shared → Prop) : Cx := { X.blk s H scope cenv fp with xe := xe }
section
variable {X : Cx} {pins : List (Addr × Obj)} {σ : L2.St} {H H' : Hp} {s : Shared} {scope : Scope} {cenv : Env} {fp : List Addr} {xe : Value → Shared → Prop}
theorem inv_blkX (I : Inv (X.blk s H scope cenv fp) pins σ H' s') : Inv (X.blkX s H scope cenv fp xe) pins σ H' s' :=
  ⟨⟨I.ok.mod, I.ok.kind, I.ok.glob, I.ok.blt, I.ok.above, I.ok.inj, I.ok.has, I.ok.cab, I.ok.hd, I.ok.frames, I.ok.stk, I.ok.exf, I.ok.bs, I.ok.bsz, I.ok.noex, I.ok.exfs, I.ok.funs, I.ok.frf⟩, I.os, I.bare, I.base, I.loc, I.cell, I.free, I.freeC, I.pin, I.hok, I.len⟩
end
theorem hide_ne {h : Heap} {C b : Addr} {o : Obj} (e : h.get? b = some o) (n : b ≠ C) : (PySem.W.hideAll h [C]).get? b = some o := PySem.W.hideAll_get [C] e (by simpa using n)
theorem of_hide {h : Heap} {C b : Addr} {o : Obj} (e : (PySem.W.hideAll h [C]).get? b = some o) : h.get? b = some o ∧ b ≠ C := ⟨PySem.W.of_hideAll [C] e, fun z => by
  have := PySem.W.hideAll_none [C] (h := h) (b := b) (by simp [z])
  rw [this] at e; cases e⟩
section
variable {X : Cx}
/-- what leaves the block is taken by those around -/
theorem blk_takes {pins : List (Addr × Obj)} {σ : L2.St} {H3 : Hp} {s3 : Shared} {scope : Scope} {ce : Env} {fp : List Addr} {W : WX} {use : Option (Value → Sem Unit)} {Qf : Value → Shared → Prop} {acc : Value} {xe : Value → Shared → Prop}
    (I3 : Inv X pins σ H3 s3) (hs : X.stack = X.env :: X.outer) (hf : X.env.frame = some X.env.locals) (tk : Takes X W) (cL : ce.locals = s3.heap.objs.size) (cF : ce.frame = X.env.frame)
    (f3 : ∀ b ∈ fp, FpOk X pins H3 b) (hxe : xe = notedBy (model X.prog X.w) X.A ce fun e s' => compEnds (model X.prog X.w) X.A X.xe use Qf acc ce (.error e) s') :
    Takes (X.blkX s3 H3 scope ce fp xe) (fun cls d _ H' => W cls d σ H') := by
  rintro u s' ⟨a, B, sI, pins', σ', H', cls, d, rfl, I', nb, up, sky, na, os, ag, w⟩
  show xe (.ref a) s'
  rw [hxe]
  have hfr : X.A.frames = some (X.env :: X.outer) := by rw [I3.ok.frames, hs]
  have nb : ∀ b o, sI.heap.get? b = some o → b ∉ frs X.stack → B.get? b = some o := nb
  have sky : Sky B X.stack a (Zc cls d) ce.locals s'.heap := sky
  rw [hs] at sky
  show wpAny (model X.prog X.w) X.A (noteFrame (.ref a) ce) _ _ s'
  rw [noteFrame_env _ cF]
  refine sky_noted Zc.steady hfr hf sky fun h' hh up' => ?_
  have hC : H' ce.locals = none := I'.free
  obtain ⟨m, hn, _⟩ := I'.loc
  have hn : sI.heap.Ns ce.locals m := hn
  have nfs : ∀ {h : Heap} {m : Str → Option Value} {b : Addr}, h.Ns ce.locals m → b = ce.locals → ∀ o, h.get? b = some o → ∀ vs, o.data ≠ .fields vs := fun {h m b} ⟨oL, es, ep, hoL, hdL, _⟩ eb o ho vs q => by
    subst eb
    rw [hoL] at ho
    cases ho
    rw [hdL] at q; cases q
  have upS : ∀ {h1 h2 : Heap}, h1.UpToSlots h2 → h1.Ns ce.locals m → h2.Ns ce.locals m := fun u n => Heap.Ns.upToSlots n u
  have hn' : h'.Ns ce.locals m := upS up' (upS up hn)
  show CompFails (model X.prog X.w) X.A X.xe ce (.ref a) { s' with heap := h' }
  refine ⟨m, hn', fun h2 m2 hn2 sb => ?_⟩
  obtain ⟨k1, k2, k3, oe, vs, T, oT, ts, he, hz, hd, h1, hnT, hTe, hT, hdT, h3⟩ := hh
  have sb : Heap.SameBut ce.locals h' h2 := sb
  have aC : a ≠ ce.locals := fun z => nfs hn' z oe he vs hd
  have tC : T ≠ ce.locals := fun z => nfs hn' z oT hT ts hdT
  have keep : ∀ b o, h'.get? b = some o → b ≠ ce.locals → h2.get? b = some o := fun b o q n => (sb.2 b n).trans q
  -- the ground without the block's names
  have st2 : (PySem.W.hideAll B [ce.locals]).StaysIn h2 := fun b o q => by
    obtain ⟨q1, q2⟩ := of_hide q
    exact keep b o (k1 b o q1) q2
  have hen2 : (PySem.W.hideAll B [ce.locals]).get? a = none := by
    cases q : (PySem.W.hideAll B [ce.locals]).get? a with
    | none => rfl
    | some o => have := (of_hide q).1; rw [k2] at this; cases this
  have hnT2 : (PySem.W.hideAll B [ce.locals]).get? T = none := by
    cases q : (PySem.W.hideAll B [ce.locals]).get? T with
    | none => rfl
    | some o => have := (of_hide q).1; rw [hnT] at this; cases this
  have ff2 : h2.FunFrames (PySem.W.hideAll B [ce.locals]) (X.env :: X.outer) := by
    refine funFrames_none (Heap.FunFrames.sameBut sb hn2 k3) fun b hb => ?_
    cases q : (PySem.W.hideAll B [ce.locals]).get? b with
    | none => rfl
    | some o => have := (of_hide q).1; rw [(k3.mem hb).1] at this; cases this
  have tr2 : TracedZ h2 (PySem.W.hideAll B [ce.locals]) a (Zc cls d) (rawInt X.env.locals) := ⟨oe, vs, T, oT, ts, keep _ _ he aC, hz, hd, h1, hnT2, hTe, keep _ _ hT tC, hdT, h3⟩
  unfold passOn
  refine wpAny_bind (wpAny_field (keep _ _ he aC) hd h1 ?_)
  rw [if_neg (show ¬ ((Value.ref T == Value.none) = true) from by simp)]
  refine wpAny_bind ?_
  rw [cF, hf]
  refine setFlight_onZ (L := X.env.locals) (base := PySem.W.hideAll B [ce.locals]) (l := X.env :: X.outer) (Z := Zc cls d) ⟨st2, hen2, ff2, tr2⟩ fun h4 hh4 up4 => ?_
  refine wpAny_throw (tk _ _ ?_)
  have hne : ∀ b o, s3.heap.get? b = some o → b ≠ ce.locals := fun b o q z => by
    have := Heap.lt_size q
    rw [z, cL] at this
    exact Nat.lt_irrefl _ this
  have I6 := I'.base
  refine ⟨a, PySem.W.hideAll B [ce.locals], { sI with heap := PySem.W.hideAll sI.heap [ce.locals] }, pins, σ, H', cls, d, rfl, ?_, fun b o q hb => ?_, fun b o q hnf => ?_, .inr (.inr (by rw [hs]; exact hh4)), na, os, ag, w⟩
  · refine I3.call' (ch := fp) I'.os ⟨fun b o q n h1 h2 => hide_ne (I6.keep b o q n h1 h2) (hne b o q), fun b o q n h1 h2 => ?_, I6.free, fun b o q h2 => ?_, I6.tups, I6.frzs, I6.tbls⟩ (fun b o q => ?_) I'.bare fun b hb => ⟨(f3 b hb).2.2.2.1, (f3 b hb).2.1, (f3 b hb).2.2.2.2.1, (f3 b hb).2.2.2.2.2⟩
    · obtain ⟨sl, z⟩ := I6.slot b o q n h1 h2
      exact ⟨sl, hide_ne z (hne b o q)⟩
    · obtain ⟨o', z⟩ := I6.there b o q h2
      exact ⟨o', hide_ne z (hne b o q)⟩
    · refine (I'.hok b o q).stay (fun c u hc r => hide_ne r fun z => ?_) (fun _ r => r) fun _ _ r => r
      rw [z] at hc
      rcases hc with hc | hc
      · rw [← hc, hC] at q; cases q
      · rw [hC] at hc; cases hc
  · obtain ⟨q1, q2⟩ := of_hide q
    exact hide_ne (nb b o q1 hb) q2
  · obtain ⟨q1, q2⟩ := of_hide q
    obtain ⟨sl1, z1⟩ := up b o q1 hnf
    obtain ⟨sl2, z2⟩ := up' b _ z1 hnf
    obtain ⟨sl3, z3⟩ := up4 b _ (keep b _ z2 q2) hnf
    exact ⟨sl3, z3⟩

theorem lc_coreX {pins : List (Addr × Obj)} {s : Shared} {σ : L2.St} {H : Hp} {Q : VK} {elt tg iter : Expr} {ifs : List Expr} {scope : Scope} {own : List (Str × Nat)} {pos pos' : Pos} {wi : TI} {g : TG} {tt : TT} {te : TE} {use : Option (Value → Sem Unit)} {Qf : Value → Shared → Prop} {W : WX}
    (hs0 : X.stack = X.env :: X.outer) (hf0 : X.env.frame = some X.env.locals) (tk : Takes X W)
    (hc : X.calm = true) (hN : X.N.Nodup) (I : Inv X pins σ H s) (hi : PI X tg iter wi) (ok : BlkOk X.N X.env.scope scope own)
    (hg : ∀ (s : Shared) (H : Hp) (C : Addr) (cl : List (Str × Addr)) (fp : List Addr) xe, PG (X.blkX s H scope (compEnvC scope cl C X.env) fp xe) tg g)
    (ht : ∀ (s : Shared) (H : Hp) (C : Addr) (cl : List (Str × Addr)) (fp : List Addr) xe, Takes (X.blkX s H scope (compEnvC scope cl C X.env) fp xe) (fun cls d _ H' => W cls d σ H') → PTs (X.blkX s H scope (compEnvC scope cl C X.env) fp xe) ifs tt)
    (he : ∀ (s : Shared) (H : Hp) (C : Addr) (cl : List (Str × Addr)) (fp : List Addr) xe, Takes (X.blkX s H scope (compEnvC scope cl C X.env) fp xe) (fun cls d _ H' => W cls d σ H') → PE (X.blkX s H scope (compEnvC scope cl C X.env) fp xe) elt te) (hs : ∀ x, foldedSetIterable iter X.env x = pure x)
    (h : tLc wi g tt te (own.map (·.2)) σ H Q)
    (hRR : ∀ D (ce : Env) s' m H', Inv X pins σ H' s' → Q (.ref D) H' → s'.heap.Ns ce.locals m → FpOk X pins H' ce.locals → compEnds (model X.prog X.w) X.A X.xe use Qf (.ref D) ce (.ok .next) s') :
    wpAny (model X.prog X.w) X.A (comprehension (.ListComp elt [⟨tg, iter, ifs, 0⟩] scope pos) scope X.env pos' (newList []) false (eval iter X.env) use) Qf X.xe s := by
  have hfree : ∀ y ∈ scope.names, y.2 = .free → ∃ c, X.env.cells.lookup y.1 = some c := fun y hy e => by
    rcases ok.free y hy e with k | k
    · exact I.ok.has _ (.inl k)
    · exact I.ok.has _ (.inr k)
  refine comprehension_at (use := use) rfl hs (closure_ok hfree) ok.kind (fun y hy e => by rw [ok.uniq y hy, e])
    (thn (hi.run pins s σ H _ I h) fun xv s1 hx => thn hx fun itv s2 h2 => ?_)
  obtain ⟨it, fp, tn, J, H2, e, I2, T, st2, f2, q⟩ := h2
  subst e
  refine wpAny_newObj_type (newEnv_comp ?_) (by show 0 ≤ sizeLine; decide)
  generalize hD : s2.heap.objs.size = D
  have hDn : H2 D = none := I2.hok.fresh (Nat.le_of_eq hD)
  obtain ⟨W0, ⟨m0, w0⟩, turn⟩ := q D hDn
  generalize hs3 : ({ s2 with heap := s2.heap.push { cls := .type "list", data := .seq ([] : List Value).toArray } } : Shared) = s3
  have I3 : Inv X pins σ (upd H2 D (.lst [])) s3 := by
    rw [← hs3]
    refine I2.laid (t' := s2.toks) (fun b o e => Heap.get?_push_of_some _ e) (Nat.le_of_eq hD) ⟨Nat.zero_le _, [], 0, .nil, ?_⟩
    rw [← hD]
    exact Heap.get?_push_size _ rfl
  have h3 : s3.heap = s2.heap.push { cls := .type "list", data := .seq ([] : List Value).toArray } := by rw [← hs3]
  have sz : ∀ b ∈ fp, b < s2.heap.objs.size := fun b hb => by
    obtain ⟨o, e, _⟩ := T.obj _ _ st2 b hb
    exact Heap.lt_size e
  have f3 : ∀ b ∈ fp, FpOk X pins (upd H2 D (.lst [])) b ∧ b < s3.heap.objs.size := fun b hb => by
    have hlt := sz b hb
    refine ⟨⟨?_, (f2 b hb).2⟩, by rw [h3, Heap.size_push]; exact Nat.lt_succ_of_lt hlt⟩
    rw [upd_ne (by rw [← hD]; exact Nat.ne_of_lt hlt)]
    exact (f2 b hb).1
  have st3 : tn 0 s3.heap := T.keep _ _ _ st2 fun b _ o e => by rw [h3]; exact Heap.get?_push_of_some _ e
  have I4 := block_start I3 ok hN f3
  have pg := hg s3 (upd H2 D (.lst [])) s3.heap.objs.size (cellsFrom (s3.heap.objs.size + 1) scope.names (cloFrom X.env.cells scope.names [])) fp
  have pt := ht s3 (upd H2 D (.lst [])) s3.heap.objs.size (cellsFrom (s3.heap.objs.size + 1) scope.names (cloFrom X.env.cells scope.names [])) fp
  have pe := he s3 (upd H2 D (.lst [])) s3.heap.objs.size (cellsFrom (s3.heap.objs.size + 1) scope.names (cloFrom X.env.cells scope.names [])) fp
  show codeAny _ _ (.compStart (.ListComp elt [⟨tg, iter, ifs, 0⟩] scope pos) 0 (.ref it) (.ref D) (compEnvC scope (cellsFrom (s3.heap.objs.size + 1) scope.names (cloFrom X.env.cells scope.names [])) s3.heap.objs.size X.env)) (compEnds (model X.prog X.w) X.A X.xe use Qf (.ref D) (compEnvC scope (cellsFrom (s3.heap.objs.size + 1) scope.names (cloFrom X.env.cells scope.names [])) s3.heap.objs.size X.env)) { s3 with heap := pushCells (s3.heap.push { cls := .type "dict", data := .dict #[] }) scope.names }
  have nfp : ∀ b ∈ fp, (upd H2 D (.lst [])) b = none := fun b hb => (f3 b hb).1.1
  have cF : (compEnvC scope (cellsFrom (s3.heap.objs.size + 1) scope.names (cloFrom X.env.cells scope.names [])) s3.heap.objs.size X.env).frame = X.env.frame := rfl
  generalize hce : compEnvC scope (cellsFrom (s3.heap.objs.size + 1) scope.names (cloFrom X.env.cells scope.names [])) s3.heap.objs.size X.env = ce at I4 pg pt pe cF ⊢
  have cL : ce.locals = s3.heap.objs.size := by subst hce; rfl
  generalize hH3 : upd H2 D (.lst []) = H3 at I3 I4 pg pt pe w0 nfp f3
  generalize hs4 : ({ s3 with heap := pushCells (s3.heap.push { cls := .type "dict", data := .dict #[] }) scope.names } : Shared) = s4 at I4 ⊢
  have st4 : tn 0 s4.heap := T.keep _ _ _ st3 fun b _ o e => by rw [← hs4]; exact pushCells_keeps _ _ _ _ (Heap.get?_push_of_some _ e)
  generalize hxe : (notedBy (model X.prog X.w) X.A ce fun e s' => compEnds (model X.prog X.w) X.A X.xe use Qf (.ref D) ce (.error e) s') = xe
  have tkB : Takes (X.blkX s3 H3 scope ce fp xe) (fun cls d _ H' => W cls d σ H') := blk_takes I3 hs0 hf0 tk cL cF (fun b hb => (f3 b hb).1) hxe.symm
  have I4 : Inv (X.blkX s3 H3 scope ce fp xe) [] (L2.wipe σ (own.map (·.2))) H3 s4 := inv_blkX I4
  have pg := pg xe
  have pt := pt xe tkB
  have pe := pe xe tkB
  have stat : ∀ {σ' : L2.St} {H' : Hp} {s' : Shared}, Inv (X.blkX s3 H3 scope ce fp xe) [] σ' H' s' → (∀ b ∈ fp, H' b = none) → ∀ b ∈ fp, FpOk (X.blkX s3 H3 scope ce fp xe) [] H' b := fun {σ' H' s'} I' hn b hb =>
    ⟨hn b hb, (I'.ok.exf b hb).1, I'.ok.exfs b hb, .inl hb, fun x c e => (I'.ok.exf b hb).2 x c e, fun p hp => absurd (show p ∈ ([] : List (Addr × Obj)) ++ [] from hp) (by simp)⟩
  have loop : codeAny (model X.prog X.w) X.A (.compLoop (.ListComp elt [⟨tg, iter, ifs, 0⟩] scope pos) 0 (.ref it) (.ref D) ce) (compEnds (model X.prog X.w) X.A X.xe use Qf (.ref D) ce) s4 := by
    refine compLoop_any (fun n s' => ∃ i H', Inv (X.blkX s3 H3 scope ce fp xe) [] (L2.wipe σ (own.map (·.2))) H' s' ∧ tn i s'.heap ∧ (∀ b ∈ fp, H' b = none) ∧ W0 i n H') ?_ m0 ⟨0, H3, I4, st4, nfp, w0⟩
    rw [hxe]
    rintro n s5 ⟨i, H5, I5, st5, n5, w5⟩
    rcases turn i n H5 w5 with ⟨stop, qq⟩ | ⟨go, Nx, hNx, step⟩
    · have td := T.done (X.blkX s3 H3 scope ce fp xe) rfl rfl rfl hc i [] s5 _ H5 (fun _ _ => False) I5 (stat I5 n5) st5 stop
      refine thnF td fun r s6 ⟨hr, I6⟩ => ?_
      subst hr
      have I7 : Inv X pins σ H5 s6 := I3.call' (ch := fp) I6.os I6.base I6.hok I6.bare fun b hb => ⟨(f3 b hb).1.2.2.2.1, (f3 b hb).1.2.1, (f3 b hb).1.2.2.2.2.1, (f3 b hb).1.2.2.2.2.2⟩
      have nC : H5 ce.locals = none := I6.free
      obtain ⟨m, hn, _⟩ := I6.loc
      have hn : s6.heap.Ns ce.locals m := hn
      exact hRR D ce s6 m H5 I7 qq hn (I3.fpOk (Nat.le_of_eq cL.symm) nC)
    · have ti := T.item (X.blkX s3 H3 scope ce fp xe) rfl rfl rfl hc i [] s5 _ H5 (fun _ _ => False) I5 (stat I5 n5) st5 go
      refine thnF ti fun r s6 ⟨u, hr, h6⟩ => ?_
      subst hr
      refine thnF h6 fun _ s7 ⟨x, H7, I7, r7, y7, st7, n7⟩ => ?_
      have I7' := I7.pinned (stat I7 n7) (T.obj _ _ st7)
      refine thn (pg.run _ s7 _ H7 x u _ I7' r7 (step x H7 y7)) fun _ s8 ⟨σ8, H8, I8, hw8, q8⟩ => ?_
      refine thn (pt.run _ s8 σ8 H8 _ I8 q8) fun b s9 ⟨H9, I9, q9⟩ => ?_
      have fin : ∀ {s' : Shared} {H' : Hp}, Inv (X.blkX s3 H3 scope ce fp xe) ([] ++ pinsAt fp s7.heap) σ8 H' s' → Nx H' → ∃ m, m < n ∧ ∃ i H', Inv (X.blkX s3 H3 scope ce fp xe) [] (L2.wipe σ (own.map (·.2))) H' s' ∧ tn i s'.heap ∧ (∀ b ∈ fp, H' b = none) ∧ W0 i m H' := fun {s' H'} I' nx => by
        obtain ⟨m', hm, w'⟩ := hNx H' nx
        have pin' : ∀ b ∈ fp, ∀ o, s7.heap.get? b = some o → s'.heap.get? b = some o ∧ H' b = none := fun b hb o e =>
          let z := I'.pin (b, o) (List.mem_append_right _ (List.mem_append_right _ (mem_pinsAt hb e)))
          ⟨z.1, z.2.1⟩
        have hl : (L2.wipe σ (own.map (·.2))).length = σ8.length := by rw [← hw8, wipe_length]
        refine ⟨m', hm, i + 1, H', (I'.unpinned (pins := [])).weak hl (fun j v e => ?_), T.keep _ _ _ st7 fun b hb o e => (pin' b hb o e).1, fun b hb => ?_, w'⟩
        · rw [← hw8] at e
          exact (wipe_some e).1
        · obtain ⟨o, e, _⟩ := T.obj _ _ st7 b hb
          exact (pin' b hb o e).2
      cases b with
      | false =>
        simp only [Bool.false_eq_true, if_false] at q9 ⊢
        exact fin I9 q9
      | true =>
        simp only [if_true] at q9 ⊢
        refine thn (pe.run _ s9 σ8 H9 _ I9 q9) fun z s10 ⟨yv, H10, I10, r10, acc, hD10, hz10, nx⟩ => ?_
        exact app_ok (X := X.blkX s3 H3 scope ce fp xe) I10 hD10 hz10 r10 fun s11 I11 => fin I11 nx
  refine codeAny_compStart_list loop (T.self X.A 0 _ _ _ st4 loop)
/-- as a value -/
theorem pe_lcX {elt tg iter : Expr} {ifs : List Expr} {scope : Scope} {own : List (Str × Nat)} {pos : Pos} {wi : TI} {g : TG} {tt : L2.St → TT} {te : L2.St → TE} {W : WX} (hs0 : X.stack = X.env :: X.outer) (hf0 : X.env.frame = some X.env.locals) (tk : Takes X W)
    (hc : X.calm = true) (hN : X.N.Nodup) (hi : PI X tg iter wi) (ok : BlkOk X.N X.env.scope scope own)
    (hg : ∀ (s : Shared) (H : Hp) (C : Addr) (cl : List (Str × Addr)) (fp : List Addr) xe, PG (X.blkX s H scope (compEnvC scope cl C X.env) fp xe) tg g)
    (ht : ∀ (σ : L2.St) (s : Shared) (H : Hp) (C : Addr) (cl : List (Str × Addr)) (fp : List Addr) xe, Takes (X.blkX s H scope (compEnvC scope cl C X.env) fp xe) (fun cls d _ H' => W cls d σ H') → PTs (X.blkX s H scope (compEnvC scope cl C X.env) fp xe) ifs (tt σ))
    (he : ∀ (σ : L2.St) (s : Shared) (H : Hp) (C : Addr) (cl : List (Str × Addr)) (fp : List Addr) xe, Takes (X.blkX s H scope (compEnvC scope cl C X.env) fp xe) (fun cls d _ H' => W cls d σ H') → PE (X.blkX s H scope (compEnvC scope cl C X.env) fp xe) elt (te σ)) (hs : ∀ x, foldedSetIterable iter X.env x = pure x := by intro _; rfl) :
    PE X (.ListComp elt [⟨tg, iter, ifs, 0⟩] scope pos) (fun σ H Q => tLc wi g (tt σ) (te σ) (own.map (·.2)) σ H Q) := by
  refine ⟨fun pins s σ H Q I h => ?_⟩
  rw [eval_ListComp]
  refine lc_coreX hs0 hf0 tk hc hN I hi ok hg (ht σ) (he σ) hs h fun D ce s' m H' I' q hn f => ⟨m, hn, fun h'' sb => ?_⟩
  obtain ⟨f0, f1, f2, f3, f4, f5⟩ := f
  exact ⟨.ref D, H', I'.turned (t' := s'.toks) (fun b o hb e => (sb.2 b hb).trans e) f0 f1 f3 f4 f5, rfl, q⟩
/-- name = [..] on one line, the name a local -/
theorem ps_setLcX {i : Nat} {y : Str} {py : Pos} {elt tg iter : Expr} {ifs : List Expr} {scope : Scope} {own : List (Str × Nat)} {pos spos : Pos} {wi : TI} {g : TG} {tt : L2.St → TT} {te : L2.St → TE} {W : WX} (hs0 : X.stack = X.env :: X.outer) (hf0 : X.env.frame = some X.env.locals) (tk : Takes X W)
    (hc : X.calm = true) (hN : X.N.Nodup) (hy : X.N[i]? = some y) (hyl : X.env.scope.names.lookup y = some .local)
    (hsw : swapsWith (.ListComp elt [⟨tg, iter, ifs, 0⟩] scope pos) (some (.Name y py)) spos.line X.env = pure true) (hi : PI X tg iter wi) (ok : BlkOk X.N X.env.scope scope own)
    (hg : ∀ (s : Shared) (H : Hp) (C : Addr) (cl : List (Str × Addr)) (fp : List Addr) xe, PG (X.blkX s H scope (compEnvC scope cl C X.env) fp xe) tg g)
    (ht : ∀ (σ : L2.St) (s : Shared) (H : Hp) (C : Addr) (cl : List (Str × Addr)) (fp : List Addr) xe, Takes (X.blkX s H scope (compEnvC scope cl C X.env) fp xe) (fun cls d _ H' => W cls d σ H') → PTs (X.blkX s H scope (compEnvC scope cl C X.env) fp xe) ifs (tt σ))
    (he : ∀ (σ : L2.St) (s : Shared) (H : Hp) (C : Addr) (cl : List (Str × Addr)) (fp : List Addr) xe, Takes (X.blkX s H scope (compEnvC scope cl C X.env) fp xe) (fun cls d _ H' => W cls d σ H') → PE (X.blkX s H scope (compEnvC scope cl C X.env) fp xe) elt (te σ)) (hs : ∀ x, foldedSetIterable iter X.env x = pure x := by intro _; rfl) :
    PS X (.Assign [.Name y py] (.ListComp elt [⟨tg, iter, ifs, 0⟩] scope pos) spos) (tAsg (fun σ H Q => tLc wi g (tt σ) (te σ) (own.map (·.2)) σ H Q) (gName i)) := by
  refine ⟨fun pins s σ H D I h => ?_⟩
  rw [exec_Assign_Name_used _ _ _ _ hsw]
  refine wpAny_bind (wpAny_standAt (wpAny_bind ?_))
  show wpAny _ X.A (do let _ ← comprehension (.ListComp elt [⟨tg, iter, ifs, 0⟩] scope pos) scope X.env (firstIterPos [⟨tg, iter, ifs, 0⟩] pos) (newList []) false (eval iter X.env) (some (assign (.Name y py) X.env))) _ _ s
  have h : tLc wi g (tt σ) (te σ) (own.map (·.2)) σ H (fun x H1 => gName i x σ H1 D.nx) := h
  refine wpAny_bind (thn (lc_coreX (Qf := fun _ s' => SP X pins D .next s') hs0 hf0 tk hc hN I hi ok hg (ht σ) (he σ) hs h fun L ce s' m H' I' q hn f => ?_) fun _ s' hq => wpAny_pure (wpAny_pure hq))
  show wpAny _ _ (assign (.Name y py) X.env (.ref L)) _ _ _
  refine wpAny_assign_Name (store_ok2 (v := V.ref L) I' hN hy (.inl hyl) rfl (fun s2 I2 ⟨a, sb, ha⟩ => ?_) (.inr hyl))
  obtain ⟨f0, f1, f2, f3, f4, f5⟩ := f
  have haC : ce.locals ≠ a := by
    rcases ha with z | z
    · rw [z]; exact f1
    · exact fun e => f4 y a z e.symm
  refine ⟨m, hn.sameBut sb haC, fun h3 sb3 => ?_⟩
  exact ⟨_, H', I2.turned (t' := s2.toks) (fun b o hb e => (sb3.2 b hb).trans e) f0 f1 f3 f4 f5, q⟩
end
end Lw

set_option maxRecDepth 100000
set_option maxHeartbeats 1000000
/-! Lw12: comprehensions. -/
namespace Lw
open PySem L2 RZ
section
variable {g : Gx} {c : CC} {k : Nat} {W : WX} {X : Cx}
section
variable {K : PySem.W.Frag} {cl : Str → Option Addr} {F H : Hp}
theorem RS.wipe {r : Ro} {s : L2.St} {A : AS} (h : RS K cl F H r s A) : ∀ own : List (Str × Nat), ∃ B, RS K cl F H (wipeR own r) (L2.wipe s (own.map (·.2))) B ∧ ∀ a, B a → A a
  | [] => ⟨A, h, fun _ z => z⟩
  | p :: ps => by
    obtain ⟨B, h1, h2⟩ := RS.wipe h ps
    obtain ⟨C, h3, h4⟩ := RS.drop p.2 none h1
    exact ⟨C, h3, fun a z => h2 a (h4 a z)⟩
/-- what is put back into a block's slots -/
def unwS (σ : L2.St) : List (Str × Nat) → L2.St → L2.St
  | [], s => s
  | p :: ps, s => unwS σ ps (s.set p.2 (σ[p.2]?.join))
theorem unwS_get {σ : L2.St} : ∀ {own : List (Str × Nat)} {s : L2.St} {j : Nat}, s.length = σ.length → (j ∈ own.map (·.2) ∨ s[j]? = σ[j]?) → (unwS σ own s)[j]? = σ[j]?
  | [], s, j, hl, h => by
    rcases h with h | h
    · cases h
    · exact h
  | p :: ps, s, j, hl, h => by
    rw [unwS]
    refine unwS_get (by rw [List.length_set, hl]) ?_
    by_cases e : p.2 = j
    · right
      rw [e]
      by_cases hj : j < σ.length
      · rw [List.getElem?_set_self (by rw [hl]; exact hj), List.getElem?_eq_getElem hj]
        rfl
      · rw [List.getElem?_eq_none (by rw [List.length_set, hl]; exact Nat.le_of_not_lt hj), List.getElem?_eq_none (Nat.le_of_not_lt hj)]
    · rw [List.getElem?_set_ne e]
      rcases h with h | h
      · rw [List.map_cons] at h
        rcases List.mem_cons.mp h with z | z
        · exact absurd z.symm e
        · exact .inl z
      · exact .inr h
theorem wipe_get {σ : L2.St} {j : Nat} : ∀ {vs : List Nat}, j ∉ vs → (L2.wipe σ vs)[j]? = σ[j]?
  | [], _ => rfl
  | v :: vs, h => by
    unfold L2.wipe
    rw [List.getElem?_set_ne (fun e => h (by simp [e])), wipe_get fun z => h (List.mem_cons_of_mem _ z)]
theorem unwS_wipe (σ : L2.St) (own : List (Str × Nat)) : unwS σ own (L2.wipe σ (own.map (·.2))) = σ := by
  apply List.ext_getElem?
  intro j
  refine unwS_get (wipe_length σ _) ?_
  by_cases h : j ∈ own.map (·.2)
  · exact .inl h
  · exact .inr (wipe_get h)
theorem RS.unwipe {old : Ro} {σ : L2.St} : ∀ {own : List (Str × Nat)} {r : Ro} {s : L2.St} {A : AS}, RS K cl F H r s A →
    (∀ p ∈ own, old[p.2]? = some none ∨ ∃ x v, old[p.2]? = some (some (.d x)) ∧ σ[p.2]? = some (some v) ∧ Dq K F v x) → (old.length = r.length) → ∃ B, RS K cl F H (Lw.unwipe old own r) (unwS σ own s) B ∧ ∀ a, B a → A a
  | [], r, s, A, h, _, _ => ⟨A, h, fun _ z => z⟩
  | p :: ps, r, s, A, h, q, hl => by
    rw [Lw.unwipe, unwS]
    rcases q p (by simp) with e | ⟨x, v, e1, e2, e3⟩
    · obtain ⟨B, h1, h2⟩ := RS.drop p.2 (σ[p.2]?.join) h
      rw [e]
      obtain ⟨C, h3, h4⟩ := RS.unwipe (own := ps) h1 (fun p hp => q p (List.mem_cons_of_mem _ hp)) (by rw [List.length_set, hl])
      exact ⟨C, h3, fun a z => h2 a (h4 a z)⟩
    · rw [e1, e2]
      have hi : p.2 < r.length := by
        rw [← hl]
        exact (List.getElem?_eq_some_iff.mp e1).1
      obtain ⟨B, h1, h2⟩ := RS.store (i := p.2) (o := .d x) (v := v) (Ao := fun _ => False) h hi (.d e3) (fun _ z => z.elim)
      obtain ⟨C, h3, h4⟩ := RS.unwipe (own := ps) h1 (fun p hp => q p (List.mem_cons_of_mem _ hp)) (by rw [List.length_set, hl])
      exact ⟨C, h3, fun a z => (h2 a (h4 a z)).elim id False.elim⟩
theorem quietOwn_of {old : Ro} {σ : L2.St} {A : AS} (h : RS K cl F H old σ A) : ∀ {own : List (Str × Nat)}, quietOwn old own = true → ∀ p ∈ own, old[p.2]? = some none ∨ ∃ x v, old[p.2]? = some (some (.d x)) ∧ σ[p.2]? = some (some v) ∧ Dq K F v x
  | [], _, p, hp => by cases hp
  | q :: own, e, p, hp => by
    rw [quietOwn] at e
    obtain ⟨e1, e2⟩ := and2 e
    rcases List.mem_cons.mp hp with z | z
    · rw [z]
      split at e1
      · exact .inl (by assumption)
      · rename_i x hx
        obtain ⟨v, Ai, B, k1, k2, _⟩ := h.out hx
        cases k2 with
        | d k2 => exact .inr ⟨x, v, hx, k1, k2⟩
      · cases e1
    · exact quietOwn_of h e2 p z
theorem unwipe_len (old : Ro) : ∀ (own : List (Str × Nat)) (r : Ro), (Lw.unwipe old own r).length = r.length
  | [], r => rfl
  | p :: ps, r => by rw [Lw.unwipe, unwipe_len, List.length_set]
theorem wipeR_len : ∀ (own : List (Str × Nat)) (r : Ro), (wipeR own r).length = r.length
  | [], r => rfl
  | p :: ps, r => by rw [wipeR, List.length_set, wipeR_len]
theorem ORs.snoc {o : O} {v : V} {B : AS} : ∀ {os : List O} {vs : List V} {A : AS}, ORs K cl F H os vs A → OR K cl F H o v B → (∀ a, A a → B a → False) → ORs K cl F H (os ++ [o]) (vs ++ [v]) (fun a => A a ∨ B a)
  | _, _, _, .nil, h, n => by
    refine (ORs.cons h .nil fun a _ z => z).cast fun a => ?_
    constructor
    · rintro (z | z)
      · exact .inr z
      · exact z.elim
    · rintro (z | z)
      · exact z.elim
      · exact .inl z
  | _, _, _, .cons h1 t n1, h, n => by
    refine (ORs.cons h1 (ORs.snoc t h fun a x y => n a (.inr x) y) fun a x y => y.elim (n1 a x) fun y => n a (.inl x) y).cast fun a => ?_
    constructor
    · rintro (z | z | z)
      · exact .inl (.inl z)
      · exact .inl (.inr z)
      · exact .inr z
    · rintro ((z | z) | z)
      · exact .inl z
      · exact .inr (.inl z)
      · exact .inr (.inr z)
end
theorem pts_of (ok : XOk g c k W X) {ifs : CE} (hT : ∀ a, ifs = .cons a .nil → Snd g a) {es : List Expr} (h : chks c ifs es = true) : PTs X es (rdB g W (qt ifs) (evB g.G ifs)) := by
  refine ⟨fun pins s σ H Q I ⟨F, A, ro, S, hh⟩ => ?_⟩
  cases ifs with
  | nil =>
    simp only [chks] at h
    split at h
    · simp only [evB] at hh
      exact pts_nil.run pins s σ H Q I (hh F H A .refl S fun _ => .refl _)
    · cases h
  | cons a as =>
    cases as with
    | nil =>
      cases es with
      | nil => simp [chks] at h
      | cons e es =>
        simp only [chks, Bool.and_eq_true] at h
        obtain ⟨⟨h1, h2⟩, h3⟩ := h
        cases es with
        | cons _ _ => cases h3
        | nil =>
          refine (pts_one ((hT a rfl).T ok h2)).run pins s σ H Q I ⟨F, A, ro, S, ?_⟩
          simp only [evB] at hh
          cases r : ev g.G a ro with
          | ok hd ro1 =>
            rw [r] at hh
            simp only [Out.bind_ok] at hh
            cases q : hd.bool ro1 with
            | none => rw [q] at hh; exact hh.elim
            | some b =>
              rw [q] at hh
              exact ⟨b, q, fun F' H' A' st S' hs => hh F' H' A' st S' fun z => hs (and2 z).1⟩
          | exc x ro1 => rw [r] at hh; exact hh
          | stuck => rw [r] at hh; exact hh
    | _ => simp only [evB] at hh; exact hh.elim
  | _ => simp only [evB] at hh; exact hh.elim
/-- the surroundings of a comprehension's block -/
theorem XOk.blk (ok : XOk g c k W X) (s : Shared) (H : Hp) (C : Addr) (cl : List (Str × Addr)) (fp : List Addr) (scope : Scope) :
    XOk g { c with sc := relS scope c.sc, fnB := some scope.names } k (fun _ _ _ _ => False) (X.blk s H scope (compEnvC scope cl C X.env) fp) where
  pr := ok.pr
  ww := ok.ww
  kk := ok.kk
  mm := ok.mm
  bb := ok.bb
  hN := ok.hN
  nd := ok.nd
  sc := by rw [← ok.sc]; rfl
  calm := ok.calm
  room := ok.room
  un := ok.un
  fns := ok.fns
  blt := ok.blt
  gls := ok.gls
  fnc := fun x h => h
  exs := ok.exs
  exm := ok.exm
  tk := takes_none5
  stk0 := fun z => by cases z

/-- .. that an exception may leave -/
theorem XOk.blkX (ok : XOk g c k W X) (s : Shared) (H : Hp) (C : Addr) (cl : List (Str × Addr)) (fp : List Addr) (scope : Scope) (xe : Value → Shared → Prop) {W2 : WX} (tk : Takes (X.blkX s H scope (compEnvC scope cl C X.env) fp xe) W2) :
    XOk g { c with sc := relS scope c.sc, fnB := some scope.names } k W2 (X.blkX s H scope (compEnvC scope cl C X.env) fp xe) where
  pr := ok.pr
  ww := ok.ww
  kk := ok.kk
  mm := ok.mm
  bb := ok.bb
  hN := ok.hN
  nd := ok.nd
  sc := by rw [← ok.sc]; rfl
  calm := ok.calm
  room := ok.room
  un := ok.un
  fns := ok.fns
  blt := ok.blt
  gls := ok.gls
  fnc := fun x h => h
  exs := ok.exs
  exm := ok.exm
  tk := tk
  stk0 := fun z => by cases z

section
variable {K : PySem.W.Frag} {cl : Str → Option Addr} {F H F1 H1 : Hp}
theorem wipe_sub {σ : L2.St} {vs : List Nat} : ∀ {us : List Nat}, (∀ u ∈ us, u ∈ vs) → L2.wipe (L2.wipe σ us) vs = L2.wipe σ vs
  | [], _ => rfl
  | u :: us, h => by
    show L2.wipe ((L2.wipe σ us).set u none) vs = _
    rw [wipe_set (h u (by simp)), wipe_sub fun v hv => h v (List.mem_cons_of_mem _ hv)]
theorem SR.reWipe {A : AS} {ro : Ro} {σ σ2 : L2.St} (S : SR K cl F A ro σ2 H) (own : List (Str × Nat)) (h : L2.wipe σ2 (own.map (·.2)) = L2.wipe σ (own.map (·.2))) :
    ∃ B, SR K cl F B (wipeR own (wipeR own ro)) (L2.wipe σ (own.map (·.2))) H ∧ ∀ a, B a → A a := by
  obtain ⟨B, h1, h2⟩ := S.rs.wipe own
  obtain ⟨C, h3, h4⟩ := h1.wipe own
  rw [wipe_sub (fun _ z => z), h] at h3
  exact ⟨C, ⟨h3, S.sub⟩, fun a z => h2 a (h4 a z)⟩
/-- one more at the end of a list of trees -/
theorem OR.append {A T Bo : AS} {os : List O} {o : O} {D : Addr} {y : V} {ro : Ro} {σ : L2.St} (S : SR K cl F A ro σ H) (h : OR K cl F H (.lst os) (.ref D) T) (ho : OR K cl F H o y Bo) (n1 : ∀ a, T a → A a → False) (n2 : ∀ a, T a → Bo a → False) (n3 : ∀ a, Bo a → A a → False) :
    ∃ vs, H D = some (.lst vs) ∧ vs.length = os.length ∧ OR K cl F (upd H D (.lst (vs ++ [y]))) (.lst (os ++ [o])) (.ref D) (fun a => T a ∨ Bo a) ∧ SR K cl F A ro σ (upd H D (.lst (vs ++ [y]))) ∧
      (∀ a, (T a ∨ Bo a) → A a → False) ∧ Stp F H (fun a => A a ∨ (T a ∨ Bo a)) F (upd H D (.lst (vs ++ [y]))) (fun a => A a ∨ (T a ∨ Bo a)) ∧ T D ∧ F D = none := by
  cases h with
  | @lst p vs os A0 h1 h2 h3 h4 =>
    have nB : ¬ Bo D := fun z => n2 D (.inl rfl) z
    have nA : ¬ A D := fun z => n1 D (.inl rfl) z
    have fr : ∀ (T : AS), ¬ T D → ∀ a, T a → upd H D (.lst (vs ++ [y])) a = H a := fun T nT a z => upd_ne fun e => nT (e ▸ z)
    have q1 := ORs.frame (F' := F) (H' := upd H D (.lst (vs ++ [y]))) (.refl _) h2 (fr A0 h3) fun a z => (h2.own a z).1
    have q2 := OR.frame (F' := F) (H' := upd H D (.lst (vs ++ [y]))) (.refl _) ho (fr Bo nB) fun a z => (ho.own a z).1
    refine ⟨vs, h1, h2.len.symm, ?_, ⟨S.rs.frame (.refl _) (fr A nA) fun a z => (S.rs.own a z).1, fun a o e => ?_⟩, fun a z w => z.elim (fun z => n1 a z w) fun z => n3 a z w, ⟨.refl _, fun a o e n => ?_, fun a z => .inl z, fun a z => .inl z⟩, .inl rfl, h4⟩
    · refine (OR.lst upd_same (q1.snoc q2 fun a x z => n2 a (.inr x) z) (fun z => z.elim h3 nB) h4).cast fun a => ?_
      constructor
      · rintro (z | z | z)
        · exact .inl (.inl z)
        · exact .inl (.inr z)
        · exact .inr z
      · rintro ((z | z) | z)
        · exact .inl z
        · exact .inr (.inl z)
        · exact .inr (.inr z)
    · rw [upd_ne fun e2 => by rw [e2, h4] at e; cases e]
      exact S.sub a o e
    · rw [upd_ne fun e2 => n (.inr (.inl (.inl e2)))]
      exact e
end
theorem Post.bindI {q qa z : Bool} {F : Hp} {A : AS} {σ : L2.St} {H : Hp} {Q : VK} {R : It → Hp → Prop} {r : Out (List PyData)} {f : List PyData → Ro → Out Hd} (h : Post g W q F A σ H (r.bind f) Q)
    (k : ∀ xs ro1, r = .ok xs ro1 → Post g W q F A σ H (f xs ro1) Q → ∀ J F1 H1 A1, Stp F H A F1 H1 A1 → SR g.K g.cl F1 A1 ro1 σ H1 → IterFor g.K F1 (if z then F1 else H1) J xs → (qa = true → Sub H H1) → R J H1) : PostI g W qa z F A σ H r R := by
  cases r with
  | ok hd ro1 => exact k hd ro1 rfl h
  | exc x ro1 => exact h
  | stuck => exact h
/-- one turn of a comprehension's block -/
def cStep (G : GE) (own : List (Str × Nat)) (elt tg ifs : CE) (x : PyData) (ro : Ro) : Out (Option O) := match asgT tg x (wipeR own ro) with
  | some ro => (evB G ifs ro).bind fun b ro => if b then (ev G elt ro).bind fun h ro => (h.sto ro).bind fun o ro => .ok (some o) (wipeR own ro) else .ok none (wipeR own ro)
  | none => .stuck
/-- what is made so far, ahead of the rest -/
def ahead (os : List O) : Out (List O) → Out (List O)
  | .ok os2 ro => .ok (os ++ os2) ro
  | .exc x ro => .exc x ro
  | .stuck => .stuck
def LcI (g : Gx) (own : List (Str × Nat)) (elt tg ifs : CE) (xs : List PyData) (σ : L2.St) (D : Addr) (F1 H1 : Hp) (A1 : AS) (r : Out (List O)) (i : Nat) (H : Hp) : Prop :=
  ∃ F A ro os T, SR g.K g.cl F A (wipeR own ro) (L2.wipe σ (own.map (·.2))) H ∧ OR g.K g.cl F H (.lst os) (.ref D) T ∧ (∀ a, T a → A a → False) ∧ Stp F1 H1 A1 F H (fun a => A a ∨ T a) ∧
    ((qt elt && qt ifs) = true → Sub H1 H ∧ ∀ a, T a → H1 a = none) ∧ ahead os (cLoop (cStep g.G own elt tg ifs) (xs.drop i) ro) = r ∧ os.length ≤ i
/-- an item comes into the frozen part -/
theorem item_in {K : PySem.W.Frag} {cl : Str → Option Addr} {F0 F H H' : Hp} {A T : AS} {ro : Ro} {σ : L2.St} {x : PyData} {v : V} {os : List O} {D : Addr} (s0 : Sub F0 F) (S : SR K cl F A ro σ H) (h : OR K cl F H (.lst os) (.ref D) T) (r : Res K F0 H (.d x) v H') :
    ∃ F2, SR K cl F2 A ro σ H' ∧ Dq K F2 v x ∧ OR K cl F2 H' (.lst os) (.ref D) T ∧ Stp F H (fun a => A a ∨ T a) F2 H' (fun a => A a ∨ T a) ∧ Sub H H' := by
  have old : H' = H → Dq K F0 v x → ∃ F2, SR K cl F2 A ro σ H' ∧ Dq K F2 v x ∧ OR K cl F2 H' (.lst os) (.ref D) T ∧ Stp F H (fun a => A a ∨ T a) F2 H' (fun a => A a ∨ T a) ∧ Sub H H' := fun e d => by
    subst e
    exact ⟨F, S, Dq.mono s0 _ _ d, h, .refl, .refl _⟩
  cases x with
  | tuple xs =>
    rcases r with ⟨e, d⟩ | ⟨p, vs, rfl, hp, rfl, d⟩
    · exact old e d
    · obtain ⟨S1, s1⟩ := S.newF (ob := .tup vs) hp
      have fp : F p = none := S.sub.none hp
      have nT : ∀ a, T a → a ≠ p := fun a z e => by subst e; exact (h.own _ z).2 hp
      refine ⟨_, S1, .tup (SqT.of upd_same) (Dq.monoAll (s0.trans (Sub.new fp)) _ _ d), h.frame (Sub.new fp) (fun a z => upd_ne (nT a z)) (fun a z => by rw [upd_ne (nT a z)]; exact (h.own a z).1), s1.frame T, Sub.new hp⟩
  | none => exact old r.1 r.2
  | bool _ => exact old r.1 r.2
  | int _ => exact old r.1 r.2
  | str _ => exact old r.1 r.2
  | list _ => exact old r.1 r.2
  | dict _ => exact old r.1 r.2
theorem wipeR_set (i : Nat) : ∀ (own : List (Str × Nat)) (ro : Ro), wipeR own (ro.set i none) = (wipeR own ro).set i none
  | [], ro => rfl
  | p :: ps, ro => by
    rw [wipeR, wipeR, wipeR_set i ps]
    by_cases e : i = p.2
    · subst e; rfl
    · exact List.set_comm _ _ e
theorem wipeR_idem : ∀ (own : List (Str × Nat)) (ro : Ro), wipeR own (wipeR own ro) = wipeR own ro
  | [], ro => rfl
  | p :: ps, ro => by
    rw [wipeR, wipeR, wipeR_set, wipeR_idem ps]
    simp
/-- the slots put back -/
theorem SR.back {K : PySem.W.Frag} {cl : Str → Option Addr} {F1 F H1 H : Hp} {A1 A : AS} {ro0 ro : Ro} {σ σ2 : L2.St} {own : List (Str × Nat)} (S1 : SR K cl F1 A1 ro0 σ H1) (hown : quietOwn ro0 own = true) (S : SR K cl F A ro σ2 H) (hw : L2.wipe σ2 (own.map (·.2)) = L2.wipe σ (own.map (·.2))) (s : Sub F1 F) :
    ∃ B, SR K cl F B (Lw.unwipe ro0 own (wipeR own ro)) σ H ∧ ∀ a, B a → A a := by
  obtain ⟨B, S6, sb6⟩ := S.reWipe own hw
  rw [wipeR_idem] at S6
  obtain ⟨B2, r1, r2⟩ := RS.unwipe (old := ro0) (σ := σ) S6.rs (fun p hp => (quietOwn_of S1.rs hown p hp).imp_right fun ⟨x, v, e1, e2, e3⟩ => ⟨x, v, e1, e2, Dq.mono s _ _ e3⟩) (by rw [S1.rs.len, S6.rs.len, wipe_length])
  rw [unwS_wipe] at r1
  exact ⟨B2, ⟨r1, S6.sub⟩, fun a z => sb6 a (r2 a z)⟩
theorem comp_red {q : Bool} {own : List (Str × Nat)} {elt tg it ifs : CE} {σ : L2.St} {H : Hp} {Q : VK} {W2 : WX} (h5 : (tgSlots tg).all (fun i => (own.map (·.2)).contains i) = true)
    (hr : ∃ F A ro, SR g.K g.cl F A ro σ H ∧ Post g W (qt (.comp q own elt tg it ifs)) F A σ H (ev g.G (.comp q own elt tg it ifs) ro) Q ∧
      ((∃ x ro', ev g.G (.comp q own elt tg it ifs) ro = .exc x ro') → (∀ x ro', evI g.G (!q) it ro ≠ .exc x ro') → ∀ cls d σ' H', W cls d σ H' → W2 cls d σ' H')) :
    tLc (rdI g W (qt it) (!q) (evI g.G (!q) it)) (rdG g tg) (rdB g W2 (qt ifs) (evB g.G ifs)) (rdE g W2 (qt elt) (ev g.G elt)) (own.map (·.2)) σ H Q := by
  obtain ⟨F, A, ro, S, hh, hW⟩ := hr
  refine ⟨F, A, ro, S, ?_⟩
  simp only [ev] at hh hW
  refine hh.bindI fun xs ro0 hev hh J F1 H1 A1 st S1 itf hq => ?_
  rw [hev] at hW
  simp only [Out.bind_ok] at hW
  split at hh
  · rename_i hcond
    obtain ⟨hoq, hlen⟩ := and2 hcond
    obtain ⟨hown, hqq⟩ := and2 hoq
    rw [if_pos hcond] at hW
    change Post g W _ F A σ H (cEnd ro0 own (cLoop (cStep g.G own elt tg ifs) xs ro0)) Q at hh
    change ((∃ x ro', cEnd ro0 own (cLoop (cStep g.G own elt tg ifs) xs ro0) = .exc x ro') → _) at hW
    generalize hl : cLoop (cStep g.G own elt tg ifs) xs ro0 = r at hh hW
    have nst : r ≠ .stuck := fun e => by rw [e] at hh; exact hh.elim
    intro D hD
    have hqt : qt (.comp q own elt tg it ifs) = true → qt it = true ∧ (qt elt && qt ifs) = true := fun z => by
      simp only [qt, Bool.and_eq_true] at z ⊢
      exact ⟨z.1.2, z.1.1, z.2⟩
    have hbase : ∀ {i : Nat} {H' : Hp}, LcI g own elt tg ifs xs σ D F1 H1 A1 r i H' → Sub (if (!q) = true then F1 else H1) H' := fun {i H'} ⟨F2, A2, ro2, os, T, S2, _, _, st2, qq, _, _⟩ => by
      cases q with
      | false =>
        simp only [Bool.not_false, if_true]
        exact st2.fr.trans S2.sub
      | true =>
        simp only [Bool.not_true, Bool.false_eq_true, if_false] at hqq ⊢
        exact (qq (by simpa using hqq)).1
    -- an exception leaves the block
    have leave : ∀ {x : Exn} {ro3 : Ro} {F2 H2 F3 H3 : Hp} {A2 A3 T : AS} {σ2 : L2.St}, r = .exc x ro3 → Stp F1 H1 A1 F3 H3 (fun a => A3 a ∨ T a) → ∀ C, g.mg x.cls = some (.ref C) → SR g.K g.cl F3 A3 ro3 σ2 H3 → L2.wipe σ2 (own.map (·.2)) = L2.wipe σ (own.map (·.2)) → W2 (.ref C) none σ2 H3 := by
      intro x ro3 F2 H2 F3 H3 A2 A3 T σ2 e st3 C hm S3 hw
      subst e
      obtain ⟨B, S4, sb⟩ := S1.back hown S3 hw st3.fr
      refine hW ⟨x, _, rfl⟩ (fun y r' z => by cases z) _ _ _ _ ?_
      exact hh C F3 H3 B hm (st.trans (st3.weak fun a z => .inl (sb a z))) S4
    refine ⟨fun i m H => m = xs.length - i ∧ i ≤ xs.length ∧ LcI g own elt tg ifs xs σ D F1 H1 A1 r i H, ⟨xs.length, rfl, Nat.zero_le _, ?_⟩, ?_⟩
    · -- the start
      obtain ⟨B, w1, w2⟩ := S1.rs.wipe own
      obtain ⟨S2, s2, fD, nD⟩ := SR.newO (ob := .lst []) ⟨w1, S1.sub⟩ hD
      refine ⟨F1, B, ro0, [], fun a => a = D ∨ False, S2, .lst upd_same .nil (fun z => z) fD, fun a z w => ?_, ⟨.refl _, fun a o e n => Sub.new hD a o e, fun a z => .inl z, fun a z => ?_⟩, fun _ => ⟨Sub.new hD, fun a z => ?_⟩, ?_, Nat.le_refl _⟩
      · rcases z with z | z
        · subst z; exact nD w
        · exact z
      · rcases z with z | z | z
        · exact .inl (w2 a z)
        · subst z; exact .inr hD
        · exact z.elim
      · rcases z with z | z
        · subst z; exact hD
        · exact z.elim
      · rw [List.drop_zero, hl]
        cases r with
        | ok os r2 => rfl
        | exc x r2 => rfl
        | stuck => rfl
    · rintro i m H2 ⟨rfl, hi, inv⟩
      have sB := hbase inv
      obtain ⟨F2, A2, ro2, os, T, S2, hL, dj, st2, qq, hc, hli⟩ := inv
      by_cases hlt : i < xs.length
      · have hx : xs[i]? = some xs[i] := List.getElem?_eq_getElem hlt
        obtain ⟨go, yl⟩ := itf.go i xs[i] H2 hx sB
        refine .inr ⟨go, fun H' => LcI g own elt tg ifs xs σ D F1 H1 A1 r (i + 1) H', fun H' hN => ⟨xs.length - (i + 1), by omega, rfl, hlt, hN⟩, fun v H' y => ?_⟩
        obtain ⟨F3, S3, hdq, hL3, st3, sub3⟩ := item_in st2.fr S2 hL (yl v H' y)
        rw [List.drop_eq_getElem_cons hlt, cLoop] at hc
        generalize hxx : xs[i] = x at hc hdq
        have hst : cStep g.G own elt tg ifs x ro2 ≠ .stuck := fun e => by
          rw [e] at hc
          exact nst hc.symm
        cases ha : asgT tg x (wipeR own ro2) with
        | none =>
          exfalso
          apply hst
          unfold cStep
          rw [ha]
        | some roa =>
          have hf : cStep g.G own elt tg ifs x ro2 = (evB g.G ifs roa).bind fun b ro => if b then (ev g.G elt ro).bind fun h ro => (h.sto ro).bind fun o ro => .ok (some o) (wipeR own ro) else .ok none (wipeR own ro) := by
            unfold cStep
            rw [ha]
          rw [hf] at hc
          refine ⟨F3, A2, wipeR own ro2, x, roa, S3, hdq, ha, fun σ' A' S4 sb4 hw => ?_⟩
          have hw' : L2.wipe σ' (own.map (·.2)) = L2.wipe σ (own.map (·.2)) := by
            rw [hw (own.map (·.2)) fun j hj => ?_, wipe_sub fun _ z => z]
            have := List.all_eq_true.mp h5 j hj
            simpa using this
          refine ⟨hw', F3, A', roa, S4, ?_⟩
          -- from the block's slots on
          have lift : ∀ {F5 H5 : Hp} {A5 : AS}, Stp F3 H' A' F5 H5 A5 → Stp F3 H' A2 F5 H5 A5 := fun {F5 H5 A5} st5 => ⟨st5.fr, fun a o e n => st5.kp a o e fun z => n (sb4 a z), fun a z => (st5.nf a z).imp_right fun z => z.imp_right (sb4 a), fun a z => (st5.na a z).imp_left (sb4 a)⟩
          cases hb : evB g.G ifs roa with
          | stuck =>
            exfalso
            rw [hb] at hc
            exact nst hc.symm
          | exc y r5 =>
            rw [hb] at hc
            intro C F5 H5 A5 hm st5 S5
            exact leave (F2 := F5) (H2 := H5) (A2 := A5) hc.symm (((st2.trans st3).trans ((lift st5).frame T))) C hm S5 hw'
          | ok b rob =>
            rw [hb] at hc
            simp only [Out.bind_ok] at hc
            intro F5 H5 A5 st5 S5 hs5
            have st5' : Stp F3 H' A2 F5 H5 A5 := lift st5
            cases b with
            | false =>
              simp only [Bool.false_eq_true, if_false, Out.bind_ok] at hc ⊢
              obtain ⟨B, S6, sb6⟩ := S5.reWipe own hw'
              obtain ⟨hL5, dj5⟩ := hL3.step dj st5'
              refine ⟨F5, B, wipeR own rob, os, T, S6, hL5, fun a z w => dj5 a z (sb6 a w), ((st2.trans st3).trans (st5'.frame T)).weak (fun a z => z.imp_left (sb6 a)), fun z => ⟨(((qq z).1.trans sub3).trans (hs5 (and2 z).2)), (qq z).2⟩, ?_, by omega⟩
              rw [← hc]
              cases cLoop (cStep g.G own elt tg ifs) (xs.drop (i + 1)) (wipeR own rob) <;> rfl
            | true =>
              simp only [if_true] at hc ⊢
              refine ⟨F5, A5, rob, S5, ?_⟩
              cases he : ev g.G elt rob with
              | stuck =>
                exfalso
                rw [he] at hc
                exact nst hc.symm
              | exc y r6 =>
                rw [he] at hc
                intro C F6 H6 A6 hm st6 S6
                exact leave (F2 := F6) (H2 := H6) (A2 := A6) hc.symm ((st2.trans st3).trans ((st5'.trans st6).frame T)) C hm S6 hw'
              | ok hd roc =>
                rw [he] at hc
                simp only [Out.bind_ok] at hc
                cases ht : hd.sto roc with
                | exc y r => exact absurd ht sto_noexc
                | stuck =>
                  exfalso
                  rw [ht] at hc
                  exact nst hc.symm
                | ok o rod =>
                  rw [ht] at hc
                  simp only [Out.bind_ok] at hc
                  intro y F6 H6 A6 Ao6 st6 S6 hv6 hq6
                  obtain ⟨F7, A7, Bo, S7, ho7, dj7, st7, su7, sb7⟩ := sto_ok S6 hv6 ht
                  have stT : Stp F3 H' A2 F7 H6 (fun a => A7 a ∨ Bo a) := (st5'.trans st6).trans st7
                  obtain ⟨hL7, djT⟩ := hL3.step dj stT
                  obtain ⟨B, S8, sb8⟩ := S7.reWipe own hw'
                  obtain ⟨vs, k1, k2, k3, k4, k5, k6, k7, k8⟩ := OR.append S8 hL7 ho7 (fun a z w => djT a z (.inl (sb8 a w))) (fun a z w => djT a z (.inr w)) (fun a z w => dj7 a z (sb8 a w))
                  have hrest : ahead (os ++ [o]) (cLoop (cStep g.G own elt tg ifs) (xs.drop (i + 1)) (wipeR own rod)) = r := by
                    rw [← hc]
                    cases cLoop (cStep g.G own elt tg ifs) (xs.drop (i + 1)) (wipeR own rod) with
                    | ok os3 r3 => simp [ahead]
                    | exc x3 r3 => rfl
                    | stuck => rfl
                  refine ⟨vs, k1, ?_, F7, B, wipeR own rod, os ++ [o], fun a => T a ∨ Bo a, k4, k3, k5, ?_, fun z => ?_, hrest, by rw [List.length_append, List.length_singleton]; omega⟩
                  · have := lenOk_le hlen
                    rw [k2]; omega
                  · have t1 : Stp F1 H1 A1 F7 H6 (fun a => (A7 a ∨ Bo a) ∨ T a) := (st2.trans st3).trans (stT.frame T)
                    exact (t1.weak (T := fun a => B a ∨ (T a ∨ Bo a)) fun a z => by
                      rcases z with z | z | z
                      · exact .inl (.inl (sb8 a z))
                      · exact .inr z
                      · exact .inl (.inr z)).trans k6
                  · obtain ⟨z1, z2⟩ := and2 z
                    have s6 : Sub H1 H6 := (((qq z).1.trans sub3).trans (hs5 z2)).trans (hq6 z1).s
                    have h1D : H1 D = none := (qq z).2 D k7
                    refine ⟨fun a o e => ?_, fun a w => ?_⟩
                    · rw [upd_ne fun e2 => by rw [e2, h1D] at e; cases e]
                      exact s6 a o e
                    · rcases w with w | w
                      · exact (qq z).2 a w
                      · exact (((qq z).1.trans sub3).trans (hs5 z2)).none ((hq6 z1).f a (sb7 a w))
      · have en : i = xs.length := by omega
        subst en
        rw [List.drop_length, cLoop] at hc
        have hc : .ok os ro2 = r := by rw [← hc]; simp [ahead]
        subst hc
        refine .inl ⟨itf.stop H2 sB, ?_⟩
        simp only [cEnd] at hh
        obtain ⟨B, r1, r2⟩ := RS.unwipe (old := ro0) (σ := σ) S2.rs (fun p hp => (quietOwn_of S1.rs hown p hp).imp_right fun ⟨x, v, e1, e2, e3⟩ => ⟨x, v, e1, e2, Dq.mono st2.fr _ _ e3⟩) (by rw [S1.rs.len, S2.rs.len, wipe_length])
        rw [unwS_wipe] at r1
        refine hh (.ref D) F2 H2 B T ((st.trans st2).weak fun a z => z.imp_left (r2 a)) ⟨r1, S2.sub⟩ ⟨hL, fun a z w => dj a z (r2 a w)⟩ fun z => ?_
        obtain ⟨z1, z2⟩ := hqt z
        exact ⟨(hq z1).trans (qq z2).1, fun a w => (hq z1).none ((qq z2).2 a w)⟩
  · exact hh.elim
theorem e_comp (ok : XOk g c k W X) {q : Bool} {own : List (Str × Nat)} {elt tg it ifs : CE} (iE : Snd g elt) (iI : Snd g it) (iB : Snd g ifs) {e : Expr} (h : chk c (.comp q own elt tg it ifs) e = true) :
    PE X e (rdE g W (qt (.comp q own elt tg it ifs)) (ev g.G (.comp q own elt tg it ifs))) := by
  simp only [chk] at h
  split at h
  · rename_i e' t' i' ifs' scope pos
    simp only [Bool.and_eq_true] at h
    obtain ⟨⟨⟨⟨⟨⟨⟨⟨h1, h0⟩, h2⟩, h3⟩, h4⟩, h5⟩, h6⟩, h7⟩, h8⟩ := h
    have hcalm : X.calm = true := by rw [ok.calm]; exact h1
    obtain ⟨hs0, hf0⟩ := ok.stk0 h0
    refine ⟨fun pins s σ H Q I ⟨F, A, ro, S, hh⟩ => ?_⟩
    refine (pe_lcX (W := W) (wi := rdI g W (qt it) (!q) (evI g.G (!q) it)) (g := rdG g tg) (tt := fun σ => rdB g (fun cls d _ H' => W cls d σ H') (qt ifs) (evB g.G ifs)) (te := fun σ => rdE g (fun cls d _ H' => W cls d σ H') (qt elt) (ev g.G elt)) (own := own) hs0 hf0 ok.tk hcalm (by rw [ok.hN]; exact ok.nd) (iI.I _ ok h2)
      (by rw [ok.hN, ok.sc]; exact blkOk_by h4) (fun s H C cl fp xe => g_all (ok.blkX s H C cl fp scope xe takes_none5) h1 tg h6) (fun σ s H C cl fp xe tk => iB.D (ok.blkX s H C cl fp scope xe tk) h7) (fun σ s H C cl fp xe tk => iE.E (ok.blkX s H C cl fp scope xe tk) h8) (fun x => fold_of h3 x)).run pins s σ H Q I ?_
    refine comp_red (W := W) (W2 := fun cls d _ H' => W cls d σ H') h5 ⟨F, A, ro, S, hh, fun _ _ cls d σ' H' w => w⟩
  · cases h
/-- within another comprehension's block: no exception leaves -/
theorem e_nox (ok : XOk g c k W X) {a : CE} (sn : ∀ q own elt tg it ifs, a = .comp q own elt tg it ifs → Snd g elt ∧ Snd g it ∧ Snd g ifs) {e : Expr} (h : chk c (.nox a) e = true) :
    PE X e (rdE g W (qt (.nox a)) (ev g.G (.nox a))) := by
  cases a <;> try (simp only [chk] at h; cases h; done)
  rename_i q own elt tg it ifs
  obtain ⟨iE, iI, iB⟩ := sn _ _ _ _ _ _ rfl
  simp only [chk] at h
  split at h
  · rename_i e' t' i' ifs' scope pos
    simp only [Bool.and_eq_true] at h
    obtain ⟨⟨⟨⟨⟨⟨⟨h1, h2⟩, h3⟩, h4⟩, h5⟩, h6⟩, h7⟩, h8⟩ := h
    have hcalm : X.calm = true := by rw [ok.calm]; exact h1
    refine ⟨fun pins s σ H Q I ⟨F, A, ro, S, hh⟩ => ?_⟩
    have qq : ev g.G (.nox (.comp q own elt tg it ifs)) ro = (match ev g.G (.comp q own elt tg it ifs) ro with | .exc _ _ => .stuck | r => r) := by rw [ev] <;> rfl
    rw [qq] at hh
    refine (pe_lc (wi := rdI g W (qt it) (!q) (evI g.G (!q) it)) (g := rdG g tg) (tt := rdB g (fun _ _ _ _ => False) (qt ifs) (evB g.G ifs)) (te := rdE g (fun _ _ _ _ => False) (qt elt) (ev g.G elt)) (own := own) hcalm (by rw [ok.hN]; exact ok.nd) (iI.I _ ok h2)
      (by rw [ok.hN, ok.sc]; exact blkOk_by h4) (fun s H C cl fp => g_all (ok.blk s H C cl fp scope) h1 tg h6) (fun s H C cl fp => iB.D (ok.blk s H C cl fp scope) h7) (fun s H C cl fp => iE.E (ok.blk s H C cl fp scope) h8) (fun x => fold_of h3 x)).run pins s σ H Q I ?_
    cases r : ev g.G (.comp q own elt tg it ifs) ro with
    | stuck => rw [r] at hh; exact hh.elim
    | exc x ro' => rw [r] at hh; exact hh.elim
    | ok hd ro' =>
      refine comp_red (W := W) (W2 := fun _ _ _ _ => False) h5 ⟨F, A, ro, S, ?_, fun ⟨x, r', z⟩ => by rw [r] at z; cases z⟩
      rw [r] at hh ⊢
      exact hh
  · cases h
end
end Lw

set_option maxRecDepth 100000
set_option maxHeartbeats 1000000
/-! Lw13: all expressions. -/
namespace Lw
open PySem L2 RZ
section
variable {g : Gx} {c : CC} {k : Nat} {W : WX} {X : Cx}
section
variable {K : PySem.W.Frag} {cl : Str → Option Addr} {F F2 H : Hp}
theorem Dq.scal {x : PyData} {v : V} (h : Dq K F2 v x) (e : scalD x = true) : Dq K F v x := by
  cases h with
  | non => exact .non
  | bl b => exact .bl b
  | int i => exact .int i
  | str x => exact .str x
  | lst _ _ => cases e
  | tup _ _ => cases e
theorem ORs.unfrz : ∀ {os : List O} {vs : List V} {A : AS}, ORs K cl F2 H os vs A → (os.all fun o => match o with | .d x => scalD x | _ => false) = true → ORs K cl F H os vs A
  | _, _, _, .nil, _ => .nil
  | _, _, _, .cons (o := o) a b n, e => by
    rw [List.all_cons, Bool.and_eq_true] at e
    refine .cons ?_ (ORs.unfrz b e.2) n
    cases a with
    | d h => exact .d (Dq.scal h e.1)
    | scr h => cases e.1
    | dk _ _ _ _ _ => cases e.1
    | dt _ _ _ _ _ => cases e.1
    | ins _ _ _ _ _ => cases e.1
    | lst _ _ _ _ => cases e.1
theorem OR.unfrz {o : O} {v : V} {A : AS} (h : OR K cl F2 H o v A) (e : flatO o = true) (s : Sub F F2) : OR K cl F H o v A := by
  cases h with
  | d h => exact .d (Dq.scal h e)
  | scr h => cases e
  | dk _ _ _ _ _ => cases e
  | dt _ _ _ _ _ => cases e
  | ins _ _ _ _ _ => cases e
  | lst h1 h2 h3 h4 =>
    refine .lst h1 ?_ h3 (s.none h4)
    simp only [flatO] at e
    exact ORs.unfrz h2 e
end
theorem e_share (ok : XOk g c k W X) {i : Nat} {a : CE} (ia : Snd g a) {e : Expr} (h : chk c (.share i a) e = true) : PE X e (rdE g W (qt (.share i a)) (ev g.G (.share i a))) := by
  simp only [chk] at h
  replace h := (and2 h).2
  refine ⟨fun pins s σ H Q I ⟨F, A, ro, S, hh⟩ => ?_⟩
  simp only [ev] at hh
  split at hh
  · rename_i o ho
    split at hh
    · rename_i x hx
      split at hh
      · rename_i hq
        obtain ⟨v0, F1, A1, k1, k2, S1, st1⟩ := S.freezeSlot ho hx
        refine (ia.E ok h).run pins s σ H Q I ⟨F1, A1, _, S1, ?_⟩
        cases r : ev g.G a (ro.set i (some (.d x))) with
        | stuck => rw [r] at hh; exact hh.elim
        | exc x r2 => rw [r] at hh; exact hh.elim
        | ok hd ro1 =>
          rw [r] at hh
          simp only [Out.fin] at hh
          intro v F2 H2 A2 Ao st S2 hv hqq
          have q := hqq hq
          split at hh
          · rename_i o
            split at hh
            · rename_i hf
              have fr : ∀ a, A a → H2 a = H a := fun a z => by
                cases e : H a with
                | none => exact absurd e (S.rs.own a z).2
                | some o => exact q.s a o e
              refine hh v F H2 A Ao ⟨.refl _, fun a o e _ => q.s a o e, fun a z => .inl z, fun a z => z.elim .inl fun z => .inr (q.f a z)⟩ ⟨S.rs.frame (.refl _) fr fun a z => (S.rs.own a z).1, S.sub.trans q.s⟩ ⟨hv.1.unfrz hf (st1.fr.trans st.fr), fun a z w => (S.rs.own a w).2 (q.f a z)⟩ fun _ => q
            · exact hh.elim
          · exact hh.elim
      · exact hh.elim
    · exact hh.elim
  · exact hh.elim
theorem tests_cons {a as : CE} (ia : Snd g a) : ∀ {c : CC} {k : Nat} {W : WX} {X : Cx}, XOk g c k W X → ∀ {es : List Expr}, chks c (.cons a as) es = true → PTs X es (rdB g W (qt (.cons a as)) (evB g.G (.cons a as))) := by
  intro c k W X ok es h
  exact pts_of ok (fun b e => by cases e; exact ia) h
theorem tests_nil : ∀ {c : CC} {k : Nat} {W : WX} {X : Cx}, XOk g c k W X → ∀ {es : List Expr}, chks c .nil es = true → PTs X es (rdB g W (qt .nil) (evB g.G .nil)) := by
  intro c k W X ok es h
  exact pts_of ok (fun b e => by cases e) h
theorem no {a : Bool} {P : Prop} (e : a = false) (h : a = true) : P := by rw [e] at h; cases h
/-- an expression's statement, by its value and its test -/
theorem Snd.of {ce : CE} (hE : ∀ {c : CC} {k : Nat} {W : WX} {X : Cx}, XOk g c k W X → ∀ {e : Expr}, chk c ce e = true → PE X e (rdE g W (qt ce) (ev g.G ce)))
    (hT : ∀ {c : CC} {k : Nat} {W : WX} {X : Cx}, XOk g c k W X → ∀ {e : Expr}, chk c ce e = true → PT X e (rdT g W (qt ce) (ev g.G ce)))
    (hB : ∀ (c : CC) op es pos, chk c ce (.BoolOp op es pos) = false := by intros; rfl) (hL : ∀ (c : CC) es, chks c ce es = false := by intros; rfl) (hO : ∀ (c : CC) e, chkO c ce e = false := by intros; rfl) (hI : ∀ (c : CC) tg e, chkI c ce tg e = false := by intros; rfl) : Snd g ce where
  E := hE
  T := hT
  B := by intro c k W X ok op es pos h; exact no (hB _ _ _ _) h
  L := by intro c k W X ok es h; exact no (hL _ _) h
  O := by intro c k W X ok e h; exact no (hO _ _) h
  I := by intro c k W X z ok tg e h; exact no (hI _ _ _) h
  D := by intro c k W X ok es h; exact no (hL _ _) h
/-- .. tested by its value -/
theorem Snd.pl {ce : CE} (hE : ∀ {c : CC} {k : Nat} {W : WX} {X : Cx}, XOk g c k W X → ∀ {e : Expr}, chk c ce e = true → PE X e (rdE g W (qt ce) (ev g.G ce)))
    (hp : ∀ (c : CC) (e : Expr), chk c ce e = true → testPlain e = true := by intro c e h; simp only [chk] at h; split at h <;> first | rfl | cases h)
    (hB : ∀ (c : CC) op es pos, chk c ce (.BoolOp op es pos) = false := by intros; rfl) (hL : ∀ (c : CC) es, chks c ce es = false := by intros; rfl) (hO : ∀ (c : CC) e, chkO c ce e = false := by intros; rfl) (hI : ∀ (c : CC) tg e, chkI c ce tg e = false := by intros; rfl) : Snd g ce :=
  .of hE (by intro c k W X ok e h; exact pt_of (hE ok h) (hp c e h)) hB hL hO hI
/-- .. a chain of and, or -/
theorem Snd.bo {ce : CE} (hE : ∀ {c : CC} {k : Nat} {W : WX} {X : Cx}, XOk g c k W X → ∀ {e : Expr}, chk c ce e = true → PE X e (rdE g W (qt ce) (ev g.G ce)))
    (hB : ∀ {c : CC} {k : Nat} {W : WX} {X : Cx}, XOk g c k W X → ∀ {op : BoolOp} {es : List Expr} {pos : Pos}, chk c ce (.BoolOp op es pos) = true → PW X (.BoolOp op es pos) (rdT g W (qt ce) (ev g.G ce)))
    (hf : ∀ (c : CC) (e : Expr), chk c ce e = true → ∃ op es pos, e = .BoolOp op es pos := by intro c e h; simp only [chk] at h; split at h <;> first | exact ⟨_, _, _, rfl⟩ | cases h)
    (hL : ∀ (c : CC) es, chks c ce es = false := by intros; rfl) (hO : ∀ (c : CC) e, chkO c ce e = false := by intros; rfl) (hI : ∀ (c : CC) tg e, chkI c ce tg e = false := by intros; rfl) : Snd g ce where
  E := hE
  T := by
    intro c k W X ok e h
    obtain ⟨op, es, pos, rfl⟩ := hf c e h
    exact (hB ok h).pt
  B := hB
  L := by intro c k W X ok es h; exact no (hL _ _) h
  O := by intro c k W X ok e h; exact no (hO _ _) h
  I := by intro c k W X z ok tg e h; exact no (hI _ _ _) h
  D := by intro c k W X ok es h; exact no (hL _ _) h
/-- what a loop walks -/
theorem Snd.iter {ce : CE} (hI : ∀ (z : Bool) {c : CC} {k : Nat} {W : WX} {X : Cx}, XOk g c k W X → ∀ {tg e : Expr}, chkI c ce tg e = true → PI X tg e (rdI g W (qt ce) z (evI g.G z ce)))
    (hE : ∀ (c : CC) e, chk c ce e = false := by intros; rfl) (hL : ∀ (c : CC) es, chks c ce es = false := by intros; rfl) (hO : ∀ (c : CC) e, chkO c ce e = false := by intros; rfl) : Snd g ce where
  E := by intro c k W X ok e h; exact no (hE _ _) h
  T := by intro c k W X ok e h; exact no (hE _ _) h
  B := by intro c k W X ok op es pos h; exact no (hE _ _) h
  L := by intro c k W X ok es h; exact no (hL _ _) h
  O := by intro c k W X ok e h; exact no (hO _ _) h
  I := by intro c k W X z ok tg e h; exact hI z ok h
  D := by intro c k W X ok es h; exact no (hL _ _) h
/-- arguments -/
theorem Snd.args {ce : CE} (hL : ∀ {c : CC} {k : Nat} {W : WX} {X : Cx}, XOk g c k W X → ∀ {es : List Expr}, chks c ce es = true → PA X es (rdA g W (qt ce) (evs g.G ce)))
    (hO : ∀ {c : CC} {k : Nat} {W : WX} {X : Cx}, XOk g c k W X → ∀ {e : Option Expr}, chkO c ce e = true → PO X e (tOof (rdA g W (qt ce) (evs g.G ce))))
    (hD : ∀ {c : CC} {k : Nat} {W : WX} {X : Cx}, XOk g c k W X → ∀ {es : List Expr}, chks c ce es = true → PTs X es (rdB g W (qt ce) (evB g.G ce)))
    (hE : ∀ (c : CC) e, chk c ce e = false := by intros; rfl) (hI : ∀ (c : CC) tg e, chkI c ce tg e = false := by intros; rfl) : Snd g ce where
  E := by intro c k W X ok e h; exact no (hE _ _) h
  T := by intro c k W X ok e h; exact no (hE _ _) h
  B := by intro c k W X ok op es pos h; exact no (hE _ _) h
  L := hL
  O := hO
  I := by intro c k W X z ok tg e h; exact no (hI _ _ _) h
  D := hD
end
end Lw

set_option maxRecDepth 100000
set_option maxHeartbeats 1000000
/-! Lw14: a tree rewritten at a place within. -/
namespace Lw
open PySem L2 RZ
section
variable {K : PySem.W.Frag} {cl : Str → Option Addr} {F H : Hp}
/-- one of a list of trees taken out, and another put -/
theorem ORs.split : ∀ {os : List O} {vs : List V} {A : AS} {k : Nat} {o : O} {v : V}, ORs K cl F H os vs A → os[k]? = some o → vs[k]? = some v →
    ∃ B C : AS, OR K cl F H o v B ∧ (∀ a, A a ↔ B a ∨ C a) ∧ (∀ a, B a → C a → False) ∧
      ∀ (H' : Hp) (o' : O) (B' : AS), OR K cl F H' o' v B' → (∀ a, C a → H' a = H a) → (∀ a, B' a → C a → False) → ORs K cl F H' (os.set k o') vs (fun a => B' a ∨ C a)
  | _, _, _, _, _, _, .nil, e, _ => by simp at e
  | _, _, _, 0, _, _, .cons (A := A) (B := B) h t n, e, e2 => by
    simp at e e2; subst e; subst e2
    refine ⟨A, B, h, fun a => Iff.rfl, n, fun H' o' B' h' fr dj => ?_⟩
    rw [List.set_cons_zero]
    exact .cons h' (t.frame (.refl _) fr fun a z => (t.own a z).1) dj
  | _, _, _, k + 1, o, v, .cons (A := A) (B := B) h t n, e, e2 => by
    obtain ⟨B1, C1, k1, k2, k3, k4⟩ := ORs.split (k := k) (o := o) (v := v) t (by simpa using e) (by simpa using e2)
    refine ⟨B1, fun a => A a ∨ C1 a, k1, fun a => ?_, fun a x y => ?_, fun H' o' B' h' fr dj => ?_⟩
    · constructor
      · rintro (z | z)
        · exact .inr (.inl z)
        · rcases (k2 a).mp z with z | z
          · exact .inl z
          · exact .inr (.inr z)
      · rintro (z | z | z)
        · exact .inr ((k2 a).mpr (.inl z))
        · exact .inl z
        · exact .inr ((k2 a).mpr (.inr z))
    · rcases y with y | y
      · exact n a y ((k2 a).mpr (.inl x))
      · exact k3 a x y
    · rw [List.set_cons_succ]
      have t' := k4 H' o' B' h' (fun a z => fr a (.inr z)) fun a x y => dj a x (.inr y)
      refine (ORs.cons (h.frame (.refl _) (fun a z => fr a (.inl z)) fun a z => (h.own a z).1) t' fun a x y => ?_).cast fun a => ?_
      · rcases y with y | y
        · exact dj a y (.inl x)
        · exact n a x ((k2 a).mpr (.inr y))
      · constructor
        · rintro (z | z | z)
          · exact .inr (.inl z)
          · exact .inl z
          · exact .inr (.inr z)
        · rintro (z | z | z)
          · exact .inr (.inl z)
          · exact .inl z
          · exact .inr (.inr z)
theorem ORs.splitN : ∀ {fs : List (Str × V)} {os : List O} {A : AS} {m : Str} {o : O} {v : V}, ORs K cl F H os (fs.map (·.2)) A → Lw.getN (fs.map (·.1)) os m = some o → fs.lookup m = some v →
    ∃ B C : AS, OR K cl F H o v B ∧ (∀ a, A a ↔ B a ∨ C a) ∧ (∀ a, B a → C a → False) ∧
      ∀ (H' : Hp) (o' : O) (B' : AS), OR K cl F H' o' v B' → (∀ a, C a → H' a = H a) → (∀ a, B' a → C a → False) → ORs K cl F H' (setN (fs.map (·.1)) os m o') (fs.map (·.2)) (fun a => B' a ∨ C a)
  | [], _, _, _, _, _, h, e, _ => by rw [List.map_nil, Lw.getN] at e; cases e; intros; contradiction
  | (n, w) :: fs, os, A, m, o, v, h, e, e2 => by
    rw [List.map_cons] at h e
    cases h with
    | @cons o0 os0 _ _ A0 B0 h t n2 =>
      rw [Lw.getN] at e
      rw [List.lookup_cons] at e2
      split at e
      · rename_i hn
        have hn : n = m := hn
        cases e
        subst hn
        simp at e2
        subst e2
        refine ⟨A0, B0, h, fun a => Iff.rfl, n2, fun H' o' B' h' fr dj => ?_⟩
        rw [List.map_cons, List.map_cons, setN, if_pos rfl]
        exact .cons h' (t.frame (.refl _) fr fun a z => (t.own a z).1) dj
      · rename_i hn
        have hb : (m == n) = false := beq_eq_false_iff_ne.mpr fun z => hn z.symm
        rw [hb] at e2
        obtain ⟨B1, C1, k1, k2, k3, k4⟩ := ORs.splitN t e e2
        refine ⟨B1, fun a => A0 a ∨ C1 a, k1, fun a => ?_, fun a x y => ?_, fun H' o' B' h' fr dj => ?_⟩
        · constructor
          · rintro (z | z)
            · exact .inr (.inl z)
            · rcases (k2 a).mp z with z | z
              · exact .inl z
              · exact .inr (.inr z)
          · rintro (z | z | z)
            · exact .inr ((k2 a).mpr (.inl z))
            · exact .inl z
            · exact .inr ((k2 a).mpr (.inr z))
        · rcases y with y | y
          · exact n2 a y ((k2 a).mpr (.inl x))
          · exact k3 a x y
        · have hs : setN (((n, w) :: fs).map (·.1)) (o0 :: os0) m o' = o0 :: setN (fs.map (·.1)) os0 m o' := by
            rw [List.map_cons, setN, if_neg hn]
          rw [hs, List.map_cons]
          have t' := k4 H' o' B' h' (fun a z => fr a (.inr z)) fun a x y => dj a x (.inr y)
          refine (ORs.cons (h.frame (.refl _) (fun a z => fr a (.inl z)) fun a z => (h.own a z).1) t' fun a x y => ?_).cast fun a => ?_
          · rcases y with y | y
            · exact dj a y (.inl x)
            · exact n2 a x ((k2 a).mpr (.inr y))
          · constructor
            · rintro (z | z | z)
              · exact .inr (.inl z)
              · exact .inl z
              · exact .inr (.inr z)
            · rintro (z | z | z)
              · exact .inr (.inl z)
              · exact .inl z
              · exact .inr (.inr z)
theorem setN_names : ∀ (ns : List Str) (os : List O) (m : Str) (x : O), (setN ns os m x).length = os.length
  | [], os, m, x => by cases os <;> rfl
  | n :: ns, [], m, x => rfl
  | n :: ns, o :: os, m, x => by
    rw [setN]
    split
    · rfl
    · rw [List.length_cons, List.length_cons, setN_names]
/-- a tree rewritten at a place -/
theorem OR.updAt : ∀ {p : List Sel} {o s : O} {v0 v : V} {A : AS}, OR K cl F H o v0 A → O.walk p o = some s → WalkV H v0 p v →
    ∃ B C : AS, OR K cl F H s v B ∧ (∀ a, A a ↔ B a ∨ C a) ∧ (∀ a, B a → C a → False) ∧
      ∀ (H' : Hp) (s' : O) (B' : AS), OR K cl F H' s' v B' → (∀ a, C a → H' a = H a) → (∀ a, B' a → C a → False) → ∃ o', O.put p s' o = some o' ∧ OR K cl F H' o' v0 (fun a => B' a ∨ C a)
  | [], o, s, v0, v, A, h, e, w => by
    rw [O.walk] at e
    cases e
    cases w
    refine ⟨A, fun _ => False, h, fun a => by simp, fun _ _ z => z, fun H' s' B' h' _ _ => ⟨s', by rw [O.put], h'.cast fun a => by simp⟩⟩
  | .i k :: p, o, s, v0, v, A, h, e, ⟨v1, ⟨a0, vs, hv0, hH, hk⟩, w2⟩ => by
    rw [O.walk] at e
    subst hv0
    cases h with
    | @lst _ vs' os A0 h1 h2 h3 h4 =>
      rw [hH] at h1
      cases h1
      simp only [O.sel] at e
      cases q : os[k]? with
      | none => rw [q] at e; cases e
      | some o1 =>
        rw [q] at e
        obtain ⟨B1, C1, k1, k2, k3, k4⟩ := h2.split q hk
        obtain ⟨B, C2, j1, j2, j3, j4⟩ := OR.updAt k1 e w2
        refine ⟨B, fun a => a = a0 ∨ (C1 a ∨ C2 a), j1, fun a => ?_, fun a x y => ?_, fun H' s' B' h' fr dj => ?_⟩
        · constructor
          · rintro (z | z)
            · exact .inr (.inl z)
            · rcases (k2 a).mp z with z | z
              · rcases (j2 a).mp z with z | z
                · exact .inl z
                · exact .inr (.inr (.inr z))
              · exact .inr (.inr (.inl z))
          · rintro (z | z | z | z)
            · exact .inr ((k2 a).mpr (.inl ((j2 a).mpr (.inl z))))
            · exact .inl z
            · exact .inr ((k2 a).mpr (.inr z))
            · exact .inr ((k2 a).mpr (.inl ((j2 a).mpr (.inr z))))
        · rcases y with y | y | y
          · subst y; exact h3 ((k2 _).mpr (.inl ((j2 _).mpr (.inl x))))
          · exact k3 a ((j2 a).mpr (.inl x)) y
          · exact j3 a x y
        · obtain ⟨o', p1, p2⟩ := j4 H' s' B' h' (fun a z => fr a (.inr (.inr z))) fun a x y => dj a x (.inr (.inr y))
          have r := k4 H' o' _ p2 (fun a z => fr a (.inr (.inl z))) fun a x y => by
            rcases x with x | x
            · exact dj a x (.inr (.inl y))
            · exact k3 a ((j2 a).mpr (.inr x)) y
          refine ⟨.lst (os.set k o'), by simp only [O.put, q, p1], (OR.lst ((fr a0 (.inl rfl)).trans hH) r (fun z => ?_) h4).cast fun a => ?_⟩
          · rcases z with (z | z) | z
            · exact dj a0 z (.inl rfl)
            · exact h3 ((k2 _).mpr (.inl ((j2 _).mpr (.inr z))))
            · exact h3 ((k2 _).mpr (.inr z))
          · constructor
            · rintro (z | (z | z) | z)
              · exact .inr (.inl z)
              · exact .inl z
              · exact .inr (.inr (.inr z))
              · exact .inr (.inr (.inl z))
            · rintro (z | z | z | z)
              · exact .inr (.inl (.inl z))
              · exact .inl z
              · exact .inr (.inr z)
              · exact .inr (.inl (.inr z))
    | d _ => simp only [O.sel] at e; cases e
    | scr _ => simp only [O.sel] at e; cases e
    | dk _ _ _ _ _ => simp only [O.sel] at e; cases e
    | dt _ _ _ _ _ => simp only [O.sel] at e; cases e
    | ins _ _ _ _ _ => simp only [O.sel] at e; cases e
  | .f n :: p, o, s, v0, v, A, h, e, ⟨v1, ⟨a0, C0, dx, fs, hv0, hH, hk⟩, w2⟩ => by
    rw [O.walk] at e
    subst hv0
    cases h with
    | @ins _ C' dx' c fs' os A0 h1 hc h2 h3 h4 =>
      rw [hH] at h1
      cases h1
      simp only [O.sel] at e
      cases q : getN (fs.map (·.1)) os n with
      | none => rw [q] at e; cases e
      | some o1 =>
        rw [q] at e
        obtain ⟨B1, C1, k1, k2, k3, k4⟩ := h2.splitN q hk
        obtain ⟨B, C2, j1, j2, j3, j4⟩ := OR.updAt k1 e w2
        refine ⟨B, fun a => a = a0 ∨ (C1 a ∨ C2 a), j1, fun a => ?_, fun a x y => ?_, fun H' s' B' h' fr dj => ?_⟩
        · constructor
          · rintro (z | z)
            · exact .inr (.inl z)
            · rcases (k2 a).mp z with z | z
              · rcases (j2 a).mp z with z | z
                · exact .inl z
                · exact .inr (.inr (.inr z))
              · exact .inr (.inr (.inl z))
          · rintro (z | z | z | z)
            · exact .inr ((k2 a).mpr (.inl ((j2 a).mpr (.inl z))))
            · exact .inl z
            · exact .inr ((k2 a).mpr (.inr z))
            · exact .inr ((k2 a).mpr (.inl ((j2 a).mpr (.inr z))))
        · rcases y with y | y | y
          · subst y; exact h3 ((k2 _).mpr (.inl ((j2 _).mpr (.inl x))))
          · exact k3 a ((j2 a).mpr (.inl x)) y
          · exact j3 a x y
        · obtain ⟨o', p1, p2⟩ := j4 H' s' B' h' (fun a z => fr a (.inr (.inr z))) fun a x y => dj a x (.inr (.inr y))
          have r := k4 H' o' _ p2 (fun a z => fr a (.inr (.inl z))) fun a x y => by
            rcases x with x | x
            · exact dj a x (.inr (.inl y))
            · exact k3 a ((j2 a).mpr (.inr x)) y
          refine ⟨.ins c (fs.map (·.1)) (setN (fs.map (·.1)) os n o'), by simp only [O.put, q, p1], (OR.ins ((fr a0 (.inl rfl)).trans hH) hc r (fun z => ?_) h4).cast fun a => ?_⟩
          · rcases z with (z | z) | z
            · exact dj a0 z (.inl rfl)
            · exact h3 ((k2 _).mpr (.inl ((j2 _).mpr (.inr z))))
            · exact h3 ((k2 _).mpr (.inr z))
          · constructor
            · rintro (z | (z | z) | z)
              · exact .inr (.inl z)
              · exact .inl z
              · exact .inr (.inr (.inr z))
              · exact .inr (.inr (.inl z))
            · rintro (z | z | z | z)
              · exact .inr (.inl (.inl z))
              · exact .inl z
              · exact .inr (.inr z)
              · exact .inr (.inl (.inr z))
    | d _ => simp only [O.sel] at e; cases e
    | scr _ => simp only [O.sel] at e; cases e
    | dk _ _ _ _ _ => simp only [O.sel] at e; cases e
    | dt _ _ _ _ _ => simp only [O.sel] at e; cases e
    | lst _ _ _ _ => simp only [O.sel] at e; cases e
  | .k _ :: p, o, s, v0, v, A, h, e, ⟨v1, w1, w2⟩ => w1.elim
/-- a slot's tree rewritten at a place -/
theorem SR.updAt {A : AS} {ro : Ro} {σ : L2.St} {i : Nat} {o s : O} {p : List Sel} {v0 v : V} (S : SR K cl F A ro σ H) (hi : ro[i]? = some (some o)) (hs : σ[i]? = some (some v0)) (hw : O.walk p o = some s) (w : WalkV H v0 p v) :
    ∃ B C : AS, OR K cl F H s v B ∧ (∀ a, A a ↔ B a ∨ C a) ∧ (∀ a, B a → C a → False) ∧
      ∀ (H' : Hp) (s' : O) (B' : AS), OR K cl F H' s' v B' → (∀ a, C a → H' a = H a) → (∀ a, B' a → C a → False) → Sub F H' → ∃ o', O.put p s' o = some o' ∧ SR K cl F (fun a => B' a ∨ C a) (ro.set i (some o')) σ H' := by
  obtain ⟨v1, Ai, B0, h1, h2, h3, h4, h5⟩ := S.rs.out hi
  rw [hs] at h1
  cases h1
  obtain ⟨B, C, k1, k2, k3, k4⟩ := h2.updAt hw w
  refine ⟨B, fun a => C a ∨ B0 a, k1, fun a => ?_, fun a x y => ?_, fun H' s' B' h' fr dj sb => ?_⟩
  · constructor
    · intro z
      rcases (h5 a).mp z with z | z
      · rcases (k2 a).mp z with z | z
        · exact .inl z
        · exact .inr (.inl z)
      · exact .inr (.inr z)
    · rintro (z | z | z)
      · exact (h5 a).mpr (.inl ((k2 a).mpr (.inl z)))
      · exact (h5 a).mpr (.inl ((k2 a).mpr (.inr z)))
      · exact (h5 a).mpr (.inr z)
  · rcases y with y | y
    · exact k3 a x y
    · exact h4 a ((k2 a).mpr (.inl x)) y
  · obtain ⟨o', p1, p2⟩ := k4 H' s' B' h' (fun a z => fr a (.inl z)) fun a x y => dj a x (.inl y)
    have hl : i < ro.length := (List.getElem?_eq_some_iff.mp hi).1
    have r := (h3.frame (F' := F) (H' := H') (.refl _) (fun a z => fr a (.inr z)) fun a z => (h3.own a z).1).put (i := i) (o := o') (v := v0) (by rw [List.getElem?_set_self hl]) p2 (fun a x y => by
      rcases x with x | x
      · exact dj a x (.inr y)
      · exact h4 a ((k2 a).mpr (.inr x)) y)
    rw [List.set_set] at r
    have es : σ.set i (some v0) = σ := set_self hs
    rw [es] at r
    exact ⟨o', p1, r.cast fun a => by
      constructor
      · rintro (z | z | z)
        · exact .inr (.inr z)
        · exact .inl z
        · exact .inr (.inl z)
      · rintro (z | z | z)
        · exact .inr (.inl z)
        · exact .inr (.inr z)
        · exact .inl z, sb⟩
end
end Lw

set_option maxRecDepth 100000
set_option maxHeartbeats 1000000
/-! LwR: a tuple's items from the right, t[::-1]. -/
namespace Lw
open PySem PySem.Spec PyProof.Rows L2
theorem fm_congr {α β : Type} {f g : α → Option β} : ∀ l : List α, (∀ x ∈ l, f x = g x) → l.filterMap f = l.filterMap g
  | [], _ => rfl
  | x :: l, h => by
    rw [List.filterMap_cons, List.filterMap_cons, h x (by simp), fm_congr l fun y hy => h y (List.mem_cons_of_mem _ hy)]
section
variable {prog : Program} {w : World} {A : Around} {E : Value → Shared → Prop} {s : Shared}
theorem adjust_rev (n : Nat) : Builtin.Slice.sliceAdjust none none (-1) (n : Int) = ((n : Int) - 1, -1) := by
  unfold Builtin.Slice.sliceAdjust
  simp
theorem places_rev (n : Nat) : Builtin.Slice.slicePlaces ((n : Int) - 1) (-1) (-1) = n := by
  unfold Builtin.Slice.slicePlaces
  have h1 : ¬ ((-1 : Int) > 0) := by decide
  simp only [h1, if_false]
  split
  · have e : ((n : Int) - 1 - -1 - 1) / (- -1) = (n : Int) - 1 := by
      rw [show (- -1 : Int) = 1 by decide, Int.ediv_one]
      omega
    rw [e]
    omega
  · simp
    omega
theorem sliceApplied_rev {sl : Addr} {vl vu vs : Value} {n : Nat} {Q : Int × Int × Nat → Shared → Prop} (hs : s.heap.IsSliceOf sl vl vu vs) (pl : IsPart vl none) (pu : IsPart vu none) (ps : IsPart vs (some (-1))) (h : Q ((n : Int) - 1, -1, n) s) :
    wpAny (model prog w) A (Builtin.Slice.sliceApplied (.ref sl) (pure (n : Int))) Q E s := by
  obtain ⟨os, hos, hcs, hds⟩ := id hs
  unfold Builtin.Slice.sliceApplied Builtin.Slice.sliceFields
  refine wpAny_bind (wpAny_bind (wpAny_field hos hds (x := vl) rfl (wpAny_bind (wpAny_field hos hds (x := vu) rfl (wpAny_bind (wpAny_field hos hds (x := vs) rfl (wpAny_pure ?_)))))))
  refine wpAny_bind (HT.slicePart_ ps ?_)
  show wpAny _ _ (if ((-1 : Int) == 0) = true then _ else _) _ _ s
  rw [if_neg (by decide)]
  refine wpAny_bind (HT.slicePart_ pl (wpAny_bind (HT.slicePart_ pu (wpAny_bind (wpAny_pure ?_)))))
  show wpAny _ _ (match Builtin.Slice.sliceAdjust none none (-1) (n : Int) with | (lo, hi) => pure (lo, (-1 : Int), Builtin.Slice.slicePlaces lo hi (-1))) _ _ s
  rw [adjust_rev n]
  show wpAny _ _ (pure ((n : Int) - 1, (-1 : Int), Builtin.Slice.slicePlaces ((n : Int) - 1) (-1) (-1))) _ _ s
  rw [places_rev]
  exact wpAny_pure h
theorem pick_rev (xs : Array Value) : ((List.range xs.size).filterMap fun (m : Nat) => xs[((xs.size : Int) - 1 + (m : Int) * (-1)).toNat]?).toArray = xs.toList.reverse.toArray := by
  have e : (List.range xs.size).filterMap (fun (m : Nat) => xs[((xs.size : Int) - 1 + (m : Int) * (-1)).toNat]?) = ((List.range xs.size).map fun k => xs.size - 1 - k).filterMap (xs[·]?) := by
    rw [List.filterMap_map]
    refine fm_congr _ fun m hm => ?_
    have := List.mem_range.mp hm
    have e2 : ((xs.size : Int) - 1 + (m : Int) * (-1)).toNat = xs.size - 1 - m := by omega
    rw [e2] <;> rfl
  rw [e, PySem.W.krv_range, List.filterMap_reverse, PySem.W.krv_all]
theorem getItem_tuple_rev {t sl : Addr} {items : Array Value} {vl vu vs : Value} {Q : Value → Shared → Prop} (ht : IsTup s.heap t items) (hs : s.heap.IsSliceOf sl vl vu vs) (pl : IsPart vl none) (pu : IsPart vu none) (ps : IsPart vs (some (-1)))
    (h : Q (.ref s.heap.objs.size) { s with heap := s.heap.push { cls := .type "tuple", data := .seq items.toList.reverse.toArray } })
    (hsz : items.size ≤ sizeLine) : wpAny (model prog w) A (getItem (.ref t) (.ref sl)) Q E s := by
  have htake : sizeOk (.seq items.toList.reverse.toArray) := by
    show items.toList.reverse.toArray.size ≤ sizeLine
    rw [List.size_toArray, List.length_reverse, Array.length_toList]
    exact hsz
  obtain ⟨os, hos, hcs, hds⟩ := id hs
  have hTs : s.TypeIs (.ref sl) "slice" := ⟨os, hos, hcs⟩
  unfold getItem
  try with_reducible refine wpAny_holding ?_
  first | refine wpAny_bind (wpAny_pure ?_) | skip
  refine wpAny_bind (wpAny_sequenceKey ht.typeIs (by decide) ?_)
  refine wpAny_bind (wpAny_callSpecial?_slot (name := Str.ofString "__getitem__") ht.typeIs PyProof.Rows.slot_tuple_getitem
    (wpAny_call_entry PyProof.Rows.slot_tuple_getitem ht.typeIs entry_tuple_getitem ?_ (args_tuple_getitem _ _)))
  show wpAny _ _ (Builtin.Tuple.tupleItemsOf (.ref t) >>= _) _ _ s
  refine wpAny_bind (tupleItemsOf_ ht ?_)
  refine wpAny_bind (wpAny_typeOf hTs ?_)
  rw [if_pos (by decide)]
  refine wpAny_bind (sliceApplied_rev hs pl pu ps ?_)
  show wpAny _ _ (if (((items.size : Int) - 1) == 0 && (-1 : Int) == 1 && items.size == items.size) = true then _ else _) _ _ s
  have hno : ¬ ((((items.size : Int) - 1) == 0 && (-1 : Int) == 1 && items.size == items.size) = true) := by
    intro q
    rw [Bool.and_eq_true, Bool.and_eq_true] at q
    exact absurd (eq_of_beq q.1.2) (by decide)
  rw [if_neg hno, pick_rev]
  first
    | exact wpAny_bind (m := Builtin.Tuple.tupleExact _) (wpAny_newObj_type (wpAny_pure ⟨_, rfl, wpAny_pure h⟩) htake)
    | exact wpAny_bind (m := Builtin.Tuple.tupleExact _) (wpAny_newObj_type (wpAny_bind (wpAny_pure (wpAny_pure ⟨_, rfl, wpAny_pure h⟩))) htake)
    | exact wpAny_bind (wpAny_bind (m := Builtin.Tuple.tupleExact _) (wpAny_newObj_type (wpAny_pure (wpAny_pure ⟨_, rfl, wpAny_pure h⟩)) htake))
    | exact wpAny_bind (wpAny_bind (m := Builtin.Tuple.tupleExact _) (wpAny_newObj_type (wpAny_pure ⟨_, rfl, wpAny_pure h⟩) htake))
end
section
variable {X : Cx}
def tRevT (K : PySem.W.Frag) (te : TE) : TE := fun σ H Q => te σ H fun x H1 => ∃ a xs, x = .ref a ∧ SqT K H1 a xs ∧ ∀ p, H1 p = none → Q (.ref p) (upd H1 p (.tup xs.reverse))
theorem pe_revT {e : Expr} {te : TE} {k : Nat} {p1 p2 p3 pos : Pos} (he : PE X e te) : PE X (.Subscript e (.Slice none none (some (.UnaryOp .USub (.Constant (.int 1) k p1) p2)) p3) pos) (tRevT X.K te) := by
  refine ⟨fun pins s σ H Q I h => ?_⟩
  refine Subscript_ (thn (he.run pins s σ H _ I h) fun v s1 ⟨x, H1, I1, r1, q1⟩ => ?_)
  obtain ⟨a, xs, ex, hx, q⟩ := q1
  subst ex
  cases r1
  have hst : PO X (some (.UnaryOp .USub (.Constant (.int 1) k p1) p2)) (tPart (tUn (rU fun i => .int (-i)) (tC (.int 1)))) := po_some (pe_un un_neg pe_int)
  refine wpAny_Slice (thn (po_none.run pins s1 σ H1 (fun o H2 => o = none ∧ H2 = H1) I1 ⟨rfl, rfl⟩) fun vl s2 ⟨l, H2, I2, pl, el, e2⟩ => ?_)
  subst el e2
  refine thn (po_none.run pins s2 σ H2 (fun o H3 => o = none ∧ H3 = H2) I2 ⟨rfl, rfl⟩) fun vu s3 ⟨u, H3, I3, pu, eu, e3⟩ => ?_
  subst eu e3
  refine thn (hst.run pins s3 σ H3 (fun o H4 => o = some (-1) ∧ H4 = H3) I3 ⟨1, rfl, -1, rfl, rfl, rfl⟩) fun vs s4 ⟨o, H4, I4, ps, eo, e4⟩ => ?_
  subst eo e4
  have I5 : Inv X pins σ H4 { s4 with heap := s4.heap.push { cls := .type "slice", data := .fields #[vl, vu, vs] } } := I4.kept (t' := s4.toks) fun b ob q => Heap.get?_push_of_some _ q
  obtain ⟨its, r, ht, hz⟩ := I5.tuple hx
  have hlen := r.length
  show wpAny (model X.prog X.w) X.A (subscriptTail e (.Slice none none (some (.UnaryOp .USub (.Constant (.int 1) k p1) p2)) p3) (.ref a) (.ref s4.heap.objs.size)) (EP X pins σ Q) X.xe { s4 with heap := s4.heap.push { cls := .type "slice", data := .fields #[vl, vu, vs] } }
  refine tail_any (ops := [.ref a, .ref s4.heap.objs.size]) ht.typeIs (PyProof.Rows.slot_tuple_getitem.lookup) ?_ (by with_unfolding_all rfl)
  refine getItem_tuple_rev ht (Heap.IsSliceOf.new _ vl vu vs) pl pu ps ?_ (by rw [List.size_toArray]; omega)
  refine ⟨.ref _, _, I5.laid (t' := s4.toks) (o := .tup xs.reverse) (fun b ob q => Heap.get?_push_of_some _ q) (Nat.le_refl _) ?_, rfl, q _ (I5.hok.fresh (Nat.le_refl _))⟩
  exact ⟨by rw [List.length_reverse]; exact hz, _, r.reverse, IsTup.new _ _⟩
end
end Lw

set_option maxRecDepth 100000
set_option maxHeartbeats 1000000
/-! LwS: methods of lists; all expressions. -/
namespace Lw
open PySem L2 RZ
section
variable {g : Gx} {c : CC} {k : Nat} {W : WX} {X : Cx}
theorem base_of {o : Expr} {a : Str} {env : Env} {w : Sem Value} (h : baseB o = true) : attributeBase o a env w = w := by
  cases o <;> first | rfl | cases h
theorem few_of {c : CC} {env : Env} {pos : Pos} : ∀ {as : CE} {es : List Expr}, chks c as es = true → (backTo pos (starEach es env)).all (fun x => !x.1) = true
  | as, [], _ => rfl
  | as, e :: es, h => by
    cases as <;> simp only [chks, Bool.false_eq_true] at h
    case cons a as =>
      simp only [Bool.and_eq_true] at h
      rw [star_of h.1.1]
      show ((!false) && (backTo pos (starEach es env)).all (fun x => !x.1)) = true
      rw [few_of h.2]
      rfl
theorem ORs.append {K : PySem.W.Frag} {cl : Str → Option Addr} {F H : Hp} : ∀ {os ps : List O} {vs ws : List V} {A B : AS}, ORs K cl F H os vs A → ORs K cl F H ps ws B → (∀ a, A a → B a → False) → ORs K cl F H (os ++ ps) (vs ++ ws) (fun a => A a ∨ B a)
  | _, _, _, _, _, _, .nil, h, n => h.cast fun a => by simp
  | _, _, _, _, _, _, .cons h1 t n1, h, n => by
    refine (ORs.cons h1 (ORs.append t h fun a x y => n a (.inr x) y) fun a x y => y.elim (n1 a x) fun y => n a (.inl x) y).cast fun a => ?_
    constructor
    · rintro (z | z | z)
      · exact .inl (.inl z)
      · exact .inl (.inr z)
      · exact .inr z
    · rintro ((z | z) | z)
      · exact .inl z
      · exact .inr (.inl z)
      · exact .inr (.inr z)
/-- what the list's method does to the list at l -/
def rMt : Mt → V → List V → Hp → VK → Prop
  | .append => rAppend
  | .extend => rExtend
  | .pop => fun _ _ _ _ => False
theorem mt_run (m : Mt) (hm : m ≠ .pop) {o e : Expr} {es : List Expr} {to : TE} {t : TA} {apos cpos : Pos} (ho : PE X o to) (ha : PA X (e :: es) t) (hbase : attributeBase o m.nm X.env (eval o X.env) = eval o X.env)
    (hfew : ((backTo cpos (starEach (e :: es) X.env)).all (fun x => !x.1) && (backToKw cpos (keywordEach [] X.env)).all (fun x => x.1.isSome) && decide ((e :: es).length + ([] : List Keyword).length + (if ([] : List Keyword).isEmpty then 0 else 1) < 30)) = true)
    (hline : (apos.endLine == cpos.line) = true) (hs : starEach (e :: es) X.env = (false, eval e X.env) :: starEach es X.env) (hplain : (backTo cpos (starEach es X.env)).any (·.1) = false) :
    PE X (.Call (.Attribute o m.nm apos) (e :: es) [] cpos) (tBM X.K "list" (rMt m) to t) := by
  cases m with
  | append => exact pe_bm F.plainAttrs_list F.slot_list_append F.type_list_append mt_append ho ha hbase hfew hline hs hplain
  | extend => exact pe_bm F.plainAttrs_list F.slot_list_extend F.type_list_extend mt_extend ho ha hbase hfew hline hs hplain
  | pop => exact absurd rfl hm
theorem isLst_of {o : Option O} (h : isLst o = true) : ∃ os, o = some (.lst os) := by
  unfold isLst at h
  split at h
  · exact ⟨_, rfl⟩
  · cases h
/-- a list of trees gets more at its end -/
theorem OR.more {K : PySem.W.Frag} {cl : Str → Option Addr} {F H : Hp} {B By : AS} {os ps : List O} {l : Addr} {ws : List V} (h : OR K cl F H (.lst os) (.ref l) B) (hp : ORs K cl F H ps ws By) (dj : ∀ a, B a → By a → False) :
    ∃ vs, H l = some (.lst vs) ∧ vs.length = os.length ∧ B l ∧ F l = none ∧ OR K cl F (upd H l (.lst (vs ++ ws))) (.lst (os ++ ps)) (.ref l) (fun a => B a ∨ By a) := by
  cases h with
  | @lst p vs os A0 h1 h2 h3 h4 =>
    have nB : ∀ a, By a → a ≠ l := fun a z e => by subst e; exact dj _ (.inl rfl) z
    have nA : ∀ a, A0 a → a ≠ l := fun a z e => by subst e; exact h3 z
    refine ⟨vs, h1, h2.len.symm, .inl rfl, h4, (OR.lst upd_same ((h2.frame (.refl _) (fun a z => upd_ne (nA a z)) fun a z => (h2.own a z).1).append (hp.frame (.refl _) (fun a z => upd_ne (nB a z)) fun a z => (hp.own a z).1) fun a x y => dj a (.inr x) y) (fun z => z.elim h3 fun z => nB l z rfl) h4).cast fun a => ?_⟩
    constructor
    · rintro (z | z | z)
      · exact .inl (.inl z)
      · exact .inl (.inr z)
      · exact .inr z
    · rintro ((z | z) | z)
      · exact .inl z
      · exact .inr (.inl z)
      · exact .inr (.inr z)
theorem e_mth (ok : XOk g c k W X) {m : Mt} {o as : CE} (io : Snd g o) (ia : Snd g as) {e : Expr} (h : chk c (.mth m o as) e = true) : PE X e (rdE g W (qt (.mth m o as)) (ev g.G (.mth m o as))) := by
  simp only [chk] at h
  split at h
  · simp only [Bool.and_eq_true, decide_eq_true_eq] at h
    obtain ⟨⟨⟨⟨⟨⟨h0, h1⟩, h2⟩, h3⟩, h4⟩, h5⟩, h6⟩ := h
    subst h1
    obtain ⟨k1, k2⟩ := plain_args (env := X.env) h6
    refine ⟨fun pins s σ H Q I ⟨F, A, ro, S, hh⟩ => ?_⟩
    refine (mt_run m h0 (io.E ok h5) (ia.L ok h6) (base_of h2) ?_ (by rw [h3]; exact beq_self_eq_true _) k1 k2).run pins s σ H Q I ?_
    · rw [few_of h6]
      simp [backToKw, keywordEach]
      omega
    simp only [ev] at hh
    refine ⟨F, A, ro, S, hh.bind fun hd ro1 _ hh v F1 H1 A1 Ao st S1 hv hq => ?_⟩
    cases hd with
    | tm x => exact hh.elim
    | sl i p =>
      simp only at hh
      split at hh
      · rename_i hc
        obtain ⟨hc1, hc2⟩ := and2 hc
        obtain ⟨os0, hl⟩ := isLst_of hc1
        refine ⟨?_, ?_⟩
        · obtain ⟨B, hB, _⟩ := hv.look S1 hl
          cases hB with
          | lst q1 q2 q3 q4 => exact .inl ⟨rfl, _, SqL.of q1⟩
        · have hh := hh.shift st (fun z => by cases z)
          refine ⟨F1, A1, ro1, S1, hh.bindA fun hs ro2 _ hh vs F2 H2 A2 Bo st2 S2 hvs hq2 => ?_⟩
          have hv2 := (hv.step st2 (fun z => (hq2 (okD_of hc2 z)).s)).1
          cases q : stos hs ro2 with
          | exc x r => exact absurd q stos_noexc
          | stuck => rw [q] at hh; exact hh.elim
          | ok xs ro3 =>
            rw [q] at hh
            simp only [Out.bind_ok] at hh
            obtain ⟨F3, A3, B3, S3, ho, dj, st3, su3, sb3⟩ := stos_ok S2 hvs q
            unfold mthR at hh
            split at hh
            · rename_i t ht
              split at hh
              · rename_i os hw
                split at hh
                · rename_i r os' hm
                  split at hh
                  · rename_i t' hp
                    obtain ⟨⟨v0, hv0, hwk⟩, _⟩ := hv2
                    obtain ⟨B, C, hB, hBC, dBC, hup⟩ := S3.updAt ht hv0 hw hwk
                    -- what is common: more trees ps at the end
                    have key : ∀ {ps : List O} {ws : List V} {By : AS} {l : Addr}, v = .ref l → os' = os ++ ps → ORs g.K g.cl F3 H2 ps ws By → (∀ a, By a → B3 a) → ∃ vs0, H2 l = some (.lst vs0) ∧ vs0.length = os.length ∧ ∃ A4, SR g.K g.cl F3 A4 (ro3.set i (some t')) σ (upd H2 l (.lst (vs0 ++ ws))) ∧ Stp F2 H2 (fun a => A2 a ∨ Bo a) F3 (upd H2 l (.lst (vs0 ++ ws))) A4 := by
                      intro ps ws By l ev eo hps hby
                      subst ev; subst eo
                      obtain ⟨vs0, j1, j2, j3, j4, j5⟩ := OR.more hB hps fun a x y => dj a (hby a y) ((hBC a).mpr (.inl x))
                      have lA : A3 l := (hBC l).mpr (.inl j3)
                      obtain ⟨o', p1, p2⟩ := hup _ _ _ j5 (fun a z => upd_ne fun e => by subst e; exact dBC _ j3 z) (fun a x y => x.elim (fun x => dBC a x y) fun x => dj a (hby a x) ((hBC a).mpr (.inr y))) (fun a o e => by
                        rw [upd_ne fun e2 => by rw [e2, j4] at e; cases e]
                        exact S3.sub a o e)
                      rw [hp] at p1
                      cases p1
                      refine ⟨vs0, j1, j2, _, p2, st3.trans ⟨.refl _, fun a o e n => ?_, fun a z => .inl z, fun a z => ?_⟩⟩
                      · rw [upd_ne fun e2 => n (.inl (by rw [e2]; exact lA))]
                        exact e
                      · rcases z with (z | z) | z
                        · exact .inl (.inl ((hBC a).mpr (.inl z)))
                        · exact .inl (.inr (hby a z))
                        · exact .inl (.inl ((hBC a).mpr (.inr z)))
                    have hvl : ∃ l, v = .ref l := by cases hB with | lst _ _ _ _ => exact ⟨_, rfl⟩
                    obtain ⟨l, rfl⟩ := hvl
                    have fin : ∀ {H4 : Hp} {A4 : AS}, r = .d .none → SR g.K g.cl F3 A4 (ro3.set i (some t')) σ H4 → Stp F2 H2 (fun a => A2 a ∨ Bo a) F3 H4 A4 → Q .non H4 := by
                      intro H4 A4 er S4 st4
                      subst er
                      exact (hh.shift (st2.trans st4).asT fun z => by cases z).sc S4 .non
                    unfold mthL at hm
                    split at hm
                    · -- append
                      split at hm
                      · rename_i hlen
                        cases hm
                        cases ho with
                        | cons o1 t1 n1 =>
                          cases t1
                          obtain ⟨vs0, j1, j2, A4, S4, st4⟩ := key rfl rfl (ORs.cons o1 .nil fun _ _ z => z) fun a z => z
                          have := lenOk_le hlen
                          exact ⟨l, vs0, _, rfl, rfl, j1, by omega, fin rfl S4 st4⟩
                      · cases hm
                    · -- extend by a list of trees
                      split at hm
                      · rename_i hlen
                        cases hm
                        cases ho with
                        | @cons _ _ _ _ Ay Az o1 t1 n1 =>
                          cases t1
                          cases o1 with
                          | @lst b zs es A0 z1 z2 z3 z4 =>
                            obtain ⟨vs0, j1, j2, A4, S4, st4⟩ := key rfl rfl z2 fun a z => .inl (.inr z)
                            have := lenOk_le hlen
                            have zl := z2.len
                            exact ⟨l, b, vs0, zs, rfl, rfl, j1, z1, by omega, fin rfl S4 st4⟩
                      · cases hm
                    · -- extend by a list of data
                      split at hm
                      · rename_i hlen
                        cases hm
                        cases ho with
                        | @cons _ _ _ _ Ay Az o1 t1 n1 =>
                          cases t1
                          cases o1 with
                          | d dq =>
                            obtain ⟨b, zs, rfl, z1, z2⟩ := dq.lst_eq
                            obtain ⟨vs0, j1, j2, A4, S4, st4⟩ := key rfl rfl (ORs.ofData z2) fun a z => z.elim
                            have := lenOk_le hlen
                            have zl := z2.len
                            exact ⟨l, b, vs0, zs, rfl, rfl, j1, S3.sub _ _ z1, by omega, fin rfl S4 st4⟩
                      · cases hm
                    · cases hm
                  · exact hh.elim
                · exact hh.elim
              · exact hh.elim
            · exact hh.elim
      · exact hh.elim
  · cases h
theorem rgV_dq {K : PySem.W.Frag} {F : Hp} (i j : Int) : DqAll K F (rgV i j) (rangeD i j) := by
  unfold rgV rangeD
  induction List.range (j - i).toNat with
  | nil => exact .nil
  | cons n ns ih => exact .cons (.int _) ih
/-- a new tuple, list of ints -/
theorem rgl_fin {q t : Bool} {F : Hp} {A : AS} {σ : L2.St} {H : Hp} {Q : VK} {i j : Int} {ro : Ro} (S : SR g.K g.cl F A ro σ H) (hh : Post g W q F A σ H (.ofOpt (rglO t i j) ro) Q) :
    RgOk i j ∧ ∀ p, H p = none → Q (.ref p) (upd H p (if t = true then .tup (rgV i j) else .lst (rgV i j))) := by
  obtain ⟨hd, ho, hh⟩ := hh.ofOpt
  unfold rglO at ho
  split at ho
  · rename_i hc
    cases ho
    refine ⟨hc, fun p hp => ?_⟩
    cases t with
    | true =>
      simp only [if_true] at hh ⊢
      exact hh.res S (.inr ⟨p, _, rfl, hp, rfl, rgV_dq i j⟩)
    | false =>
      simp only [Bool.false_eq_true, if_false] at hh ⊢
      exact hh.res S ⟨p, _, _, rfl, rfl, hp, rfl, rgV_dq i j⟩
  · cases ho
theorem rgl_run (ok : XOk g c k W X) (hc : c.calm = true) (t : Bool) {x : Str} (hx : x = if t then ("tuple" : Str) else "list") (hb : bltB c x = true) {e : Expr} {te : L2.St → Hp → (Int → Int → Hp → Prop) → Prop} {p pos : Pos} (he : PRg X e te) (na : starEach [e] X.env = (false, eval e X.env) :: starEach [] X.env) :
    PE X (.Call (.Name x p) [e] [] pos) (fun σ H Q => te σ H fun a b H1 => RgOk a b ∧ ∀ q, H1 q = none → Q (.ref q) (upd H1 q (if t = true then .tup (rgV a b) else .lst (rgV a b)))) := by
  cases t with
  | true =>
    simp only [if_true] at hx ⊢
    subst hx
    obtain ⟨g1, g2, g3, g4⟩ := ok.bltn hb
    exact pe_tupRg (by rw [ok.calm]; exact hc) g1 g4 he na
  | false =>
    simp only [Bool.false_eq_true, if_false] at hx ⊢
    subst hx
    obtain ⟨g1, g2, g3, g4⟩ := ok.bltn hb
    exact pe_listRg (by rw [ok.calm]; exact hc) g1 g4 he na
theorem e_rgl (ok : XOk g c k W X) {t : Bool} {a b : CE} (ia : Snd g a) (ib : Snd g b) {e : Expr} (h : chk c (.rgl t a b) e = true) : PE X e (rdE g W (qt (.rgl t a b)) (ev g.G (.rgl t a b))) := by
  simp only [chk] at h
  split at h
  · simp only [Bool.and_eq_true, decide_eq_true_eq] at h
    obtain ⟨⟨⟨⟨⟨⟨⟨h1, h2⟩, h3⟩, h4⟩, h5⟩, h6⟩, h7⟩, h8⟩ := h
    subst h5
    obtain ⟨g1, g2, g3, g4⟩ := ok.bltn h6
    refine ⟨fun pins s σ H Q I ⟨F, A, ro, S, hh⟩ => ?_⟩
    refine (rgl_run ok h1 t h3 h4 (prg_1 g1 g4 (ia.E ok h8) (star_of h7)) rfl).run pins s σ H Q I ?_
    simp only [ev] at hh
    rw [if_pos h2] at hh
    refine ⟨F, A, ro, S, hh.bind fun h1 ro1 _ hh v F1 H1 A1 Ao st S1 hv hs => ?_⟩
    have hh := hh.shift st (fun z => (hs (and2 z).1).s)
    split at hh
    · rename_i n hn
      exact ⟨n, (hv.lookD S1 hn).int_eq, rgl_fin S1 hh⟩
    · exact hh.elim
  · simp only [Bool.and_eq_true, decide_eq_true_eq] at h
    obtain ⟨⟨⟨⟨⟨⟨⟨⟨⟨h1, h2⟩, h3⟩, h4⟩, h5⟩, h6⟩, h7⟩, h8⟩, h9⟩, h10⟩ := h
    subst h5
    obtain ⟨g1, g2, g3, g4⟩ := ok.bltn h6
    refine ⟨fun pins s σ H Q I ⟨F, A, ro, S, hh⟩ => ?_⟩
    refine (rgl_run ok h1 t h3 h4 (prg_2 g1 g4 (ia.E ok h9) (ib.E ok h10) (star_of h7) (star_of h8) (by rw [star_of h8]; rfl)) rfl).run pins s σ H Q I ?_
    simp only [ev] at hh
    rw [if_neg (by simpa using h2)] at hh
    refine ⟨F, A, ro, S, hh.bind fun h1 ro1 _ hh v F1 H1 A1 Ao st S1 hv hs => ?_⟩
    have hh := hh.shift st (fun z => (hs (and2 z).1).s)
    split at hh
    · rename_i hd
      refine ⟨F1, A1, ro1, S1, hh.bind fun h2 ro2 _ hh w F2 H2 A2 Bo st2 S2 hw hs2 => ?_⟩
      have hh := hh.shift st2 (fun z => (hs2 (and2 z).2).s)
      obtain ⟨hv2, _⟩ := hv.step st2 (fun z => (hs2 (okD_of hd z)).s)
      split at hh
      · rename_i i j e1 e2
        exact ⟨i, j, (hv2.lookD S2 e1).int_eq, (hw.lookD S2 e2).int_eq, rgl_fin S2 hh⟩
      · exact hh.elim
    · exact hh.elim
  · cases h
theorem e_rev (ok : XOk g c k W X) {a : CE} (ia : Snd g a) {e : Expr} (h : chk c (.rev a) e = true) : PE X e (rdE g W (qt (.rev a)) (ev g.G (.rev a))) := by
  simp only [chk] at h
  split at h
  · obtain ⟨h0, h1⟩ := and2 h
    have h0 := of_decide_eq_true h0
    subst h0
    refine ⟨fun pins s σ H Q I ⟨F, A, ro, S, hh⟩ => ?_⟩
    simp only [ev] at hh
    cases r : ev g.G a ro with
    | stuck => rw [r] at hh; exact hh.elim
    | exc x ro1 =>
      refine (pe_revL (ia.E ok h1)).run pins s σ H Q I ⟨F, A, ro, S, ?_⟩
      rw [r] at hh ⊢
      exact hh
    | ok hd ro1 =>
      rw [r] at hh
      simp only [Out.bind_ok] at hh
      split at hh
      · rename_i xs hx
        refine (pe_revT (ia.E ok h1)).run pins s σ H Q I ⟨F, A, ro, S, ?_⟩
        rw [r]
        intro v F1 H1 A1 Ao st S1 hv hq
        have hh := hh.shift st (fun z => (hq z).s)
        obtain ⟨a', vs, e1, e2, e3⟩ := Dq.tup_eq (hv.lookF S1 hx)
        rw [ok.kk]
        exact ⟨a', vs, e1, S1.sub.sqT e2, fun p hp => hh.res S1 (.inr ⟨p, _, rfl, hp, rfl, e3.rev⟩)⟩
      · rename_i xs hx
        refine (pe_revL (ia.E ok h1)).run pins s σ H Q I ⟨F, A, ro, S, ?_⟩
        rw [r]
        intro v F1 H1 A1 Ao st S1 hv hq
        have hh := hh.shift st (fun z => (hq z).s)
        obtain ⟨a', vs, e1, e2, e3⟩ := hv.lookF S1 hx
        rw [ok.kk]
        exact ⟨a', vs, e1, SqL.of e2, fun p hp => hh.res S1 ⟨p, _, _, rfl, rfl, hp, rfl, e3.rev⟩⟩
      · exact hh.elim
  · cases h
end
theorem nox_plain {c : CC} {a : CE} {e : Expr} (h : chk c (.nox a) e = true) : testPlain e = true := by
  cases a <;> try (simp only [chk] at h; cases h; done)
  simp only [chk] at h
  split at h
  · rfl
  · cases h
theorem nox_bool {c : CC} {a : CE} {op es pos} : chk c (.nox a) (.BoolOp op es pos) = false := by
  cases a <;> simp only [chk]
theorem snd_nox {g : Gx} (a : CE) (sn : ∀ q own elt tg it ifs, a = .comp q own elt tg it ifs → Snd g elt ∧ Snd g it ∧ Snd g ifs) : Snd g (.nox a) :=
  .of (fun {c k W X} ok {e} h => e_nox ok sn h) (fun {c k W X} ok {e} h => pt_of (e_nox ok sn h) (nox_plain h)) (fun c op es pos => nox_bool) (by intros; rfl) (by intros; rfl) (by intros; rfl)
theorem snd_all (g : Gx) : ∀ ce : CE, Snd g ce
  | .var i => .pl fun {c k W X} ok {e} h => e_var ok h
  | .int i => .pl fun {c k W X} ok {e} h => e_int ok h
  | .bl i => .pl fun {c k W X} ok {e} h => e_bl ok h
  | .non => .pl fun {c k W X} ok {e} h => e_non ok h
  | .str i => .pl fun {c k W X} ok {e} h => e_str ok h
  | .glob i => .pl fun {c k W X} ok {e} h => e_glob ok h
  | .bin op a b => .pl fun {c k W X} ok {e} h => e_bin ok (snd_all g a) (snd_all g b) h
  | .neg a => .pl fun {c k W X} ok {e} h => e_neg ok (snd_all g a) h
  | .not a => .of (fun {c k W X} ok {e} h => e_not ok (snd_all g a) h) (fun {c k W X} ok {e} h => t_not ok (snd_all g a) h)
  | .and a b => .bo (fun {c k W X} ok {e} h => e_and ok (snd_all g a) (snd_all g b) h) (fun {c k W X} ok {op es pos} h => t_and ok (snd_all g a) (snd_all g b) h)
  | .or a b => .bo (fun {c k W X} ok {e} h => e_or ok (snd_all g a) (snd_all g b) h) (fun {c k W X} ok {op es pos} h => t_or ok (snd_all g a) (snd_all g b) h)
  | .one a => .bo (fun {c k W X} ok {e} h => e_one ok (snd_all g a) h) (fun {c k W X} ok {op es pos} h => t_one ok (snd_all g a) h)
  | .cmp op a b => .of (fun {c k W X} ok {e} h => e_cmp ok (snd_all g a) (snd_all g b) h) (fun {c k W X} ok {e} h => t_cmp ok (snd_all g a) (snd_all g b) h)
  | .chain o1 o2 a b d => .of (fun {c k W X} ok {e} h => e_chain ok (snd_all g a) (snd_all g b) (snd_all g d) h) (fun {c k W X} ok {e} h => t_chain ok (snd_all g a) (snd_all g b) (snd_all g d) h)
  | .ifx a b d => .of (fun {c k W X} ok {e} h => e_ifx ok (snd_all g a) (snd_all g b) (snd_all g d) h) (fun {c k W X} ok {e} h => t_ifx ok (snd_all g a) (snd_all g b) (snd_all g d) h)
  | .tup as => .pl fun {c k W X} ok {e} h => e_tup ok (snd_all g as) h
  | .lst as => .pl fun {c k W X} ok {e} h => e_lst ok (snd_all g as) h
  | .idx a b => .pl fun {c k W X} ok {e} h => e_idx ok (snd_all g a) (snd_all g b) h
  | .slc a b d => .pl fun {c k W X} ok {e} h => e_slc ok (snd_all g a) (snd_all g b) (snd_all g d) h
  | .call f as => .pl fun {c k W X} ok {e} h => e_call ok (snd_all g as) h
  | .prim p as => .pl fun {c k W X} ok {e} h => e_prim ok (snd_all g as) h
  | .isi a T => .pl fun {c k W X} ok {e} h => e_isi ok (snd_all g a) h
  | .mth m o as => .pl fun {c k W X} ok {e} h => e_mth ok (snd_all g o) (snd_all g as) h
  | .comp q own elt tg it ifs => .pl fun {c k W X} ok {e} h => e_comp ok (snd_all g elt) (snd_all g it) (snd_all g ifs) h
  | .seq a => .iter fun z {c k W X} ok {tg e} h => i_seq (snd_all g a) z ok h
  | .rng a => .iter fun z {c k W X} ok {tg e} h => i_rng (snd_all g a) z ok h
  | .enum a => .iter fun z {c k W X} ok {tg e} h => i_enum (snd_all g a) z ok h
  | .zip a => .iter fun z {c k W X} ok {tg e} h => i_zip (snd_all g a) z ok h
  | .share i a => .pl (fun {c k W X} ok {e} h => e_share ok (snd_all g a) h) (by intro c e h; simp only [chk] at h; exact (and2 h).1)
  | .rgl t a b => .pl fun {c k W X} ok {e} h => e_rgl ok (snd_all g a) (snd_all g b) h
  | .rev a => .pl fun {c k W X} ok {e} h => e_rev ok (snd_all g a) h
  | .sset a => .pl fun {c k W X} ok {e} h => e_sset ok (snd_all g a) h
  | .nox a => snd_nox a (fun q own elt tg it ifs e => match a, e with | .comp _ _ elt tg it ifs, rfl => ⟨snd_all g elt, snd_all g it, snd_all g ifs⟩)
  | .bad =>
    { E := by intro c k W X ok e h; exact ⟨fun _ _ _ _ _ _ ⟨_, _, _, _, z⟩ => by simp only [ev] at z; exact z.elim⟩
      T := by intro c k W X ok e h; exact ⟨fun _ _ _ _ _ _ ⟨_, _, _, _, z⟩ => by simp only [ev] at z; exact z.elim⟩
      B := by intro c k W X ok op es pos h; constructor; intros; rename_i z; obtain ⟨_, _, _, _, z⟩ := z; simp only [ev] at z; exact z.elim
      L := by intro c k W X ok es h; exact no (by rfl) h
      O := by intro c k W X ok e h; exact no (by rfl) h
      I := by intro c k W X z ok tg e h; exact no (by rfl) h
      D := by intro c k W X ok es h; exact no (by rfl) h }
  | .nil => .args l_nil o_nil tests_nil
  | .cons a as => .args (l_cons (snd_all g a) (snd_all g as)) (o_cons (snd_all g a)) (tests_cons (snd_all g a))
end Lw

set_option maxRecDepth 100000
set_option maxHeartbeats 1000000
/-! Lw15: statements: syntax, evaluator, checker, judgement. -/
namespace Lw
open PySem L2 RZ
inductive CS where
  | nil | seq (a b : CS)
  | pass | doc | brk | cnt | retN
  | ret (e : CE)
  | set (i : Nat) (e : CE)
  | setc (i : Nat) (e : CE)
  | unp (tg e : CE)
  | par2 (i j : Nat) (es : CE)
  | par3 (i j k : Nat) (es : CE)
  | aug (i : Nat) (op : Operator) (e : CE)
  | exp (e : CE)
  | ife (c : CE) (a b : CS)
  | whl (c : CE) (b : CS)
  | for_ (tg it : CE) (b : CS)
  | rai (x : Str)
  | try_ (b hs : CS)
  | hd (x : Str) (b rest : CS)
  | bad
inductive SOut where
  | nx (ro : Ro)
  | ret (o : O) (ro : Ro)
  | brk (ro : Ro)
  | ct (ro : Ro)
  | exc (x : Exn) (ro : Ro)
  | stuck
/-- an expression's outcome, then a statement's -/
def Out.then {α : Type} : Out α → (α → Ro → SOut) → SOut
  | .ok a ro, f => f a ro
  | .exc x ro, _ => .exc x ro
  | .stuck, _ => .stuck
@[simp] theorem Out.then_ok {α : Type} (a : α) (ro : Ro) (f : α → Ro → SOut) : (Out.ok a ro).then f = f a ro := rfl
@[simp] theorem Out.then_exc {α : Type} (x : Exn) (ro : Ro) (f : α → Ro → SOut) : (Out.exc x ro : Out α).then f = .exc x ro := rfl
@[simp] theorem Out.then_stuck {α : Type} (f : α → Ro → SOut) : (Out.stuck : Out α).then f = .stuck := rfl
def tst (G : GE) (c : CE) (ro : Ro) : Out Bool := (ev G c ro).bind fun h ro => .ofOpt (h.bool ro) ro
def wLoop (t : Ro → Out Bool) (b : Ro → SOut) : Nat → Ro → SOut
  | 0, _ => .stuck
  | n + 1, ro => (t ro).then fun z ro => if z then (match b ro with
    | .nx ro => wLoop t b n ro
    | .ct ro => wLoop t b n ro
    | .brk ro => .nx ro
    | r => r) else .nx ro
def fLoop (tg : CE) (b : Ro → SOut) : List PyData → Ro → SOut
  | [], ro => .nx ro
  | x :: xs, ro => match asgT tg x ro with
    | some ro => match b ro with
      | .nx ro => fLoop tg b xs ro
      | .ct ro => fLoop tg b xs ro
      | .brk ro => .nx ro
      | r => r
    | none => .stuck
def augO : Operator → PyData → PyData → Option PyData
  | .Add, .int i, .int j => some (.int (i + j))
  | .Sub, .int i, .int j => some (.int (i - j))
  | .Mult, .int i, .int j => if -(2 ^ 64) < j ∧ j < 2 ^ 64 then some (.int (i * j)) else none
  | _, _, _ => none
mutual
def ex (G : GE) : CS → Ro → SOut
  | .nil, ro => .nx ro
  | .seq a b, ro => match ex G a ro with
    | .nx ro => ex G b ro
    | r => r
  | .pass, ro => .nx ro
  | .doc, ro => .nx ro
  | .brk, ro => .brk ro
  | .cnt, ro => .ct ro
  | .retN, ro => .ret (.d .none) ro
  | .ret e, ro => (ev G e ro).then fun h ro => (h.sto ro).then fun o ro => .ret o ro
  | .set i e, ro => (ev G e ro).then fun h ro => (h.sto ro).then fun o ro => .nx (ro.set i (some o))
  | .setc i e, ro => (ev G e ro).then fun h ro => (h.sto ro).then fun o ro => .nx (ro.set i (some o))
  | .unp tg e, ro => (ev G e ro).then fun h ro => (h.esc ro).then fun x ro => match asgT tg x ro with
    | some ro => .nx ro
    | none => .stuck
  | .par2 i j es, ro => (evs G es ro).then fun hs ro => (stos hs ro).then fun os ro => match os with
    | [a, b] => .nx ((ro.set i (some a)).set j (some b))
    | _ => .stuck
  | .par3 i j k es, ro => (evs G es ro).then fun hs ro => (stos hs ro).then fun os ro => match os with
    | [a, b, c] => .nx (((ro.set i (some a)).set j (some b)).set k (some c))
    | _ => .stuck
  | .aug i op e, ro => match ro[i]? with
    | some (some (.d x)) => (ev G e ro).then fun h ro => match h.lookD ro with
      | some y => match augO op x y with
        | some z => .nx (ro.set i (some (.d z)))
        | none => .stuck
      | none => .stuck
    | _ => .stuck
  | .exp e, ro => (ev G e ro).then fun _ ro => .nx ro
  | .ife c a b, ro => (tst G c ro).then fun z ro => if z then ex G a ro else ex G b ro
  | .whl c b, ro => wLoop (tst G c) (ex G b) G.wf ro
  | .for_ tg it b, ro => (evI G true it ro).then fun xs ro => fLoop tg (ex G b) xs ro
  | .rai x, ro => .exc ⟨x⟩ ro
  | .try_ b hs, ro => match ex G b ro with
    | .exc x ro => exH G hs x ro
    | r => r
  | .hd _ _ _, _ => .stuck
  | .bad, _ => .stuck
def exH (G : GE) : CS → Exn → Ro → SOut
  | .hd y b rest, x, ro => match G.exm x.cls y with
    | some true => match ex G b ro with
      | .exc _ _ => .stuck
      | r => r
    | some false => exH G rest x ro
    | none => .stuck
  | .nil, x, ro => .exc x ro
  | _, _, _ => .stuck
end
/-! ### the checker -/
def isComp : Expr → Bool
  | .ListComp _ _ _ _ => true
  | .SetComp _ _ _ _ => true
  | .DictComp _ _ _ _ _ => true
  | _ => false
def isCE : CE → Bool
  | .comp _ _ _ _ _ _ => true
  | _ => false
/-- no stores in a row of their own -/
def noSwap : Expr → Bool
  | .Tuple vs _ _ => vs.all (foldedForSure 8) || !(vs.length == 2 || vs.length == 3)
  | _ => true
def lclB (c : CC) (x : Str) : Bool := decide (c.sc.names.lookup x = some .local)
def slB (c : CC) (i : Nat) (e : Expr) : Bool := match e with
  | .Name x _ => decide (c.N[i]? = some x) && locB c x && !(c.fx.contains i)
  | _ => false
def plB (c : CC) (i : Nat) (e : Expr) : Bool := match e with
  | .Name x _ => decide (c.N[i]? = some x) && lclB c x && !(c.fx.contains i)
  | _ => false
def starB : Expr → Bool
  | .Starred _ _ => true
  | _ => false
mutual
def chkS (c : CC) : CS → Stmt → Bool
  | .pass, s => match s with
    | .Pass _ => true
    | _ => false
  | .doc, s => match s with
    | .Expr (.Constant (.str _) _ _) _ => true
    | _ => false
  | .brk, s => match s with
    | .Break _ => true
    | _ => false
  | .cnt, s => match s with
    | .Continue _ => true
    | _ => false
  | .retN, s => match s with
    | .Return none _ => true
    | _ => false
  | .ret e, s => match s with
    | .Return (some e') _ => chk c e e'
    | _ => false
  | .set i e, s => match s with
    | .Assign [t] e' _ => slB c i t && !(isComp e') && chk c e e'
    | _ => false
  | .setc i e, s => match s with
    | .Assign [.Name y py] (.ListComp e' gs scope p) spos => c.calm && plB c i (.Name y py) && decide (py.line = p.line) && !(scope.names.any fun (n, k) => n == y && (k == .local || k == .cell)) && isCE e && chk c e (.ListComp e' gs scope p)
    | _ => false
  | .unp tg e, s => match s with
    | .Assign [.Tuple ts k p] e' _ => c.calm && chkT c tg (.Tuple ts k p) && (tgSlots tg).all (fun i => !(c.fx.contains i)) && !(isComp e') && noSwap e' && chk c e e'
    | _ => false
  | .par2 i j es, s => match s with
    | .Assign [.Tuple [.Name x px, .Name y py] _ _] (.Tuple [a, b] _ _) _ => c.calm && plB c i (.Name x px) && plB c j (.Name y py) && decide (i ≠ j) && decide (x ≠ y) && decide (px.line = py.line) && !(starB a) && !(starB b) &&
        !([a, b].all (foldedForSure 8)) && !([a, b].all (constantsAlone 8)) && chks c es [a, b]
    | _ => false
  | .par3 i j l es, s => match s with
    | .Assign [.Tuple [.Name x px, .Name y py, .Name z pz] _ _] (.Tuple [a, b, d] _ _) _ => c.calm && plB c i (.Name x px) && plB c j (.Name y py) && plB c l (.Name z pz) && decide (i ≠ j) && decide (i ≠ l) && decide (j ≠ l) && decide (x ≠ y) && decide (x ≠ z) && decide (y ≠ z) &&
        decide (px.line = py.line) && decide (px.line = pz.line) && !(starB a) && !(starB b) && !(starB d) && !([a, b, d].all (foldedForSure 8)) && !([a, b, d].all (constantsAlone 8)) && chks c es [a, b, d]
    | _ => false
  | .aug i op e, s => match s with
    | .AugAssign t op' e' _ => slB c i t && decide (op = op') && (decide (op = .Add) || decide (op = .Sub) || decide (op = .Mult)) && chk c e e'
    | _ => false
  | .exp e, s => match s with
    | .Expr e' _ => !(isComp e') && chk c e e'
    | _ => false
  | .ife t a b, s => match s with
    | .If t' a' b' _ => chk c t t' && chkSs c a a' && chkSs c b b'
    | _ => false
  | .whl t b, s => match s with
    | .While t' b' [] _ => c.calm && chk c t t' && chkSs c b b'
    | _ => false
  | .for_ tg it b, s => match s with
    | .For tg' it' b' [] _ => c.calm && chkI c it tg' it' && plainE it' && chkT c tg tg' && (tgSlots tg).all (fun i => !(c.fx.contains i)) && chkSs c b b'
    | _ => false
  | .rai x, s => match s with
    | .Raise (some (.Call (.Name y _) [.Constant (.str _) _ _] [] _)) none _ => c.calm && decide (x = y) && glbB c x && c.exs.contains x
    | _ => false
  | .try_ b hs, s => match s with
    | .Try b' (h :: hs') [] [] _ => c.calm && chkSs c b b' && chkH { c with calm := false } hs (h :: hs')
    | _ => false
  | .bad, _ => true
  | _, _ => false
def chkSs (c : CC) : CS → List Stmt → Bool
  | .nil, ss => match ss with
    | [] => true
    | _ => false
  | .seq a b, ss => match ss with
    | s :: ss => chkS c a s && chkSs c b ss
    | _ => false
  | _, _ => false
def chkH (c : CC) : CS → List ExceptHandler → Bool
  | .nil, hs => match hs with
    | [] => true
    | _ => false
  | .hd y b rest, hs => match hs with
    | .ExceptHandler (some (.Name x _)) none (b₀ :: suite) _ :: hs => decide (x = y) && glbB c x && c.exs.contains x && chkSs c b (b₀ :: suite) && chkH c rest hs
    | _ => false
  | _, _ => false
end
/-! ### the judgement -/
def Agr (fx : List Nat) (σ σ' : L2.St) : Prop := ∀ j ∈ fx, σ'[j]? = σ[j]?
theorem Agr.refl {fx : List Nat} {σ : L2.St} : Agr fx σ σ := fun _ _ => rfl
theorem Agr.trans {fx : List Nat} {σ σ' σ'' : L2.St} (a : Agr fx σ σ') (b : Agr fx σ' σ'') : Agr fx σ σ'' := fun j hj => (b j hj).trans (a j hj)
theorem Agr.set {fx : List Nat} {σ : L2.St} {i : Nat} {v : Option V} (h : fx.contains i = false) : Agr fx σ (σ.set i v) := fun j hj => by
  have : i ≠ j := fun e => by
    subst e
    have : fx.contains i = true := by simpa using hj
    rw [h] at this; cases this
  exact List.getElem?_set_ne this
def PostS (g : Gx) (W : WX) (fx : List Nat) (F : Hp) (A : AS) (σ : L2.St) (H : Hp) : SOut → Ends → Prop
  | .nx ro', D => ∀ σ' F' H' A', Stp F H A F' H' A' → SR g.K g.cl F' A' ro' σ' H' → Agr fx σ σ' → D.nx σ' H'
  | .brk ro', D => ∀ σ' F' H' A', Stp F H A F' H' A' → SR g.K g.cl F' A' ro' σ' H' → Agr fx σ σ' → D.bk σ' H'
  | .ct ro', D => ∀ σ' F' H' A', Stp F H A F' H' A' → SR g.K g.cl F' A' ro' σ' H' → Agr fx σ σ' → D.ct σ' H'
  | .ret o ro', D => ∀ v σ' F' H' A' Ao, Stp F H A F' H' (fun a => A' a ∨ Ao a) → SR g.K g.cl F' A' ro' σ' H' → OR g.K g.cl F' H' o v Ao → (∀ a, Ao a → A' a → False) → Agr fx σ σ' → D.rt v H'
  | .exc x ro', _ => ∀ C σ' F' H' A', g.mg x.cls = some (.ref C) → Stp F H A F' H' A' → SR g.K g.cl F' A' ro' σ' H' → Agr fx σ σ' → W (.ref C) none σ' H'
  | .stuck, _ => False
def rdS (g : Gx) (W : WX) (fx : List Nat) (f : Ro → SOut) : TS := fun D σ H => ∃ F A ro, SR g.K g.cl F A ro σ H ∧ PostS g W fx F A σ H (f ro) D
section
variable {g : Gx} {c : CC} {k : Nat} {W : WX} {X : Cx} {fx : List Nat} {F F1 H H1 : Hp} {A A1 T : AS} {σ σ1 : L2.St} {D : Ends}
theorem PostS.shift {r : SOut} (h : PostS g W fx F A σ H r D) (st : Stp F H A F1 H1 (fun a => A1 a ∨ T a)) (ag : Agr fx σ σ1) : PostS g W fx F1 A1 σ1 H1 r D := by
  have go : ∀ {F' H' : Hp} {A' : AS}, Stp F1 H1 A1 F' H' A' → Stp F H A F' H' A' := fun s2 => (st.trans (s2.frame T)).weak fun a z => .inl z
  cases r with
  | nx ro1 => exact fun σ' F' H' A' s2 S ag2 => h σ' F' H' A' (go s2) S (ag.trans ag2)
  | brk ro1 => exact fun σ' F' H' A' s2 S ag2 => h σ' F' H' A' (go s2) S (ag.trans ag2)
  | ct ro1 => exact fun σ' F' H' A' s2 S ag2 => h σ' F' H' A' (go s2) S (ag.trans ag2)
  | ret o ro1 => exact fun v σ' F' H' A' Ao s2 S ho dj ag2 => h v σ' F' H' A' Ao (go s2) S ho dj (ag.trans ag2)
  | exc x ro1 => exact fun C σ' F' H' A' hm s2 S ag2 => h C σ' F' H' A' hm (go s2) S (ag.trans ag2)
  | stuck => exact h
theorem PostS.bind {q : Bool} {Q : VK} {r : Out Hd} {f : Hd → Ro → SOut} (h : PostS g W fx F A σ H (r.then f) D)
    (k : ∀ hd ro1, PostS g W fx F A σ H (f hd ro1) D → ∀ v F1 H1 A1 Ao, Stp F H A F1 H1 (fun a => A1 a ∨ Ao a) → SR g.K g.cl F1 A1 ro1 σ H1 → HR g.K g.cl F1 H1 A1 σ hd v Ao → Q v H1) : Post g W q F A σ H r Q := by
  cases r with
  | ok hd ro1 => exact fun v F1 H1 A1 Ao st S hv _ => k hd ro1 h v F1 H1 A1 Ao st S hv
  | exc x ro1 => exact fun C F' H' A' hm st S => h C σ F' H' A' hm st S .refl
  | stuck => exact h
theorem PostS.bindA {q : Bool} {Q : List V → Hp → Prop} {r : Out (List Hd)} {f : List Hd → Ro → SOut} (h : PostS g W fx F A σ H (r.then f) D)
    (k : ∀ hd ro1, PostS g W fx F A σ H (f hd ro1) D → ∀ v F1 H1 A1 Ao, Stp F H A F1 H1 (fun a => A1 a ∨ Ao a) → SR g.K g.cl F1 A1 ro1 σ H1 → HRs g.K g.cl F1 H1 A1 σ hd v Ao → Q v H1) : PostA g W q F A σ H r Q := by
  cases r with
  | ok hd ro1 => exact fun v F1 H1 A1 Ao st S hv _ => k hd ro1 h v F1 H1 A1 Ao st S hv
  | exc x ro1 => exact fun C F' H' A' hm st S => h C σ F' H' A' hm st S .refl
  | stuck => exact h
theorem PostS.bindI {q z : Bool} {R : It → Hp → Prop} {r : Out (List PyData)} {f : List PyData → Ro → SOut} (h : PostS g W fx F A σ H (r.then f) D)
    (k : ∀ xs ro1, PostS g W fx F A σ H (f xs ro1) D → ∀ J F1 H1 A1, Stp F H A F1 H1 A1 → SR g.K g.cl F1 A1 ro1 σ H1 → IterFor g.K F1 (if z then F1 else H1) J xs → R J H1) : PostI g W q z F A σ H r R := by
  cases r with
  | ok xs ro1 => exact fun J F1 H1 A1 st S it _ => k xs ro1 h J F1 H1 A1 st S it
  | exc x ro1 => exact fun C F' H' A' hm st S => h C σ F' H' A' hm st S .refl
  | stuck => exact h
theorem PostS.bindT {q : Bool} {Q : Bool → Hp → Prop} {c0 : CE} {ro : Ro} {f : Bool → Ro → SOut} (h : PostS g W fx F A σ H ((tst g.G c0 ro).then f) D)
    (k : ∀ b ro1, PostS g W fx F A σ H (f b ro1) D → ∀ F1 H1 A1, Stp F H A F1 H1 A1 → SR g.K g.cl F1 A1 ro1 σ H1 → Q b H1) : PostT g W q F A σ H (ev g.G c0 ro) Q := by
  unfold tst at h
  cases r : ev g.G c0 ro with
  | ok hd ro1 =>
    rw [r] at h
    simp only [Out.bind_ok] at h
    cases q2 : hd.bool ro1 with
    | none => rw [q2] at h; exact h.elim
    | some b =>
      rw [q2] at h
      exact ⟨b, q2, fun F1 H1 A1 st S _ => k b ro1 h F1 H1 A1 st S⟩
  | exc x ro1 => rw [r] at h; exact fun C F' H' A' hm st S => h C σ F' H' A' hm st S .refl
  | stuck => rw [r] at h; exact h
end
/-- the surroundings of a body, beyond those of its expressions -/
structure XOs (g : Gx) (c : CC) (k : Nat) (W : WX) (X : Cx) : Prop extends XOk g c k W X where
  stk : X.stack = X.env :: X.outer
  frm : X.env.frame = some X.env.locals
  knd : X.env.scope.kind = .function
  po : c.calm = true → PassesOwn (model X.prog X.w) X.A X.env X.xe
/-- what the clauses of a try are for -/
def hdl (g : Gx) (fx : List Nat) : CS → List (Value × (Addr → Value → Option Addr → TS))
  | .hd y b rest => ((g.mg y).getD .none, fun _ _ _ => rdS g (fun _ _ _ _ => False) fx (ex g.G b)) :: hdl g fx rest
  | _ => []
structure SndS (g : Gx) (cs : CS) : Prop where
  S : ∀ {c : CC} {k : Nat} {W : WX} {X : Cx}, XOs g c k W X → ∀ {st : Stmt}, chkS c cs st = true → PS X st (rdS g W c.fx (ex g.G cs))
  L : ∀ {c : CC} {k : Nat} {W : WX} {X : Cx}, XOs g c k W X → ∀ {sts : List Stmt}, chkSs c cs sts = true → PSs X sts (rdS g W c.fx (ex g.G cs))
  H : ∀ {c : CC} {k : Nat} {W : WX} {X : Cx}, XOs g c k W X → ∀ {hds : List ExceptHandler}, chkH { c with calm := false } cs hds = true → HdsOk X hds (hdl g c.fx cs)
end Lw

set_option maxRecDepth 100000
set_option maxHeartbeats 1000000
/-! Lw16: the soundness of statements. -/
namespace Lw
open PySem L2 RZ
section
variable {g : Gx} {c : CC} {k : Nat} {W : WX} {X : Cx}
theorem s_pass (ok : XOs g c k W X) {st : Stmt} (h : chkS c .pass st = true) : PS X st (rdS g W c.fx (ex g.G .pass)) := by
  simp only [chkS] at h
  split at h
  · refine ⟨fun pins s σ H D I ⟨F, A, ro, S, hh⟩ => ?_⟩
    simp only [ex] at hh
    exact ps_pass.run pins s σ H D I (hh σ F H A .refl S .refl)
  · cases h
theorem s_doc (ok : XOs g c k W X) {st : Stmt} (h : chkS c .doc st = true) : PS X st (rdS g W c.fx (ex g.G .doc)) := by
  simp only [chkS] at h
  split at h
  · refine ⟨fun pins s σ H D I ⟨F, A, ro, S, hh⟩ => ?_⟩
    simp only [ex] at hh
    exact ps_doc.run pins s σ H D I (hh σ F H A .refl S .refl)
  · cases h
theorem s_brk (ok : XOs g c k W X) {st : Stmt} (h : chkS c .brk st = true) : PS X st (rdS g W c.fx (ex g.G .brk)) := by
  simp only [chkS] at h
  split at h
  · refine ⟨fun pins s σ H D I ⟨F, A, ro, S, hh⟩ => ?_⟩
    simp only [ex] at hh
    exact ps_break.run pins s σ H D I (hh σ F H A .refl S .refl)
  · cases h
theorem s_cnt (ok : XOs g c k W X) {st : Stmt} (h : chkS c .cnt st = true) : PS X st (rdS g W c.fx (ex g.G .cnt)) := by
  simp only [chkS] at h
  split at h
  · refine ⟨fun pins s σ H D I ⟨F, A, ro, S, hh⟩ => ?_⟩
    simp only [ex] at hh
    exact ps_continue.run pins s σ H D I (hh σ F H A .refl S .refl)
  · cases h
theorem s_retN (ok : XOs g c k W X) {st : Stmt} (h : chkS c .retN st = true) : PS X st (rdS g W c.fx (ex g.G .retN)) := by
  simp only [chkS] at h
  split at h
  · refine ⟨fun pins s σ H D I ⟨F, A, ro, S, hh⟩ => ?_⟩
    simp only [ex] at hh
    exact ps_retN.run pins s σ H D I (hh .non σ F H A (fun _ => False) Stp.refl.asT S (.d .non) (fun _ z => z.elim) .refl)
  · cases h
theorem s_ret (ok : XOs g c k W X) {e : CE} {st : Stmt} (h : chkS c (.ret e) st = true) : PS X st (rdS g W c.fx (ex g.G (.ret e))) := by
  simp only [chkS] at h
  split at h
  · refine ⟨fun pins s σ H D I ⟨F, A, ro, S, hh⟩ => ?_⟩
    simp only [ex] at hh
    refine (ps_ret ((snd_all g e).E ok.toXOk h)).run pins s σ H D I ⟨F, A, ro, S, hh.bind fun hd ro1 hh v F1 H1 A1 Ao st S1 hv => ?_⟩
    cases q : hd.sto ro1 with
    | exc x r => exact absurd q sto_noexc
    | stuck => rw [q] at hh; exact hh.elim
    | ok o ro2 =>
      rw [q] at hh
      obtain ⟨F2, A2, Bo, S2, ho, dj, st2, su2, sb2⟩ := sto_ok S1 hv q
      exact hh v σ F2 H1 A2 Bo (st.trans st2) S2 ho dj .refl
  · cases h
theorem swaps_plain {e : Expr} {t : Option Expr} {l : Nat} {env : Env} (h : isComp e = false) : swapsWith e t l env = pure false := by
  cases e <;> first | rfl | cases h
theorem sole_plain {e t : Expr} {l : Nat} {env : Env} (h : isComp e = false) : swapsWithSole [t] e l env = pure false := by
  cases e <;> first | rfl | cases h
theorem not_of {b : Bool} (h : (!b) = true) : b = false := by simpa using h
/-- a tree stored in a slot -/
theorem SR.storeO {K : PySem.W.Frag} {cl : Str → Option Addr} {F H : Hp} {A Bo : AS} {ro : Ro} {σ : L2.St} {i : Nat} {o : O} {v : V} (S : SR K cl F A ro σ H) (hi : i < σ.length) (h : OR K cl F H o v Bo) (dj : ∀ a, Bo a → A a → False) :
    ∃ B, SR K cl F B (ro.set i (some o)) (σ.set i (some v)) H ∧ ∀ a, B a → A a ∨ Bo a := by
  obtain ⟨B, h1, h2⟩ := S.rs.store (i := i) (o := o) (v := v) (by rw [S.rs.len]; exact hi) h dj
  exact ⟨B, ⟨h1, S.sub⟩, h2⟩
theorem idx_lt {N : List Str} {σ : L2.St} {i : Nat} {x : Str} (hl : σ.length = N.length) (h : N[i]? = some x) : i < σ.length := by
  rw [hl]
  exact (List.getElem?_eq_some_iff.mp h).1
theorem s_set (ok : XOs g c k W X) {i : Nat} {e : CE} {st : Stmt} (h : chkS c (.set i e) st = true) : PS X st (rdS g W c.fx (ex g.G (.set i e))) := by
  simp only [chkS] at h
  split at h
  · rename_i t e' pos
    simp only [Bool.and_eq_true] at h
    obtain ⟨⟨h1, h2⟩, h3⟩ := h
    unfold slB at h1
    split at h1
    · rename_i x p
      simp only [Bool.and_eq_true, decide_eq_true_eq] at h1
      obtain ⟨⟨k1, k2⟩, k3⟩ := h1
      obtain ⟨l1, l2⟩ := ok.toXOk.loc k2
      refine ⟨fun pins s σ H D I ⟨F, A, ro, S, hh⟩ => ?_⟩
      simp only [ex] at hh
      refine (ps_set (i := i) (by rw [ok.hN]; exact ok.nd) (by rw [ok.hN]; exact k1) l1 ((snd_all g e).E ok.toXOk h3) (swaps_plain (not_of h2)) l2).run pins s σ H D I ⟨F, A, ro, S, hh.bind fun hd ro1 hh v F1 H1 A1 Ao st S1 hv => ?_⟩
      cases q : hd.sto ro1 with
      | exc x r => exact absurd q sto_noexc
      | stuck => rw [q] at hh; exact hh.elim
      | ok o ro2 =>
        rw [q] at hh
        obtain ⟨F2, A2, Bo, S2, ho, dj, st2, su2, sb2⟩ := sto_ok S1 hv q
        obtain ⟨B, S3, sb3⟩ := S2.storeO (idx_lt (by rw [I.len, ok.hN]) k1) ho dj
        exact hh _ F2 H1 B ((st.trans st2).weak sb3) S3 (Agr.set (not_of k3))
    · cases h1
  · cases h
theorem noSwap_ok {ts : List Expr} {k0 : Nat} {p : Pos} {e : Expr} {env : Env} (h : noSwap e = true) : swappedStores [.Tuple ts k0 p] e env = pure none := by
  cases e <;> try rfl
  rename_i vs k1 p1
  simp only [noSwap, Bool.or_eq_true] at h
  unfold swappedStores
  simp only []
  split
  · rfl
  · rename_i hc
    rcases h with h | h
    · split
      · rfl
      · split
        · rfl
        · first | rfl | (rw [h]; rfl) | (simp [h])
    · exfalso
      apply hc
      simp only [Bool.or_eq_true, bne_iff_ne, ne_eq, Bool.not_eq_true', Bool.or_eq_false_iff, beq_eq_false_iff_ne] at h ⊢
      by_cases hl : vs.length = ts.length
      · left; left
        rw [← hl]
        exact h
      · left; right
        exact hl
theorem s_unp (ok : XOs g c k W X) {tg e : CE} {st : Stmt} (h : chkS c (.unp tg e) st = true) : PS X st (rdS g W c.fx (ex g.G (.unp tg e))) := by
  simp only [chkS] at h
  split at h
  · simp only [Bool.and_eq_true] at h
    obtain ⟨⟨⟨⟨⟨h1, h2⟩, h3⟩, h4⟩, h5⟩, h6⟩ := h
    refine ⟨fun pins s σ H D I ⟨F, A, ro, S, hh⟩ => ?_⟩
    simp only [ex] at hh
    refine (ps_asg ((snd_all g e).E ok.toXOk h6) (g_all ok.toXOk h1 tg h2) (sole_plain (not_of h4)) (noSwap_ok h5) rfl).run pins s σ H D I ⟨F, A, ro, S, hh.bind fun hd ro1 hh v F1 H1 A1 Ao st S1 hv => ?_⟩
    cases q : hd.esc ro1 with
    | exc x r => exact absurd q esc_noexc
    | stuck => rw [q] at hh; exact hh.elim
    | ok x ro2 =>
      rw [q] at hh
      simp only [Out.then_ok] at hh
      obtain ⟨F2, A2, S2, dq, st2, su2⟩ := hv.esc S1 q
      split at hh
      · rename_i ro3 ha
        refine ⟨F2, A2, ro2, x, ro3, S2, dq, ha, fun σ' A' S' sb hw => ?_⟩
        refine hh σ' F2 H1 A' ((st.trans st2).weak sb) S' fun j hj => ?_
        have nj : j ∉ tgSlots tg := fun z => by
          have := List.all_eq_true.mp h3 j z
          rw [show c.fx.contains j = true from by simpa using hj] at this
          cases this
        have := congrArg (·[j]?) (hw (tgSlots tg) fun _ z => z)
        simpa [wipe_get nj] using this
      · exact hh.elim
  · cases h
theorem s_exp (ok : XOs g c k W X) {e : CE} {st : Stmt} (h : chkS c (.exp e) st = true) : PS X st (rdS g W c.fx (ex g.G (.exp e))) := by
  simp only [chkS] at h
  split at h
  · obtain ⟨h1, h2⟩ := and2 h
    refine ⟨fun pins s σ H D I ⟨F, A, ro, S, hh⟩ => ?_⟩
    simp only [ex] at hh
    exact (ps_expr ((snd_all g e).E ok.toXOk h2) (swaps_plain (not_of h1))).run pins s σ H D I ⟨F, A, ro, S, hh.bind fun hd ro1 hh v F1 H1 A1 Ao st S1 hv => hh σ F1 H1 A1 (st.weak fun a z => .inl z) S1 .refl⟩
  · cases h
theorem aug_add {x y z : PyData} (e : augO .Add x y = some z) : ∃ a b, x = .int a ∧ y = .int b ∧ z = .int (a + b) := by
  cases x <;> cases y <;> first | (exact ⟨_, _, rfl, rfl, (Option.some.inj e).symm⟩) | cases e
theorem aug_sub {x y z : PyData} (e : augO .Sub x y = some z) : ∃ a b, x = .int a ∧ y = .int b ∧ z = .int (a - b) := by
  cases x <;> cases y <;> first | (exact ⟨_, _, rfl, rfl, (Option.some.inj e).symm⟩) | cases e
theorem aug_mul {x y z : PyData} (e : augO .Mult x y = some z) : ∃ a b, x = .int a ∧ y = .int b ∧ z = .int (a * b) ∧ -(2 ^ 64) < b ∧ b < 2 ^ 64 := by
  cases x <;> cases y <;> first
    | (simp only [augO] at e
       split at e
       · exact ⟨_, _, rfl, rfl, (Option.some.inj e).symm, by assumption⟩
       · cases e)
    | cases e
theorem s_aug (ok : XOs g c k W X) {i : Nat} {op : Operator} {e : CE} {st : Stmt} (h : chkS c (.aug i op e) st = true) : PS X st (rdS g W c.fx (ex g.G (.aug i op e))) := by
  simp only [chkS] at h
  split at h
  · rename_i t op' e' pos
    simp only [Bool.and_eq_true, decide_eq_true_eq] at h
    obtain ⟨⟨⟨h1, h2⟩, h3⟩, h4⟩ := h
    subst h2
    unfold slB at h1
    split at h1
    · rename_i x p
      simp only [Bool.and_eq_true, decide_eq_true_eq] at h1
      obtain ⟨⟨k1, k2⟩, k3⟩ := h1
      obtain ⟨l1, l2⟩ := ok.toXOk.loc k2
      refine ⟨fun pins s σ H D I ⟨F, A, ro, S, hh⟩ => ?_⟩
      simp only [ex] at hh
      split at hh
      · rename_i x0 hx0
        obtain ⟨v0, Ai, B, j1, j2, _⟩ := S.rs.out hx0
        have key : ∀ {tip : TIp} (hp : PIp X op tip) (hf : ∀ x y z, augO op x y = some z → ∃ a b r, x = .int a ∧ y = .int b ∧ z = .int r ∧ ∀ H Q, Q (.int r) H → tip (.int a) (.int b) H Q), wpAny (model X.prog X.w) X.A (exec (.AugAssign (.Name x p) op e' pos) X.env) (SP X pins D) X.xe s := fun {tip} hp hf => by
          refine (ps_aug (i := i) (by rw [ok.hN]; exact ok.nd) (by rw [ok.hN]; exact k1) l1 ((snd_all g e).E ok.toXOk h4) hp l2).run pins s σ H D I ⟨v0, j1, F, A, ro, S, hh.bind fun hd ro1 hh v F1 H1 A1 Ao st S1 hv => ?_⟩
          split at hh
          · rename_i y ey
            split at hh
            · rename_i z ez
              obtain ⟨a, b, r, rfl, rfl, rfl, ht⟩ := hf _ _ _ ez
              have d1 := (hv.lookD S1 ey).int_eq
              have d0 : v0 = .int a := by cases j2 with | d h => exact h.int_eq
              rw [d0, d1]
              refine ht _ _ ?_
              obtain ⟨B2, S3, sb3⟩ := S1.setD (idx_lt (by rw [I.len, ok.hN]) k1) (v := .int r) (.int _)
              exact hh _ F1 H1 B2 (st.weak fun a z => .inl (sb3 a z)) S3 (Agr.set (not_of k3))
            · exact hh.elim
          · exact hh.elim
        cases op with
        | Add =>
          exact key ip_add fun x y z e => by
            obtain ⟨a, b, e1, e2, e3⟩ := aug_add e
            exact ⟨a, b, _, e1, e2, e3, fun H Q q => ⟨a, b, rfl, rfl, q⟩⟩
        | Sub =>
          exact key ip_sub fun x y z e => by
            obtain ⟨a, b, e1, e2, e3⟩ := aug_sub e
            exact ⟨a, b, _, e1, e2, e3, fun H Q q => ⟨a, b, rfl, rfl, q⟩⟩
        | Mult =>
          exact key (tip := rI CMul fun i j => .int (i * j)) (fun pins s σ H x y v u Q I rx ry h => iop_mul pins s σ H x y v u Q I rx ry h) fun x y z e => by
            obtain ⟨a, b, e1, e2, e3, e4⟩ := aug_mul e
            exact ⟨a, b, _, e1, e2, e3, fun H Q q => ⟨a, b, rfl, rfl, .inr e4, q⟩⟩
        | _ => exact absurd h3 (by decide)
      · exact hh.elim
    · cases h1
  · cases h
theorem s_setc (ok : XOs g c k W X) {i : Nat} {e : CE} {st : Stmt} (h : chkS c (.setc i e) st = true) : PS X st (rdS g W c.fx (ex g.G (.setc i e))) := by
  simp only [chkS] at h
  split at h
  · rename_i y py e' gs scope p spos
    simp only [Bool.and_eq_true, decide_eq_true_eq] at h
    obtain ⟨⟨⟨⟨⟨h1, h2⟩, h3⟩, h4⟩, h6⟩, h5⟩ := h
    simp only [plB, lclB, Bool.and_eq_true, decide_eq_true_eq] at h2
    obtain ⟨⟨a1, a2⟩, a3⟩ := h2
    cases e <;> simp only [isCE, Bool.false_eq_true] at h6
    case comp q own elt tg it ifs =>
      simp only [chk] at h5
      split at h5
      · rename_i e'' t' i' ifs' scope' pos' heq
        cases heq
        simp only [Bool.and_eq_true] at h5
        obtain ⟨⟨⟨⟨⟨⟨⟨⟨g1, g0⟩, g2⟩, g3⟩, g4⟩, g5⟩, g6⟩, g7⟩, g8⟩ := h5
        obtain ⟨hs0, hf0⟩ := ok.stk0 g0
        refine ⟨fun pins s σ H D I ⟨F, A, ro, S, hh⟩ => ?_⟩
        simp only [ex] at hh
        refine (ps_setLcX (W := W) (i := i) (y := y) (wi := rdI g W (qt it) (!q) (evI g.G (!q) it)) (g := rdG g tg) (tt := fun σ => rdB g (fun cls d _ H' => W cls d σ H') (qt ifs) (evB g.G ifs)) (te := fun σ => rdE g (fun cls d _ H' => W cls d σ H') (qt elt) (ev g.G elt)) (own := own) hs0 hf0 ok.tk (by rw [ok.calm]; exact h1) (by rw [ok.hN]; exact ok.nd) (by rw [ok.hN]; exact a1) (by rw [ok.sc]; exact a2)
          (sw_true ok.knd (by rw [ok.sc]; exact a2) (by rw [h3]; exact beq_self_eq_true _) (not_of h4)) ((snd_all g it).I _ ok.toXOk g2)
          (by rw [ok.hN, ok.sc]; exact blkOk_by g4) (fun s H C cl fp xe => g_all (ok.toXOk.blkX s H C cl fp _ xe takes_none5) g1 tg g6) (fun σ s H C cl fp xe tk => (snd_all g ifs).D (ok.toXOk.blkX s H C cl fp _ xe tk) g7) (fun σ s H C cl fp xe tk => (snd_all g elt).E (ok.toXOk.blkX s H C cl fp _ xe tk) g8) (fun x => fold_of g3 x)).run pins s σ H D I ?_
        change tLc (rdI g W (qt it) (!q) (evI g.G (!q) it)) (rdG g tg) (rdB g (fun cls d _ H' => W cls d σ H') (qt ifs) (evB g.G ifs)) (rdE g (fun cls d _ H' => W cls d σ H') (qt elt) (ev g.G elt)) (own.map (·.2)) σ H (fun x H1 => gName i x σ H1 D.nx)
        refine comp_red (W := W) (W2 := fun cls d _ H' => W cls d σ H') g5 ⟨F, A, ro, S, hh.bind fun hd ro1 hh v F1 H1 A1 Ao st S1 hv => ?_, fun _ _ cls d σ' H' w => w⟩
        cases q2 : hd.sto ro1 with
        | exc x r => exact absurd q2 sto_noexc
        | stuck => rw [q2] at hh; exact hh.elim
        | ok o ro2 =>
          rw [q2] at hh
          obtain ⟨F2, A2, Bo, S2, ho, dj, st2, su2, sb2⟩ := sto_ok S1 hv q2
          obtain ⟨B, S3, sb3⟩ := S2.storeO (idx_lt (by rw [I.len, ok.hN]) a1) ho dj
          exact hh _ F2 H1 B ((st.trans st2).weak sb3) S3 (Agr.set (not_of a3))
      · cases h5
  · cases h
end
end Lw

set_option maxRecDepth 100000
set_option maxHeartbeats 1000000
/-! Lw17: the soundness of statements: branches, loops, exceptions. -/
namespace Lw
open PySem L2 RZ
section
variable {g : Gx} {c : CC} {k : Nat} {W : WX} {X : Cx}
theorem star_any {a : Expr} (h : starB a = false) : (match a with | .Starred .. => true | _ => false) = false := by
  cases a <;> first | rfl | cases h
theorem swap2 {env : Env} {x y : Str} {px py pt pt2 : Pos} {kt k2 : Nat} {a b : Expr} (hk : env.scope.kind = .function) (hx : env.scope.names.lookup x = some .local) (hy : env.scope.names.lookup y = some .local) (hl : px.line = py.line) (hne : x ≠ y)
    (sa : starB a = false) (sb : starB b = false) (h1 : [a, b].all (foldedForSure 8) = false) (h2 : [a, b].all (constantsAlone 8) = false) :
    swappedStores [.Tuple [.Name x px, .Name y py] kt pt] (.Tuple [a, b] k2 pt2) env = pure (some [x, y]) := by
  have hb : env.blockKind = .function := by unfold Env.blockKind; rw [hk]; rfl
  have kx : env.kindOf x = some .local := hx
  have ky : env.kindOf y = some .local := hy
  have hne2 : (y == x) = false := beq_eq_false_iff_ne.mpr fun e => hne e.symm
  unfold swappedStores
  simp only [List.length_cons, List.length_nil, hb, List.any_cons, List.any_nil, star_any sa, star_any sb, List.head?_cons, Option.map_some, Option.getD_some, List.filterMap_cons, List.filterMap_nil, kx, ky, h1, h2]
  have l1 : (Expr.Name x px).pos.line = px.line := rfl
  rw [l1, ← hl]
  simp [List.eraseDups_cons, hne2]
  intro h
  exfalso
  rcases h with h | h
  · cases a <;> first | (cases sa; done) | (cases h; done)
  · cases b <;> first | (cases sb; done) | (cases h; done)
theorem s_par2 (ok : XOs g c k W X) {i j : Nat} {es : CE} {st : Stmt} (h : chkS c (.par2 i j es) st = true) : PS X st (rdS g W c.fx (ex g.G (.par2 i j es))) := by
  simp only [chkS] at h
  split at h
  · rename_i x px y py _ _ a b _ _ pos
    simp only [Bool.and_eq_true, decide_eq_true_eq] at h
    obtain ⟨⟨⟨⟨⟨⟨⟨⟨⟨⟨h1, h2⟩, h3⟩, h4⟩, h5⟩, h6⟩, h7⟩, h8⟩, h9⟩, h10⟩, h11⟩ := h
    simp only [plB, lclB, Bool.and_eq_true, decide_eq_true_eq] at h2 h3
    obtain ⟨⟨a1, a2⟩, a3⟩ := h2
    obtain ⟨⟨b1, b2⟩, b3⟩ := h3
    refine ⟨fun pins s σ H D I ⟨F, A, ro, S, hh⟩ => ?_⟩
    simp only [ex] at hh
    refine (ps_par (i := i) (j := j) (by rw [ok.calm]; exact h1) (by rw [ok.hN]; exact ok.nd) (by rw [ok.hN]; exact a1) (by rw [ok.hN]; exact b1) h4 (by rw [ok.sc]; exact a2) (by rw [ok.sc]; exact b2) ((snd_all g es).L ok.toXOk h11)
      (swap2 ok.knd (by rw [ok.sc]; exact a2) (by rw [ok.sc]; exact b2) h6 h5 (not_of h7) (not_of h8) (not_of h9) (not_of h10)) (sole_plain rfl)).run pins s σ H D I ⟨F, A, ro, S, hh.bindA fun hs ro1 hh vs F1 H1 A1 Ao st S1 hv => ?_⟩
    cases q : stos hs ro1 with
    | exc x r => exact absurd q stos_noexc
    | stuck => rw [q] at hh; exact hh.elim
    | ok os ro2 =>
      rw [q] at hh
      simp only [Out.then_ok] at hh
      obtain ⟨F2, A2, Bo, S2, ho, dj, st2, su2, sb2⟩ := stos_ok S1 hv q
      split at hh
      · cases ho with
        | cons o1 t1 n1 =>
          rename_i A3 B3
          cases t1 with
          | cons o2 t2 n2 =>
            rename_i A4 B4
            cases t2
            refine ⟨_, _, rfl, ?_⟩
            obtain ⟨C1, S3, sb3⟩ := S2.storeO (i := i) (idx_lt (by rw [I.len, ok.hN]) a1) o1 (fun a z w => dj a (.inl z) w)
            obtain ⟨C2, S4, sb4⟩ := S3.storeO (i := j) (by rw [List.length_set]; exact idx_lt (by rw [I.len, ok.hN]) b1) o2 (fun a z w => (sb3 a w).elim (fun w => dj a (.inr (.inl z)) w) fun w => n1 a w (.inl z))
            refine hh _ F2 H1 C2 ((st.trans st2).weak fun a z => ?_) S4 ((Agr.set (not_of a3)).trans (Agr.set (not_of b3)))
            rcases sb4 a z with z | z
            · rcases sb3 a z with z | z
              · exact .inl z
              · exact .inr (.inl z)
            · exact .inr (.inr (.inl z))
      · exact hh.elim
  · cases h
theorem swap3 {env : Env} {x y z : Str} {px py pz pt pt2 : Pos} {kt k2 : Nat} {a b d : Expr} (hk : env.scope.kind = .function) (hx : env.scope.names.lookup x = some .local) (hy : env.scope.names.lookup y = some .local) (hz : env.scope.names.lookup z = some .local) (hl : px.line = py.line) (hl2 : px.line = pz.line)
    (hne : x ≠ y) (hne2 : x ≠ z) (hne3 : y ≠ z) (sa : starB a = false) (sb : starB b = false) (sd : starB d = false) (h1 : [a, b, d].all (foldedForSure 8) = false) (h2 : [a, b, d].all (constantsAlone 8) = false) :
    swappedStores [.Tuple [.Name x px, .Name y py, .Name z pz] kt pt] (.Tuple [a, b, d] k2 pt2) env = pure (some [x, y, z]) := by
  have hb : env.blockKind = .function := by unfold Env.blockKind; rw [hk]; rfl
  have kx : env.kindOf x = some .local := hx
  have ky : env.kindOf y = some .local := hy
  have kz : env.kindOf z = some .local := hz
  have e1 : (y == x) = false := beq_eq_false_iff_ne.mpr fun e => hne e.symm
  have e2 : (z == x) = false := beq_eq_false_iff_ne.mpr fun e => hne2 e.symm
  have e3 : (z == y) = false := beq_eq_false_iff_ne.mpr fun e => hne3 e.symm
  unfold swappedStores
  simp only [List.length_cons, List.length_nil, hb, List.any_cons, List.any_nil, star_any sa, star_any sb, star_any sd, List.head?_cons, Option.map_some, Option.getD_some, List.filterMap_cons, List.filterMap_nil, kx, ky, kz, h1, h2]
  have l1 : (Expr.Name x px).pos.line = px.line := rfl
  rw [l1, ← hl, ← hl2]
  simp [List.eraseDups_cons, e1, e2, e3]
  intro h
  exfalso
  rcases h with h | h | h
  · cases a <;> first | (cases sa; done) | (cases h; done)
  · cases b <;> first | (cases sb; done) | (cases h; done)
  · cases d <;> first | (cases sd; done) | (cases h; done)
theorem s_par3 (ok : XOs g c k W X) {i j l : Nat} {es : CE} {st : Stmt} (h : chkS c (.par3 i j l es) st = true) : PS X st (rdS g W c.fx (ex g.G (.par3 i j l es))) := by
  simp only [chkS] at h
  split at h
  · rename_i x px y py z pz _ _ a b d _ _ pos
    simp only [Bool.and_eq_true, decide_eq_true_eq] at h
    obtain ⟨⟨⟨⟨⟨⟨⟨⟨⟨⟨⟨⟨⟨⟨⟨⟨⟨h1, h2⟩, h3⟩, h4⟩, h5⟩, h6⟩, h7⟩, h8⟩, h9⟩, h10⟩, h11⟩, h12⟩, h13⟩, h14⟩, h15⟩, h16⟩, h17⟩, h18⟩ := h
    simp only [plB, lclB, Bool.and_eq_true, decide_eq_true_eq] at h2 h3 h4
    obtain ⟨⟨a1, a2⟩, a3⟩ := h2
    obtain ⟨⟨b1, b2⟩, b3⟩ := h3
    obtain ⟨⟨d1, d2⟩, d3⟩ := h4
    refine ⟨fun pins s σ H D I ⟨F, A, ro, S, hh⟩ => ?_⟩
    simp only [ex] at hh
    refine (ps_par3 (i := i) (j := j) (l := l) (by rw [ok.calm]; exact h1) (by rw [ok.hN]; exact ok.nd) (by rw [ok.hN]; exact a1) (by rw [ok.hN]; exact b1) (by rw [ok.hN]; exact d1) h5 h6 h7 (by rw [ok.sc]; exact a2) (by rw [ok.sc]; exact b2) (by rw [ok.sc]; exact d2) ((snd_all g es).L ok.toXOk h18)
      (swap3 ok.knd (by rw [ok.sc]; exact a2) (by rw [ok.sc]; exact b2) (by rw [ok.sc]; exact d2) h11 h12 h8 h9 h10 (not_of h13) (not_of h14) (not_of h15) (not_of h16) (not_of h17)) (sole_plain rfl)).run pins s σ H D I ⟨F, A, ro, S, hh.bindA fun hs ro1 hh vs F1 H1 A1 Ao st S1 hv => ?_⟩
    cases q : stos hs ro1 with
    | exc x r => exact absurd q stos_noexc
    | stuck => rw [q] at hh; exact hh.elim
    | ok os ro2 =>
      rw [q] at hh
      simp only [Out.then_ok] at hh
      obtain ⟨F2, A2, Bo, S2, ho, dj, st2, su2, sb2⟩ := stos_ok S1 hv q
      split at hh
      · cases ho with
        | cons o1 t1 n1 =>
          rename_i A3 B3
          cases t1 with
          | cons o2 t2 n2 =>
            rename_i A4 B4
            cases t2 with
            | cons o3 t3 n3 =>
              cases t3
              refine ⟨_, _, _, rfl, ?_⟩
              obtain ⟨C1, S3, sb3⟩ := S2.storeO (i := i) (idx_lt (by rw [I.len, ok.hN]) a1) o1 (fun a z w => dj a (.inl z) w)
              obtain ⟨C2, S4, sb4⟩ := S3.storeO (i := j) (by rw [List.length_set]; exact idx_lt (by rw [I.len, ok.hN]) b1) o2 (fun a z w => (sb3 a w).elim (fun w => dj a (.inr (.inl z)) w) fun w => n1 a w (.inl z))
              obtain ⟨C3, S5, sb5⟩ := S4.storeO (i := l) (by rw [List.length_set, List.length_set]; exact idx_lt (by rw [I.len, ok.hN]) d1) o3 (fun a z w => (sb4 a w).elim (fun w => (sb3 a w).elim (fun w => dj a (.inr (.inr (.inl z))) w) fun w => n1 a w (.inr (.inl z))) fun w => n2 a w (.inl z))
              refine hh _ F2 H1 C3 ((st.trans st2).weak fun a z => ?_) S5 (((Agr.set (not_of a3)).trans (Agr.set (not_of b3))).trans (Agr.set (not_of d3)))
              rcases sb5 a z with z | z
              · rcases sb4 a z with z | z
                · rcases sb3 a z with z | z
                  · exact .inl z
                  · exact .inr (.inl z)
                · exact .inr (.inr (.inl z))
              · exact .inr (.inr (.inr (.inl z)))
      · exact hh.elim
  · cases h
theorem s_ife (ok : XOs g c k W X) {t : CE} {a b : CS} (ia : SndS g a) (ib : SndS g b) {st : Stmt} (h : chkS c (.ife t a b) st = true) : PS X st (rdS g W c.fx (ex g.G (.ife t a b))) := by
  simp only [chkS] at h
  split at h
  · simp only [Bool.and_eq_true] at h
    obtain ⟨⟨h1, h2⟩, h3⟩ := h
    refine ⟨fun pins s σ H D I ⟨F, A, ro, S, hh⟩ => ?_⟩
    simp only [ex] at hh
    refine (ps_if ((snd_all g t).T ok.toXOk h1) (ia.L ok h2) (ib.L ok h3)).run pins s σ H D I ⟨F, A, ro, S, hh.bindT fun z ro1 hh F1 H1 A1 st S1 => ?_⟩
    have hh := hh.shift st.asT (.refl : Agr c.fx σ σ)
    cases z with
    | true => exact ⟨F1, A1, ro1, S1, hh⟩
    | false => exact ⟨F1, A1, ro1, S1, hh⟩
  · cases h
/-- a turn's body, and what follows -/
theorem PostS.turn {fx : List Nat} {F : Hp} {A : AS} {σ : L2.St} {H : Hp} {r : SOut} {nxt : Ro → SOut} {D : Ends} {N : L2.St → Hp → Prop}
    (h : PostS g W fx F A σ H (match r with | .nx ro => nxt ro | .ct ro => nxt ro | .brk ro => .nx ro | r => r) D)
    (hN : ∀ ro' σ' F' H' A', PostS g W fx F' A' σ' H' (nxt ro') D → Sub F F' → SR g.K g.cl F' A' ro' σ' H' → N σ' H') : PostS g W fx F A σ H r { D with nx := N, ct := N, bk := D.nx } := by
  cases r with
  | nx ro1 => exact fun σ' F' H' A' st S ag => hN ro1 σ' F' H' A' (h.shift st.asT ag) st.fr S
  | ct ro1 => exact fun σ' F' H' A' st S ag => hN ro1 σ' F' H' A' (h.shift st.asT ag) st.fr S
  | brk ro1 => exact h
  | ret o ro1 => exact h
  | exc x ro1 => exact h
  | stuck => exact h
theorem s_whl (ok : XOs g c k W X) {t : CE} {b : CS} (ib : SndS g b) {st : Stmt} (h : chkS c (.whl t b) st = true) : PS X st (rdS g W c.fx (ex g.G (.whl t b))) := by
  simp only [chkS] at h
  split at h
  · simp only [Bool.and_eq_true] at h
    obtain ⟨⟨h1, h2⟩, h3⟩ := h
    refine ⟨fun pins s σ H D I ⟨F, A, ro, S, hh⟩ => ?_⟩
    simp only [ex] at hh
    refine (ps_while (ok.po h1) ((snd_all g t).T ok.toXOk h2) (ib.L ok h3)).run pins s σ H D I ?_
    refine ⟨fun n σ H => ∃ F A ro, SR g.K g.cl F A ro σ H ∧ PostS g W c.fx F A σ H (wLoop (tst g.G t) (ex g.G b) n ro) D, ⟨g.G.wf, F, A, ro, S, hh⟩, ?_⟩
    rintro n σ H ⟨F, A, ro, S, hh⟩
    cases n with
    | zero => exact hh.elim
    | succ n =>
      rw [wLoop] at hh
      refine ⟨F, A, ro, S, hh.bindT fun z ro1 hh F1 H1 A1 st S1 => ?_⟩
      have hh := hh.shift st.asT (.refl : Agr c.fx σ σ)
      cases z with
      | true =>
        simp only [if_true] at hh ⊢
        refine ⟨fun σ' H' => ∃ F A ro, SR g.K g.cl F A ro σ' H' ∧ PostS g W c.fx F A σ' H' (wLoop (tst g.G t) (ex g.G b) n ro) D, fun σ' H' hN => ⟨n, Nat.lt_succ_self n, hN⟩, F1, A1, ro1, S1, hh.turn fun ro' σ' F' H' A' p _ S' => ⟨F', A', ro', S', p⟩⟩
      | false =>
        simp only [Bool.false_eq_true, if_false] at hh ⊢
        exact hh σ F1 H1 A1 .refl S1 .refl
  · cases h
/-- an item comes into the frozen part, no tree beside -/
theorem item_in0 {K : PySem.W.Frag} {cl : Str → Option Addr} {F0 F H H' : Hp} {A : AS} {ro : Ro} {σ : L2.St} {x : PyData} {v : V} (s0 : Sub F0 F) (S : SR K cl F A ro σ H) (r : Res K F0 H (.d x) v H') :
    ∃ F2, SR K cl F2 A ro σ H' ∧ Dq K F2 v x ∧ Stp F H A F2 H' A := by
  have old : H' = H → Dq K F0 v x → ∃ F2, SR K cl F2 A ro σ H' ∧ Dq K F2 v x ∧ Stp F H A F2 H' A := fun e d => by
    subst e
    exact ⟨F, S, Dq.mono s0 _ _ d, .refl⟩
  cases x with
  | tuple xs =>
    rcases r with ⟨e, d⟩ | ⟨p, vs, rfl, hp, rfl, d⟩
    · exact old e d
    · obtain ⟨S1, s1⟩ := S.newF (ob := .tup vs) hp
      exact ⟨_, S1, .tup (SqT.of upd_same) (Dq.monoAll (s0.trans (Sub.new (S.sub.none hp))) _ _ d), s1⟩
  | none => exact old r.1 r.2
  | bool _ => exact old r.1 r.2
  | int _ => exact old r.1 r.2
  | str _ => exact old r.1 r.2
  | list _ => exact old r.1 r.2
  | dict _ => exact old r.1 r.2
theorem agr_of {fx : List Nat} {tg : CE} {σ σ' : L2.St} (h3 : (tgSlots tg).all (fun i => !(fx.contains i)) = true) (hw : ∀ vs : List Nat, (∀ i ∈ tgSlots tg, i ∈ vs) → L2.wipe σ' vs = L2.wipe σ vs) : Agr fx σ σ' := fun j hj => by
  have nj : j ∉ tgSlots tg := fun z => by
    have := List.all_eq_true.mp h3 j z
    rw [show fx.contains j = true from by simpa using hj] at this
    cases this
  have := congrArg (·[j]?) (hw (tgSlots tg) fun _ z => z)
  simpa [wipe_get nj] using this
theorem s_for (ok : XOs g c k W X) {tg it : CE} {b : CS} (ib : SndS g b) {st : Stmt} (h : chkS c (.for_ tg it b) st = true) : PS X st (rdS g W c.fx (ex g.G (.for_ tg it b))) := by
  simp only [chkS] at h
  split at h
  · simp only [Bool.and_eq_true] at h
    obtain ⟨⟨⟨⟨⟨h1, h2⟩, h3⟩, h4⟩, h5⟩, h6⟩ := h
    refine ⟨fun pins s σ H D I ⟨F, A, ro, S, hh⟩ => ?_⟩
    simp only [ex] at hh
    refine (ps_for (ok.po h1) (by rw [ok.calm]; exact h1) ((snd_all g it).I true ok.toXOk h2) (g_all ok.toXOk h1 tg h4) (ib.L ok h6) (fun x => fold_of h3 x)).run pins s σ H D I ?_
    refine ⟨F, A, ro, S, hh.bindI fun xs ro1 hh J F1 H1 A1 st S1 itf => ?_⟩
    have hh := hh.shift st.asT (.refl : Agr c.fx σ σ)
    simp only [if_true] at itf
    refine ⟨fun i m σ H => m = xs.length - i ∧ i ≤ xs.length ∧ ∃ F A ro, SR g.K g.cl F A ro σ H ∧ Sub F1 F ∧ PostS g W c.fx F A σ H (fLoop tg (ex g.G b) (xs.drop i) ro) D, ⟨xs.length, rfl, Nat.zero_le _, F1, A1, ro1, S1, .refl _, by rw [List.drop_zero]; exact hh⟩, ?_⟩
    rintro i m σ H2 ⟨rfl, hi, F2, A2, ro2, S2, sF, hh⟩
    have sB : Sub F1 H2 := sF.trans S2.sub
    by_cases hlt : i < xs.length
    · have hx : xs[i]? = some xs[i] := List.getElem?_eq_getElem hlt
      obtain ⟨go, yl⟩ := itf.go i xs[i] H2 hx sB
      refine .inr ⟨go, fun σ' H' => ∃ F A ro, SR g.K g.cl F A ro σ' H' ∧ Sub F1 F ∧ PostS g W c.fx F A σ' H' (fLoop tg (ex g.G b) (xs.drop (i + 1)) ro) D, fun σ' H' hN => ⟨xs.length - (i + 1), by omega, rfl, hlt, hN⟩, fun v H' y => ?_⟩
      obtain ⟨F3, S3, hdq, st3⟩ := item_in0 sF S2 (yl v H' y)
      rw [List.drop_eq_getElem_cons hlt, fLoop] at hh
      split at hh
      · rename_i roa ha
        refine ⟨F3, A2, ro2, xs[i], roa, S3, hdq, ha, fun σ' A' S4 sb4 hw => ?_⟩
        have ag : Agr c.fx σ σ' := agr_of h5 hw
        have hh := hh.shift (T := fun _ => False) (st3.weak (T := fun a => A' a ∨ False) fun a z => sb4 a (z.elim id False.elim)) ag
        exact ⟨F3, A', roa, S4, hh.turn fun ro' σ'' F' H'' A'' p sb5 S' => ⟨F', A'', ro', S', (sF.trans st3.fr).trans sb5, p⟩⟩
      · exact hh.elim
    · have en : i = xs.length := by omega
      subst en
      refine .inl ⟨itf.stop H2 sB, ?_⟩
      rw [List.drop_length, fLoop] at hh
      exact hh σ F2 H2 A2 .refl S2 .refl
  · cases h
theorem s_rai (ok : XOs g c k W X) {x : Str} {st : Stmt} (h : chkS c (.rai x) st = true) : PS X st (rdS g W c.fx (ex g.G (.rai x))) := by
  simp only [chkS] at h
  split at h
  · simp only [Bool.and_eq_true, decide_eq_true_eq] at h
    obtain ⟨⟨⟨h1, h2⟩, h3⟩, h4⟩ := h
    subst h2
    obtain ⟨C, B, newId, initId, bmB, e1, e2, e3, e4, e5, e6⟩ := ok.exs x (by simpa using h4)
    obtain ⟨g1, g2, g3⟩ := ok.toXOk.glb h3
    refine ⟨fun pins s σ H D I ⟨F, A, ro, S, hh⟩ => ?_⟩
    simp only [ex] at hh
    exact (ps_raise (by rw [ok.calm]; exact h1) ok.tk (pmk_own e1 (by rw [ok.kk]; exact e2) (by rw [ok.mm]; exact e3) (by rw [ok.kk]; exact e4) (raises_own (by rw [ok.kk]; exact e5) (by rw [ok.kk]; exact e6)) g1 g2)).run pins s σ H D I (hh C σ F H A e3 .refl S .refl)
  · cases h
/-- the surroundings of a try's body, of a clause -/
theorem XOs.tr (ok : XOs g c k W X) {W' : WX} {pn : List (Addr × Obj)} {xe : Value → Shared → Prop} (tk : Takes (X.tr pn xe) W') (po : PassesOwn (model X.prog X.w) X.A X.env xe) : XOs g c k W' (X.tr pn xe) where
  pr := ok.pr
  ww := ok.ww
  kk := ok.kk
  mm := ok.mm
  bb := ok.bb
  hN := ok.hN
  nd := ok.nd
  sc := ok.sc
  calm := ok.calm
  room := ok.room
  un := ok.un
  fns := ok.fns
  blt := ok.blt
  gls := ok.gls
  fnc := ok.fnc
  exs := ok.exs
  exm := ok.exm
  tk := tk
  stk0 := ok.stk0
  stk := ok.stk
  frm := ok.frm
  knd := ok.knd
  po := fun _ => po
theorem XOs.suite (ok : XOs g c k W X) {a : Addr} {pn : List (Addr × Obj)} : XOs g { c with calm := false } k (fun _ _ _ _ => False) (X.suite a pn) where
  pr := ok.pr
  ww := ok.ww
  kk := ok.kk
  mm := ok.mm
  bb := ok.bb
  hN := ok.hN
  nd := ok.nd
  sc := ok.sc
  calm := rfl
  room := fun z => by cases z
  un := ok.un
  fns := ok.fns
  blt := ok.blt
  gls := ok.gls
  fnc := ok.fnc
  exs := ok.exs
  exm := ok.exm
  tk := takes_none5
  stk0 := ok.stk0
  stk := ok.stk
  frm := ok.frm
  knd := ok.knd
  po := fun z => by cases z
theorem many_of (ok : XOs g c k W X) {D : Ends} {F : Hp} {A : AS} {σ : L2.St} {H : Hp} {x : Exn} {C : Addr} {ro : Ro} (hm : g.mg x.cls = some (.ref C)) (S : SR g.K g.cl F A ro σ H) : ∀ {hs : CS}, PostS g W c.fx F A σ H (exH g.G hs x ro) D → wMany g.K W D (hdl g c.fx hs) (.ref C) none σ H
  | .nil, hh => by
    simp only [exH] at hh
    exact hh C σ F H A hm .refl S .refl
  | .hd y b rest, hh => by
    simp only [exH] at hh
    simp only [hdl, wMany]
    cases e : g.G.exm x.cls y with
    | none => rw [e] at hh; exact hh.elim
    | some z =>
      rw [e] at hh
      obtain ⟨C', u, m1, m2, m3⟩ := ok.exm _ _ _ e
      rw [hm] at m1
      cases m1
      refine ⟨z, by rw [m2]; exact m3, fun ez a ha => ?_, fun ez => ?_⟩
      · subst ez
        refine ⟨F, A, ro, S, ?_⟩
        cases r : ex g.G b ro with
        | exc x' r2 => rw [r] at hh; exact hh.elim
        | nx r2 => rw [r] at hh; exact hh
        | ct r2 => rw [r] at hh; exact hh
        | brk r2 => rw [r] at hh; exact hh
        | ret o r2 => rw [r] at hh; exact hh
        | stuck => rw [r] at hh; exact hh
      · subst ez
        exact many_of ok hm S hh
  | .seq _ _, hh => by simp only [exH] at hh; exact hh.elim
  | .pass, hh => by simp only [exH] at hh; exact hh.elim
  | .doc, hh => by simp only [exH] at hh; exact hh.elim
  | .brk, hh => by simp only [exH] at hh; exact hh.elim
  | .cnt, hh => by simp only [exH] at hh; exact hh.elim
  | .retN, hh => by simp only [exH] at hh; exact hh.elim
  | .ret _, hh => by simp only [exH] at hh; exact hh.elim
  | .set _ _, hh => by simp only [exH] at hh; exact hh.elim
  | .setc _ _, hh => by simp only [exH] at hh; exact hh.elim
  | .unp _ _, hh => by simp only [exH] at hh; exact hh.elim
  | .par2 _ _ _, hh => by simp only [exH] at hh; exact hh.elim
  | .par3 _ _ _ _, hh => by simp only [exH] at hh; exact hh.elim
  | .aug _ _ _, hh => by simp only [exH] at hh; exact hh.elim
  | .exp _, hh => by simp only [exH] at hh; exact hh.elim
  | .ife _ _ _, hh => by simp only [exH] at hh; exact hh.elim
  | .whl _ _, hh => by simp only [exH] at hh; exact hh.elim
  | .for_ _ _ _, hh => by simp only [exH] at hh; exact hh.elim
  | .rai _, hh => by simp only [exH] at hh; exact hh.elim
  | .try_ _ _, hh => by simp only [exH] at hh; exact hh.elim
  | .bad, hh => by simp only [exH] at hh; exact hh.elim
theorem s_try (ok : XOs g c k W X) {b hs : CS} (ib : SndS g b) (ih : SndS g hs) {st : Stmt} (h : chkS c (.try_ b hs) st = true) : PS X st (rdS g W c.fx (ex g.G (.try_ b hs))) := by
  simp only [chkS] at h
  split at h
  · simp only [Bool.and_eq_true] at h
    obtain ⟨⟨h1, h2⟩, h3⟩ := h
    refine ⟨fun pins s σ H D I ⟨F, A, ro, S, hh⟩ => ?_⟩
    simp only [ex] at hh
    refine (ps_try_many (tb := fun W' => rdS g W' c.fx (ex g.G b)) (l := hdl g c.fx hs) (Wout := W) ok.stk ok.frm ok.tk (fun W' pn xe tk po => ib.L (ok.tr tk po) h2) (ih.H ok h3)).run pins s σ H D I ⟨F, A, ro, S, ?_⟩
    cases r : ex g.G b ro with
    | nx ro1 => rw [r] at hh; exact hh
    | ct ro1 => rw [r] at hh; exact hh
    | brk ro1 => rw [r] at hh; exact hh
    | ret o ro1 => rw [r] at hh; exact hh
    | stuck => rw [r] at hh; exact hh
    | exc x ro1 =>
      rw [r] at hh
      intro C σ' F' H' A' hm st S' ag
      rw [ok.kk]
      exact many_of ok hm S' (hh.shift st.asT ag)
  · cases h
end
end Lw

set_option maxRecDepth 100000
set_option maxHeartbeats 1000000
/-! Lw18: sequences, clauses; functions. -/
namespace Lw
open PySem L2 RZ
section
variable {g : Gx} {c : CC} {k : Nat} {W : WX} {X : Cx}
theorem ss_nil (ok : XOs g c k W X) {sts : List Stmt} (h : chkSs c .nil sts = true) : PSs X sts (rdS g W c.fx (ex g.G .nil)) := by
  simp only [chkSs] at h
  split at h
  · refine ⟨fun pins s σ H D I ⟨F, A, ro, S, hh⟩ => ?_⟩
    simp only [ex] at hh
    exact pss_nil.run pins s σ H D I (hh σ F H A .refl S .refl)
  · cases h
theorem ss_seq (ok : XOs g c k W X) {a b : CS} (ia : SndS g a) (ib : SndS g b) {sts : List Stmt} (h : chkSs c (.seq a b) sts = true) : PSs X sts (rdS g W c.fx (ex g.G (.seq a b))) := by
  simp only [chkSs] at h
  split at h
  · obtain ⟨h1, h2⟩ := and2 h
    refine ⟨fun pins s σ H D I ⟨F, A, ro, S, hh⟩ => ?_⟩
    simp only [ex] at hh
    refine (pss_cons (ia.S ok h1) (ib.L ok h2)).run pins s σ H D I ⟨F, A, ro, S, ?_⟩
    cases r : ex g.G a ro with
    | nx ro1 =>
      rw [r] at hh
      exact fun σ' F' H' A' st S' ag => ⟨F', A', ro1, S', hh.shift st.asT ag⟩
    | brk ro1 => rw [r] at hh; exact hh
    | ct ro1 => rw [r] at hh; exact hh
    | ret o ro1 => rw [r] at hh; exact hh
    | exc x ro1 => rw [r] at hh; exact hh
    | stuck => rw [r] at hh; exact hh
  · cases h
theorem h_nil (ok : XOs g c k W X) {hds : List ExceptHandler} (h : chkH { c with calm := false } .nil hds = true) : HdsOk X hds (hdl g c.fx .nil) := by
  simp only [chkH] at h
  split at h
  · exact .nil
  · cases h
theorem h_hd (ok : XOs g c k W X) {y : Str} {b rest : CS} (ib : SndS g b) (ir : SndS g rest) {hds : List ExceptHandler} (h : chkH { c with calm := false } (.hd y b rest) hds = true) : HdsOk X hds (hdl g c.fx (.hd y b rest)) := by
  simp only [chkH] at h
  split at h
  · simp only [Bool.and_eq_true, decide_eq_true_eq] at h
    obtain ⟨⟨⟨⟨h1, h2⟩, h3⟩, h4⟩, h5⟩ := h
    subst h1
    obtain ⟨C, B, newId, initId, bmB, e1, e2, e3, e4, e5, e6⟩ := ok.exs _ (by simpa using h3)
    obtain ⟨g1, g2, g3⟩ := ok.toXOk.glb (show glbB c _ = true from h2)
    refine .cons ⟨g1, g2, .inl (by rw [ok.mm, e3]; rfl)⟩ (fun a oe cls d pn _ _ => ?_) (ir.H ok h5)
    exact ib.L (ok.suite (a := a) (pn := (a, oe) :: pn)) h4
  · cases h
theorem SndS.st {cs : CS} (hS : ∀ {c : CC} {k : Nat} {W : WX} {X : Cx}, XOs g c k W X → ∀ {st : Stmt}, chkS c cs st = true → PS X st (rdS g W c.fx (ex g.G cs)))
    (hL : ∀ (c : CC) sts, chkSs c cs sts = false := by intros; rfl) (hH : ∀ (c : CC) hds, chkH c cs hds = false := by intros; rfl) : SndS g cs where
  S := hS
  L := by intro c k W X ok sts h; exact no (hL _ _) h
  H := by intro c k W X ok hds h; exact no (hH _ _) h
theorem SndS.never {cs : CS} (hS : ∀ (c : CC) st, chkS c cs st = false := by intros; rfl) (hL : ∀ (c : CC) sts, chkSs c cs sts = false := by intros; rfl) (hH : ∀ (c : CC) hds, chkH c cs hds = false := by intros; rfl) : SndS g cs where
  S := by intro c k W X ok st h; exact no (hS _ _) h
  L := by intro c k W X ok sts h; exact no (hL _ _) h
  H := by intro c k W X ok hds h; exact no (hH _ _) h
end
theorem snds_all (g : Gx) : ∀ cs : CS, SndS g cs
  | .nil => { S := by intro c k W X ok st h; exact no (by rfl) h
              L := by intro c k W X ok sts h; exact ss_nil ok h
              H := by intro c k W X ok hds h; exact h_nil ok h }
  | .seq a b => { S := by intro c k W X ok st h; exact no (by rfl) h
                  L := by intro c k W X ok sts h; exact ss_seq ok (snds_all g a) (snds_all g b) h
                  H := by intro c k W X ok hds h; exact no (by rfl) h }
  | .hd y b rest => { S := by intro c k W X ok st h; exact no (by rfl) h
                      L := by intro c k W X ok sts h; exact no (by rfl) h
                      H := by intro c k W X ok hds h; exact h_hd ok (snds_all g b) (snds_all g rest) h }
  | .bad => .st fun {c k W X} ok {st} h => ⟨fun _ _ _ _ _ _ ⟨_, _, _, _, z⟩ => by simp only [ex] at z; exact z.elim⟩
  | .pass => .st fun {c k W X} ok {st} h => s_pass ok h
  | .doc => .st fun {c k W X} ok {st} h => s_doc ok h
  | .brk => .st fun {c k W X} ok {st} h => s_brk ok h
  | .cnt => .st fun {c k W X} ok {st} h => s_cnt ok h
  | .retN => .st fun {c k W X} ok {st} h => s_retN ok h
  | .ret e => .st fun {c k W X} ok {st} h => s_ret ok h
  | .set i e => .st fun {c k W X} ok {st} h => s_set ok h
  | .setc i e => .st fun {c k W X} ok {st} h => s_setc ok h
  | .unp tg e => .st fun {c k W X} ok {st} h => s_unp ok h
  | .par2 i j es => .st fun {c k W X} ok {st} h => s_par2 ok h
  | .par3 i j l es => .st fun {c k W X} ok {st} h => s_par3 ok h
  | .aug i op e => .st fun {c k W X} ok {st} h => s_aug ok h
  | .exp e => .st fun {c k W X} ok {st} h => s_exp ok h
  | .ife t a b => .st fun {c k W X} ok {st} h => s_ife ok (snds_all g a) (snds_all g b) h
  | .whl t b => .st fun {c k W X} ok {st} h => s_whl ok (snds_all g b) h
  | .for_ tg it b => .st fun {c k W X} ok {st} h => s_for ok (snds_all g b) h
  | .rai x => .st fun {c k W X} ok {st} h => s_rai ok h
  | .try_ b hs => .st fun {c k W X} ok {st} h => s_try ok (snds_all g b) (snds_all g hs) h
/-! ### functions -/
/-- a def in compact form: how many parameters, how many names, the body -/
structure FR where
  np : Nat
  nN : Nat
  body : CS
/-- what all levels have in common -/
structure Base where
  tbl : List FR
  glob : Str → Option PyData
  wf : Nat
  exm : Str → Str → Option Bool
def outF : SOut → FOut
  | .ret o _ => .ok o []
  | .nx _ => .ok (.d .none) []
  | .exc x _ => .exc x []
  | _ => .stuck
def callN (B : Base) : Nat → Nat → List O → FOut
  | 0, _, _ => .stuck
  | l + 1, i, os => match B.tbl[i]? with
    | some r => if os.length = r.np then outF (ex ⟨callN B l, B.glob, B.wf, B.exm⟩ r.body (os.map some ++ List.replicate (r.nN - r.np) none)) else .stuck
    | none => .stuck
def Base.ge (B : Base) (l : Nat) : GE := ⟨callN B l, B.glob, B.wf, B.exm⟩
/-- what is fixed through a law, at a level -/
def gxOf (P : Program) (w : World) (K : PySem.W.Frag) (mg : Str → Option Value) (base : Heap) (cl : Str → Option Addr) (B : Base) (l : Nat) : Gx := ⟨P, w, K, mg, base, cl, B.ge l⟩
/-- the static part of a def -/
structure DefC where
  name : Str
  ps : List Str
  N : List Str
  st : Stmt
  fr : FR
section
variable {P : Program} {w : World} {K : PySem.W.Frag} {mg : Str → Option Value} {base : Heap} {cl : Str → Option Addr} {B : Base}
/-- the parameters' slots at the entry -/
theorem RS.start {F H : Hp} : ∀ {os : List O} {vs : List V} {A : AS} (n : Nat), ORs K cl F H os vs A → RS K cl F H (os.map some ++ List.replicate n none) (vs.map some ++ List.replicate n none) A
  | _, _, _, n, .nil => by
    rw [List.map_nil, List.map_nil, List.nil_append, List.nil_append]
    induction n with
    | zero => exact .nil
    | succ n ih => rw [List.replicate_succ, List.replicate_succ]; exact .no ih
  | _, _, _, n, .cons h t d => by
    rw [List.map_cons, List.map_cons, List.cons_append, List.cons_append]
    exact .yes h (RS.start n t) d
/-- one def, a level further -/
theorem fn_step {x : Str} {st : Stmt} {f : Addr} {fd : FuncData} {ps : List Str} {c : CC} {i l : Nat} {r : FR} (F : Fun K x x st f fd) (S : FnScope c.N ps (defScope st)) (hr : B.tbl[i]? = some r) (hnp : r.np = ps.length) (hnN : r.nN = c.N.length)
    (hc : chkSs c r.body (defBody st) = true) (hcalm : c.calm = true) (hsc : c.sc = defScope st) (hfn : c.fnB = none)
    (fns : ∀ f x, c.fns[f]? = some x → ∃ ad fd ps, mg x = some (.ref ad) ∧ FnOk P w K mg base (L2.CX P w) l ad fd ps (PSpec (gxOf P w K mg base cl B l) (callN B l f)) ∧ PySem.W.keepIn K (.ref ad) = true ∧ Binds K fd ps [])
    (blt : ∀ x, x ∈ c.blt → mg x = none)
    (gls : ∀ x, x ∈ c.gls → ∃ u v d, mg x = some u ∧ RelV v u ∧ B.glob x = some d ∧ ∀ F, Dq K F v d)
    (exs : ∀ x, x ∈ c.exs → ∃ (C : Addr) (B newId initId : String) (bmB : List Value), ExcBaseFacts B newId initId bmB ∧ PySem.W.excIn K C bmB newId = true ∧ mg x = some (.ref C) ∧ PySem.W.keepIn K (.ref C) = true ∧
      PySem.W.subIn K (.ref C) (.type "BaseException") = some true ∧ PySem.W.typeIn K (.ref C) = some (.type "type"))
    (exm : ∀ x y b, B.exm x y = some b → ∃ (C : Addr) (u : Value), mg x = some (.ref C) ∧ mg y = some u ∧ PySem.W.exmOne K (.ref C) u = some b) :
    FnOk P w K mg base (L2.CX P w) (l + 1) f fd ps (PSpec (gxOf P w K mg base cl B (l + 1)) (callN B (l + 1) i)) := by
  refine F.okX S (fun vs H Q E h => ?_) (fun cdv A outer s H vs Q E hr2 h => ?_)
  · obtain ⟨F', A', os, _, h2, h3⟩ := h
    rw [callN, hr] at h3
    simp only at h3
    by_cases e : os.length = r.np
    · rw [← h2.len, e, hnp]
    · rw [if_neg e] at h3
      exact h3.elim
  · obtain ⟨F', A', os, h1, h2, h3⟩ := h
    rw [callN, hr] at h3
    simp only at h3
    by_cases e : os.length = r.np
    · rw [if_pos e] at h3
      have lv : vs.length = ps.length := by rw [← h2.len, e, hnp]
      have xo : XOs (gxOf P w K mg base cl B l) c l (fun cls d _ H => E cls d H) (cxOf (L2.CX P w) P w K mg base c.N x (defScope st) f cdv A outer s H E) :=
        { pr := rfl, ww := rfl, kk := rfl, mm := rfl, bb := rfl, hN := rfl, nd := S.nd, sc := hsc.symm, calm := hcalm.symm
          room := fun _ => hr2
          un := by have := hr2.un; show (A.deeper _).units + 200 < cLine; omega
          fns := fns, blt := blt, gls := gls
          fnc := fun y _ => rfl
          exs := exs, exm := exm
          tk := takes_of rfl rfl rfl rfl
          stk0 := fun _ => ⟨rfl, rfl⟩
          stk := rfl, frm := rfl
          knd := S.kind
          po := fun _ => passes_of rfl }
      refine ⟨_, (snds_all _ r.body).L xo hc, F', A', os.map some ++ List.replicate (r.nN - r.np) none, ⟨?_, h1⟩, ?_⟩
      · have := RS.start (K := K) (cl := cl) (F := F') (H := H) (r.nN - r.np) h2
        unfold L2.start
        rw [lv, ← hnp, ← hnN]
        exact this
      · change (match outF (ex (B.ge l) r.body (os.map some ++ List.replicate (r.nN - r.np) none)) with
          | .ok o _ => ∀ v F'' H' Ao, Stp F' H A' F'' H' Ao → Sub F'' H' → OR K cl F'' H' o v Ao → Q v H'
          | .exc x _ => ∀ C F'' H', mg x.cls = some (.ref C) → Stp F' H A' F'' H' (fun _ => False) → Sub F'' H' → E (.ref C) none H'
          | .stuck => False) at h3
        show PostS (gxOf P w K mg base cl B l) _ c.fx F' A' _ H (ex (B.ge l) r.body (os.map some ++ List.replicate (r.nN - r.np) none)) _
        cases q : ex (B.ge l) r.body (os.map some ++ List.replicate (r.nN - r.np) none) with
        | nx ro1 =>
          rw [q] at h3
          exact fun σ' F2 H2 A2 st2 S2 _ => h3 .non F2 H2 (fun _ => False) (st2.weak fun a z => z.elim) S2.sub (.d .non)
        | ret o ro1 =>
          rw [q] at h3
          exact fun v σ' F2 H2 A2 Ao st2 S2 ho dj _ => h3 v F2 H2 Ao (st2.weak fun a z => .inr z) S2.sub ho
        | exc y ro1 =>
          rw [q] at h3
          exact fun C σ' F2 H2 A2 hm st2 S2 _ => h3 C F2 H2 hm (st2.weak fun a z => z.elim) S2.sub
        | brk ro1 => rw [q] at h3; exact h3.elim
        | ct ro1 => rw [q] at h3; exact h3.elim
        | stuck => rw [q] at h3; exact h3.elim
    · rw [if_neg e] at h3
      exact h3.elim
end
end Lw

set_option maxRecDepth 100000
set_option maxHeartbeats 1000000
/-! Lw19: all functions; the law's end. -/
namespace Lw
open PySem L2 RZ
/-- what the top has written of a def, and that it is the compact one -/
def DefOk (K : PySem.W.Frag) (mg : Str → Option Value) (fns blt gls exs : List Str) (B : Base) (i : Nat) (name : Str) : Prop :=
  ∃ (st : Stmt) (ad : Addr) (fd : FuncData) (ps N : List Str) (r : FR), Fun K name name st ad fd ∧ FnScope N ps (defScope st) ∧ B.tbl[i]? = some r ∧ r.np = ps.length ∧ r.nN = N.length ∧
    chkSs ⟨N, defScope st, fns, blt, gls, true, none, exs, []⟩ r.body (defBody st) = true ∧ mg name = some (.ref ad) ∧ Binds K fd ps []
section
variable {P : Program} {w : World} {K : PySem.W.Frag} {mg : Str → Option Value} {base h : Heap} {cl : Str → Option Addr} {B : Base} {fns blt gls exs : List Str}
theorem DefOk.mk {st : Stmt} {name : Str} {f : Addr} {od an : Option Addr} {sl : Array (Option Value)} {oc kV dc pm cd ct : Value} {ps N : List Str} {r : FR} {i : Nat} (X : K.In h) (G : h.Ns mainGlobals mg)
    (a : PySem.W.nsIn K mainGlobals name = some (some (.ref f))) (l : K.lookup f = some ⟨oc, od, .func (PySem.W.fnOf name name (defArgs st) (defBody st) (defScope st) .none kV dc pm an cd ct), sl⟩) (c : PySem.W.codeIn K cd name = true) (k : PySem.W.keepIn K (.ref f) = true)
    (S : FnScope N ps (defScope st)) (ht : B.tbl[i]? = some r) (hp : r.np = ps.length) (hN : r.nN = N.length) (hc : chkSs ⟨N, defScope st, fns, blt, gls, true, none, exs, []⟩ r.body (defBody st) = true)
    (hb : ∀ (kV doc pm : Value) (an : Option Addr) (cdv ct : Value) (us : List Value), us.length = ps.length → bindArgs (PySem.W.fnOf name name (defArgs st) (defBody st) (defScope st) .none kV doc pm an cdv ct) ⟨us, []⟩ = pure (ps.zip us)) : DefOk K mg fns blt gls exs B i name :=
  have F := fun_mk (st := st) l c k
  ⟨st, f, _, ps, N, r, F, S, ht, hp, hN, hc, PySem.W.mg_of X G a, F.binds hb⟩
/-- what the top has written of an exception's class -/
def ExcOk (K : PySem.W.Frag) (mg : Str → Option Value) (x : Str) : Prop :=
  ∃ (C : Addr) (B newId initId : String) (bmB : List Value), ExcBaseFacts B newId initId bmB ∧ PySem.W.excIn K C bmB newId = true ∧ mg x = some (.ref C) ∧ PySem.W.keepIn K (.ref C) = true ∧
      PySem.W.subIn K (.ref C) (.type "BaseException") = some true ∧ PySem.W.typeIn K (.ref C) = some (.type "type")
def GlbOk (K : PySem.W.Frag) (mg : Str → Option Value) (B : Base) (x : Str) : Prop := ∃ u v d, mg x = some u ∧ RelV v u ∧ B.glob x = some d ∧ ∀ F, Dq K F v d
def ExmOk (K : PySem.W.Frag) (mg : Str → Option Value) (x y : Str) (b : Bool) : Prop := ∃ (C : Addr) (u : Value), mg x = some (.ref C) ∧ mg y = some u ∧ PySem.W.exmOne K (.ref C) u = some b
theorem fns_all (hd : ∀ i name, fns[i]? = some name → DefOk K mg fns blt gls exs B i name) (hblt : ∀ x, x ∈ blt → mg x = none) (hgls : ∀ x, x ∈ gls → GlbOk K mg B x) (hexs : ∀ x, x ∈ exs → ExcOk K mg x) (hexm : ∀ x y b, B.exm x y = some b → ExmOk K mg x y b) :
    ∀ l i name, fns[i]? = some name → ∃ ad fd ps, mg name = some (.ref ad) ∧ FnOk P w K mg base (L2.CX P w) l ad fd ps (PSpec (gxOf P w K mg base cl B l) (callN B l i)) ∧ PySem.W.keepIn K (.ref ad) = true ∧ Binds K fd ps []
  | 0, i, name, hi => by
    obtain ⟨st, ad, fd, ps, N, r, F, S, ht, hp, hN, hc, hm, hb⟩ := hd i name hi
    have nope : ∀ vs H Q E, ¬ PSpec (gxOf P w K mg base cl B 0) (callN B 0 i) vs H Q E := fun vs H Q E ⟨_, _, _, _, _, z⟩ => z
    exact ⟨ad, fd, ps, hm, ⟨fun vs H Q E z => absurd z (nope vs H Q E), fun A outer s H args us vs Q E _ _ _ _ z => absurd z (nope vs H Q E)⟩, F.kp, hb⟩
  | l + 1, i, name, hi => by
    obtain ⟨st, ad, fd, ps, N, r, F, S, ht, hp, hN, hc, hm, hb⟩ := hd i name hi
    refine ⟨ad, fd, ps, hm, ?_, F.kp, hb⟩
    exact fn_step (c := ⟨N, defScope st, fns, blt, gls, true, none, exs, []⟩) F S ht hp hN hc rfl rfl rfl (fns_all hd hblt hgls hexs hexm l) hblt hgls hexs hexm
/-- what law(script) promises: for a list of at most 63 ints the answer is True -/
def lawSp (K : PySem.W.Frag) : Sp := fun vs H Q _ => ∃ (a : Addr) (ns : List Int), vs = [.ref a] ∧ SqL K H a (ns.map V.int) ∧ ns.length ≤ 63 ∧ ∀ H', Q (.bl true) H'
theorem fn_law {g : Gx} {f : List O → FOut} {l : Nat} {ad : Addr} {fd : FuncData} {ps : List Str} (h : FnOk P w K mg base (L2.CX P w) l ad fd ps (PSpec g f)) (hk : g.K = K) (plain : ∀ ns : List Int, ns.length ≤ 63 → ∃ back, f [.scr ns] = .ok (.d (.bool true)) back) :
    FnOk P w K mg base (L2.CX P w) l ad fd ps (lawSp K) := by
  refine h.imp fun vs H Q E ⟨a, ns, e, hS, hl, q⟩ => ?_
  subst e
  obtain ⟨back, hp⟩ := plain ns hl
  refine ⟨H, _, [.scr ns], .refl _, .cons (.scr (by rw [hk]; exact hS)) .nil fun _ _ z => z, ?_⟩
  rw [hp]
  intro v F' H' Ao st sb ho
  cases ho with
  | d hd =>
    rw [hd.bool_eq]
    exact q H'
end
/-- the end of a law -/
theorem law_walk {l : PySem.W.OpenLaw} {q : Program} {loose : List Str} {XP : (Str → Option Value) → Heap → Prop} {YP : World → Heap → Prop} {d : DefRec} {K : Params → PySem.W.Frag} {n : Nat} (hn : l.most = some 63) (hdf : d.params.defaults = []) (hr : Room n callerA)
    (hY : ∀ (w : World) (h : Heap), YP w h → (K w.params).In h)
    (F : ∀ (w : World) (mg : Str → Option Value) (fa : Addr) (h : Heap), (K w.params).In h → h.Ns mainGlobals mg → mg d.name = some (.ref fa) →
      ∃ fd : FuncData, (∀ (s : Shared) (u : Value), BindsTo s fd ⟨[u], []⟩ [("script", u)]) ∧ ∀ base : Heap, (K w.params).In base → base.Ns mainGlobals mg → FnOk l.prog w (K w.params) mg base (L2.CX l.prog w) n fa fd ["script"] (lawSp (K w.params))) :
    PySem.W.WalkO q loose XP YP l.row.toRowW d [] (fun f vs => PySem.call f vs) :=
  L2.walk_of (n := 63) (k := n) (x := "script") (CX := fun w => L2.CX l.prog w) (sp := fun w => lawSp (K w.params)) hn (by decide) hdf hr hY F (fun _ _ a ns hl _ hS => ⟨a, ns, rfl, hS, hl, fun _ => rfl⟩) fun _ _ _ _ _ ⟨_, _, _, _, _, _, _, _, _, _, _, _, z⟩ => z
/-- the law among the functions -/
theorem law_fn {P : Program} {w : World} {K : PySem.W.Frag} {mg : Str → Option Value} {cl : Str → Option Addr} {B : Base} {fns blt gls exs : List Str} {i l : Nat} {fa : Addr} (hi : fns[i]? = some "law") (hfa : mg "law" = some (.ref fa))
    (hd : ∀ i name, fns[i]? = some name → DefOk K mg fns blt gls exs B i name) (hblt : ∀ x, x ∈ blt → mg x = none) (hgls : ∀ x, x ∈ gls → GlbOk K mg B x) (hexs : ∀ x, x ∈ exs → ExcOk K mg x) (hexm : ∀ x y b, B.exm x y = some b → ExmOk K mg x y b)
    (hnp : ∀ r, B.tbl[i]? = some r → r.np = 1) (plain : ∀ ns : List Int, ns.length ≤ 63 → ∃ back, callN B (l + 1) i [.scr ns] = .ok (.d (.bool true)) back)
    (hb1 : ∀ st : Stmt, True) : ∃ fd : FuncData, ∀ base : Heap, ∃ ps, FnOk P w K mg base (L2.CX P w) (l + 1) fa fd ps (lawSp K) := by
  obtain ⟨st, ad, fd, ps, N, r, F, S, ht, hp, hN, hc, hm, hb⟩ := hd i "law" hi
  rw [hfa] at hm
  cases hm
  refine ⟨fd, fun base => ⟨ps, ?_⟩⟩
  have := fn_step (P := P) (w := w) (base := base) (cl := fun _ => none) (l := l) (c := ⟨N, defScope st, fns, blt, gls, true, none, exs, []⟩) F S ht hp hN hc rfl rfl rfl (fns_all hd hblt hgls hexs hexm l) hblt hgls hexs hexm
  exact fn_law this rfl plain
end Lw
namespace Lw
open PySem L2 RZ
theorem law_at {P : Program} {w : World} {K : PySem.W.Frag} {h : Heap} {mg : Str → Option Value} {B : Base} {fns blt gls exs : List Str} {st : Stmt} {f fa : Addr} {od an : Option Addr} {sl : Array (Option Value)} {oc kV dc pm cd ct : Value} {N : List Str} {r : FR} {i n : Nat}
    (X : K.In h) (G : h.Ns mainGlobals mg) (hfa : mg "law" = some (.ref fa))
    (a : PySem.W.nsIn K mainGlobals "law" = some (some (.ref f))) (l : K.lookup f = some ⟨oc, od, .func (PySem.W.fnOf "law" "law" (defArgs st) (defBody st) (defScope st) .none kV dc pm an cd ct), sl⟩) (c : PySem.W.codeIn K cd "law" = true) (k : PySem.W.keepIn K (.ref f) = true)
    (S : FnScope N ["script"] (defScope st)) (ht : B.tbl[i]? = some r) (hp : r.np = 1) (hN : r.nN = N.length) (hc : chkSs ⟨N, defScope st, fns, blt, gls, true, none, exs, []⟩ r.body (defBody st) = true)
    (hb : ∀ (kV doc pm : Value) (an : Option Addr) (cdv ct : Value) (v : Value), bindArgs (PySem.W.fnOf "law" "law" (defArgs st) (defBody st) (defScope st) .none kV doc pm an cdv ct) ⟨[v], []⟩ = pure [(("script" : Str), v)])
    (hd : ∀ i name, fns[i]? = some name → DefOk K mg fns blt gls exs B i name) (hblt : ∀ x, x ∈ blt → mg x = none) (hgls : ∀ x, x ∈ gls → GlbOk K mg B x) (hexs : ∀ x, x ∈ exs → ExcOk K mg x) (hexm : ∀ x y b, B.exm x y = some b → ExmOk K mg x y b)
    (plain : ∀ ns : List Int, ns.length ≤ 63 → ∃ back, callN B (n + 1) i [.scr ns] = .ok (.d (.bool true)) back) :
    ∃ fd : FuncData, (∀ (s : Shared) (v : Value), BindsTo s fd ⟨[v], []⟩ [("script", v)]) ∧ ∀ base : Heap, K.In base → base.Ns mainGlobals mg → FnOk P w K mg base (L2.CX P w) (n + 1) fa fd ["script"] (lawSp K) := by
  have e := hfa.symm.trans (PySem.W.mg_of X G a)
  cases e
  have F := fun_mk (st := st) l c k
  refine ⟨_, fun s v => .of_eq (hb kV dc pm an cd ct v), fun base _ _ => ?_⟩
  have := fn_step (P := P) (w := w) (base := base) (cl := fun _ => none) (l := n) (c := ⟨N, defScope st, fns, blt, gls, true, none, exs, []⟩) F S ht hp hN hc rfl rfl rfl (fns_all hd hblt hgls hexs hexm n) hblt hgls hexs hexm
  exact fn_law this rfl plain
end Lw
namespace Lw
open PySem L2 RZ
section
variable {K : PySem.W.Frag} {mg : Str → Option Value} {h : Heap} {B : Base} {fns blt gls exs : List Str} {goal : Prop}
theorem cut_def {st : Stmt} {name : Str} {f : Addr} {od an : Option Addr} {sl : Array (Option Value)} {oc kV dc pm cd ct : Value} {ps N : List Str} {r : FR} {i : Nat} (X : K.In h) (G : h.Ns mainGlobals mg)
    (a : PySem.W.nsIn K mainGlobals name = some (some (.ref f))) (l : K.lookup f = some ⟨oc, od, .func (PySem.W.fnOf name name (defArgs st) (defBody st) (defScope st) .none kV dc pm an cd ct), sl⟩) (c : PySem.W.codeIn K cd name = true) (k : PySem.W.keepIn K (.ref f) = true)
    (S : FnScope N ps (defScope st)) (ht : B.tbl[i]? = some r) (hp : r.np = ps.length) (hN : r.nN = N.length) (hc : chkSs ⟨N, defScope st, fns, blt, gls, true, none, exs, []⟩ r.body (defBody st) = true)
    (hb : ∀ (kV doc pm : Value) (an : Option Addr) (cdv ct : Value) (us : List Value), us.length = ps.length → bindArgs (PySem.W.fnOf name name (defArgs st) (defBody st) (defScope st) .none kV doc pm an cdv ct) ⟨us, []⟩ = pure (ps.zip us))
    (next : DefOk K mg fns blt gls exs B i name → goal) : goal := next (DefOk.mk X G a l c k S ht hp hN hc hb)
theorem cut_exc {x : Str} {C : Addr} {B0 newId initId : String} {bmB : List Value} (X : K.In h) (G : h.Ns mainGlobals mg) (F : ExcBaseFacts B0 newId initId bmB) (a : PySem.W.nsIn K mainGlobals x = some (some (.ref C))) (e : PySem.W.excIn K C bmB newId = true) (k : PySem.W.keepIn K (.ref C) = true)
    (s : PySem.W.subIn K (.ref C) (.type "BaseException") = some true) (t : PySem.W.typeIn K (.ref C) = some (.type "type")) (next : ∀ C, mg x = some (.ref C) → ExcOk K mg x → goal) : goal :=
  next C (PySem.W.mg_of X G a) ⟨C, B0, newId, initId, bmB, F, e, PySem.W.mg_of X G a, k, s, t⟩
theorem cut_none {x : Str} (X : K.In h) (G : h.Ns mainGlobals mg) (a : PySem.W.nsIn K mainGlobals x = some none) (next : mg x = none → goal) : goal := next (PySem.W.mg_none_of X G a)
theorem cut_int {x : Str} {n : Int} {t : Tok} (X : K.In h) (G : h.Ns mainGlobals mg) (a : PySem.W.nsIn K mainGlobals x = some (some (.int n t))) (hg : B.glob x = some (.int n)) (next : GlbOk K mg B x → goal) : goal :=
  next ⟨.int n t, .int n, .int n, PySem.W.mg_of X G a, ⟨t, rfl⟩, hg, fun F => .int n⟩
theorem exm_of {K : PySem.W.Frag} {C D : Addr} {b : Bool} (h1 : PySem.W.subIn K (.ref D) (.type "BaseException") = some true) (h2 : PySem.W.isClsIn K D = true) (h3 : PySem.W.typeIn K (.ref D) = some (.type "type")) (h4 : PySem.W.subIn K (.ref C) (.ref D) = some b) :
    PySem.W.exmOne K (.ref C) (.ref D) = some b := by
  have e1 : (PySem.W.subIn K (.ref D) (.type "BaseException") == some true) = true := by rw [h1] <;> rfl
  have e2 : ((PySem.W.clsIn K D).isSome && PySem.W.typeIn K (.ref D) == some (.type "type")) = true := by
    have h2' : (PySem.W.clsIn K D).isSome = true := h2
    rw [h2', h3] <;> rfl
  show (if (PySem.W.subIn K (.ref D) (.type "BaseException") == some true) = true then (if ((PySem.W.clsIn K D).isSome && PySem.W.typeIn K (.ref D) == some (.type "type")) = true then PySem.W.subIn K (.ref C) (.ref D) else none) else none) = some b
  rw [if_pos e1, if_pos e2]
  exact h4
theorem cut_exm {x y : Str} {C D : Addr} {b : Bool} (X : K.In h) (G : h.Ns mainGlobals mg) (a : PySem.W.nsIn K mainGlobals x = some (some (.ref C))) (c : PySem.W.nsIn K mainGlobals y = some (some (.ref D))) (s : PySem.W.subIn K (.ref D) (.type "BaseException") = some true) (k : PySem.W.isClsIn K D = true)
    (t : PySem.W.typeIn K (.ref D) = some (.type "type")) (e : PySem.W.subIn K (.ref C) (.ref D) = some b) (next : ExmOk K mg x y b → goal) : goal :=
  next ⟨C, .ref D, PySem.W.mg_of X G a, PySem.W.mg_of X G c, exm_of s k t e⟩
end
end Lw

set_option maxRecDepth 100000
/-! Pl1: plain reasoning over the evaluator. -/
namespace Lw
open PySem L2
/-! ### lists of data, owned -/
def ol (xs : List PyData) : O := .lst (xs.map .d)
theorem ol_fold (xs : List PyData) : O.lst (xs.map .d) = ol xs := rfl
theorem ol_fold' (f : PyData → O) (h : f = O.d) (xs : List PyData) : O.lst (xs.map f) = ol xs := by subst h; rfl
theorem ol_nil : O.lst [] = ol [] := rfl
theorem ol_one (a : PyData) : O.lst [.d a] = ol [a] := rfl
theorem ol_two (a b : PyData) : O.lst [.d a, .d b] = ol [a, b] := rfl
theorem ol_toD (xs : List PyData) : (ol xs).toD = some (.list xs) := O.toD_lst xs
theorem flats_map : ∀ xs : List PyData, O.flats (xs.map .d) = some xs
  | [] => by rw [List.map_nil, O.flats]
  | x :: xs => by rw [List.map_cons, O.flats, flats_map xs]
theorem ol_flat (xs : List PyData) : (ol xs).flat = some (.list xs) := by
  unfold ol
  rw [O.flat, flats_map]; rfl
theorem ol_isLst (xs : List PyData) : isLst (some (ol xs)) = true := rfl
theorem ol_slice (xs : List PyData) (lo hi : Option Int) : sliceO (ol xs) lo hi = some (ol (sliceD xs lo hi)) := by
  have : sliceO (ol xs) lo hi = (match (ol xs).flat with
    | some (.list xs) => some (.lst ((sliceD xs lo hi).map .d))
    | _ => none) := rfl
  rw [this, ol_flat]; rfl
/-! ### calls -/
theorem callN_eq {B : Base} {l i : Nat} {os : List O} {r : FR} (h : B.tbl[i]? = some r) (hl : os.length = r.np) :
    callN B (l + 1) i os = outF (ex (B.ge l) r.body (os.map some ++ List.replicate (r.nN - r.np) none)) := by
  rw [callN, h]
  simp only [hl, if_true]
  rfl
theorem ge_call (B : Base) (l : Nat) : (B.ge l).call = callN B l := Eq.trans rfl rfl
theorem ge_glob (B : Base) (l : Nat) : (B.ge l).glob = B.glob := Eq.trans rfl rfl
theorem ge_wf (B : Base) (l : Nat) : (B.ge l).wf = B.wf := Eq.trans rfl rfl
theorem ge_exm (B : Base) (l : Nat) : (B.ge l).exm = B.exm := Eq.trans rfl rfl
/-! ### while -/
theorem wLoop_ind {t : Ro → Out Bool} {b : Ro → SOut} {Q : Ro → Prop} (I : Nat → Ro → Prop)
    (h : ∀ m ro, I m ro → (t ro = .ok false ro ∧ Q ro) ∨ (t ro = .ok true ro ∧ ∃ ro' m', b ro = .nx ro' ∧ m' < m ∧ I m' ro')) :
    ∀ n m ro, m < n → I m ro → ∃ ro', wLoop t b n ro = .nx ro' ∧ Q ro'
  | 0, m, ro, hm, _ => absurd hm (Nat.not_lt_zero _)
  | n + 1, m, ro, hm, hi => by
    rw [wLoop]
    rcases h m ro hi with ⟨h1, h2⟩ | ⟨h1, ro', m', h2, h3, h4⟩
    · rw [h1]
      exact ⟨ro, by simp, h2⟩
    · obtain ⟨ro2, k1, k2⟩ := wLoop_ind I h n m' ro' (by omega) h4
      rw [h1]
      refine ⟨ro2, ?_, k2⟩
      simp only [Out.then_ok, if_true, h2, k1]
/-! ### for -/
theorem fLoop_ind {α : Type} {tg : CE} {b : Ro → SOut} (enc : α → PyData) (ys : List α) (I : List α → Ro → Prop)
    (h : ∀ pre a post ro, ys = pre ++ a :: post → I pre ro → ∃ ro1 ro2, asgT tg (enc a) ro = some ro1 ∧ (b ro1 = .nx ro2 ∨ b ro1 = .ct ro2) ∧ I (pre ++ [a]) ro2) :
    ∀ (post pre : List α) (ro : Ro), ys = pre ++ post → I pre ro → ∃ ro', fLoop tg b (post.map enc) ro = .nx ro' ∧ I ys ro'
  | [], pre, ro, e, hi => ⟨ro, by rw [List.map_nil, fLoop], by rw [e, List.append_nil]; exact hi⟩
  | a :: post, pre, ro, e, hi => by
    obtain ⟨ro1, ro2, h1, h2, h3⟩ := h pre a post ro e hi
    obtain ⟨ro', k1, k2⟩ := fLoop_ind enc ys I h post (pre ++ [a]) ro2 (by rw [e]; simp) h3
    refine ⟨ro', ?_, k2⟩
    rw [List.map_cons, fLoop, h1]
    rcases h2 with h2 | h2 <;> simp only [h2, k1]
/-- .. that may end early: Z tells how -/
theorem fLoop_find {α : Type} {tg : CE} {b : Ro → SOut} (enc : α → PyData) (ys : List α) (I : List α → Ro → Prop) (Z : SOut → Prop)
    (h : ∀ pre a post ro, ys = pre ++ a :: post → I pre ro → ∃ ro1, asgT tg (enc a) ro = some ro1 ∧
      ((∃ ro2, (b ro1 = .nx ro2 ∨ b ro1 = .ct ro2) ∧ I (pre ++ [a]) ro2) ∨ (∃ o ro2, b ro1 = .ret o ro2 ∧ Z (.ret o ro2)) ∨ (∃ x ro2, b ro1 = .exc x ro2 ∧ Z (.exc x ro2)) ∨ (∃ ro2, b ro1 = .brk ro2 ∧ Z (.nx ro2)))) :
    ∀ (post pre : List α) (ro : Ro), ys = pre ++ post → I pre ro → (∃ ro', fLoop tg b (post.map enc) ro = .nx ro' ∧ I ys ro') ∨ Z (fLoop tg b (post.map enc) ro)
  | [], pre, ro, e, hi => .inl ⟨ro, by rw [List.map_nil, fLoop], by rw [e, List.append_nil]; exact hi⟩
  | a :: post, pre, ro, e, hi => by
    obtain ⟨ro1, h1, h2⟩ := h pre a post ro e hi
    rw [List.map_cons, fLoop, h1]
    rcases h2 with ⟨ro2, h2, h3⟩ | ⟨o, ro2, h2, h3⟩ | ⟨x, ro2, h2, h3⟩ | ⟨ro2, h2, h3⟩
    · have k := fLoop_find enc ys I Z h post (pre ++ [a]) ro2 (by rw [e]; simp) h3
      rcases h2 with h2 | h2 <;> simpa only [h2] using k
    · right; simpa only [h2] using h3
    · right; simpa only [h2] using h3
    · right; simpa only [h2] using h3
/-! ### comprehensions -/
/-- a turn, from wiped slots -/
def cBody (G : GE) (own : List (Str × Nat)) (elt tg ifs : CE) (x : PyData) (ro : Ro) : Out (Option O) := match asgT tg x ro with
  | some ro => (evB G ifs ro).bind fun b ro => if b then (ev G elt ro).bind fun h ro => (h.sto ro).bind fun o ro => .ok (some o) (wipeR own ro) else .ok none (wipeR own ro)
  | none => .stuck
theorem unwipe_get {old : Ro} : ∀ {own : List (Str × Nat)} {s : Ro} {j : Nat}, s.length = old.length → (j ∈ own.map (·.2) ∨ s[j]? = old[j]?) → (Lw.unwipe old own s)[j]? = old[j]?
  | [], s, j, hl, h => by
    rcases h with h | h
    · cases h
    · exact h
  | p :: ps, s, j, hl, h => by
    rw [Lw.unwipe]
    refine unwipe_get (by rw [List.length_set, hl]) ?_
    by_cases e : p.2 = j
    · right
      rw [e]
      by_cases hj : j < old.length
      · rw [List.getElem?_set_self (by rw [hl]; exact hj), List.getElem?_eq_getElem hj]
        rfl
      · rw [List.getElem?_eq_none (by rw [List.length_set, hl]; exact Nat.le_of_not_lt hj), List.getElem?_eq_none (Nat.le_of_not_lt hj)]
    · rw [List.getElem?_set_ne e]
      rcases h with h | h
      · rw [List.map_cons] at h
        rcases List.mem_cons.mp h with z | z
        · exact absurd z.symm e
        · exact .inl z
      · exact .inr h
theorem wipeR_get {j : Nat} : ∀ {own : List (Str × Nat)} {ro : Ro}, j ∉ own.map (·.2) → (wipeR own ro)[j]? = ro[j]?
  | [], ro, _ => rfl
  | p :: ps, ro, h => by
    rw [List.map_cons] at h
    rw [wipeR, List.getElem?_set_ne (fun e => h (by simp [e])), wipeR_get fun z => h (List.mem_cons_of_mem _ z)]
theorem unwipe_wipe (ro : Ro) (own : List (Str × Nat)) : Lw.unwipe ro own (wipeR own ro) = ro := by
  apply List.ext_getElem?
  intro j
  refine unwipe_get (wipeR_len own ro) ?_
  by_cases h : j ∈ own.map (·.2)
  · exact .inl h
  · exact .inr (wipeR_get h)
theorem cLoop_eq {G : GE} {own : List (Str × Nat)} {elt tg ifs : CE} {roW : Ro} {α : Type} {enc : α → PyData} {f : α → Option O} : ∀ (as : List α) (ro : Ro), wipeR own ro = roW → (∀ a ∈ as, cBody G own elt tg ifs (enc a) roW = .ok (f a) roW) →
    ∃ ro', cLoop (fun x ro => cBody G own elt tg ifs x (wipeR own ro)) (as.map enc) ro = .ok (as.filterMap f) ro' ∧ wipeR own ro' = roW
  | [], ro, hr, h => ⟨ro, by rw [List.map_nil, cLoop]; rfl, hr⟩
  | a :: as, ro, hr, h => by
    have hw : wipeR own roW = roW := by rw [← hr, wipeR_idem]
    obtain ⟨ro', h1, h2⟩ := cLoop_eq as roW hw fun b hb => h b (List.mem_cons_of_mem _ hb)
    refine ⟨ro', ?_, h2⟩
    rw [List.map_cons, cLoop, hr, h a List.mem_cons_self]
    simp only [Out.bind_ok, h1]
    cases e : f a with
    | none => rw [List.filterMap_cons_none e]
    | some o => rw [List.filterMap_cons_some e]
theorem ev_comp {G : GE} {q : Bool} {own : List (Str × Nat)} {elt tg it ifs : CE} {ro ro0 : Ro} {α : Type} (enc : α → PyData) (as : List α) (f : α → Option O) (hi : evI G (!q) it ro = .ok (as.map enc) ro0) (hq : quietOwn ro0 own = true)
    (hc : (!q || (qt elt && qt ifs)) = true) (hl : as.length ≤ 16777216) (h : ∀ a ∈ as, cBody G own elt tg ifs (enc a) (wipeR own ro0) = .ok (f a) (wipeR own ro0)) : ev G (.comp q own elt tg it ifs) ro = .ok (.tm (.lst (as.filterMap f))) ro0 := by
  have hl' : lenOk (as.map enc).length = true := by rw [List.length_map]; unfold lenOk; simpa using hl
  rw [ev, hi]
  simp only [Out.bind_ok, hq, hc, hl', Bool.and_self, if_true]
  obtain ⟨ro', h1, h2⟩ := cLoop_eq (own := own) (elt := elt) (tg := tg) (ifs := ifs) as ro0 rfl h
  show cEnd ro0 own (cLoop (fun x ro => cBody G own elt tg ifs x (wipeR own ro)) (as.map enc) ro0) = _
  rw [h1]
  simp only [cEnd, h2]
  rw [unwipe_wipe]
/-- .. that raises at an item -/
theorem ev_comp_exc {G : GE} {q : Bool} {own : List (Str × Nat)} {elt tg it ifs : CE} {ro ro0 : Ro} {α : Type} (enc : α → PyData) (as : List α) (pre post : List α) (a : α) (e : as = pre ++ a :: post) (f : α → Option O) (x : Exn) (roX : Ro) (hi : evI G (!q) it ro = .ok (as.map enc) ro0) (hq : quietOwn ro0 own = true)
    (hc : (!q || (qt elt && qt ifs)) = true) (hl : as.length ≤ 16777216) (h : ∀ b ∈ pre, cBody G own elt tg ifs (enc b) (wipeR own ro0) = .ok (f b) (wipeR own ro0)) (hx : cBody G own elt tg ifs (enc a) (wipeR own ro0) = .exc x roX) : ∃ ro', ev G (.comp q own elt tg it ifs) ro = .exc x ro' := by
  have hl' : lenOk (as.map enc).length = true := by rw [List.length_map]; unfold lenOk; simpa using hl
  rw [ev, hi]
  simp only [Out.bind_ok, hq, hc, hl', Bool.and_self, if_true]
  have k : ∀ (pre : List α) (ro : Ro), wipeR own ro = wipeR own ro0 → (∀ b ∈ pre, cBody G own elt tg ifs (enc b) (wipeR own ro0) = .ok (f b) (wipeR own ro0)) → ∃ ro', cLoop (fun x ro => cBody G own elt tg ifs x (wipeR own ro)) ((pre ++ a :: post).map enc) ro = .exc x ro' := by
    intro pre
    induction pre with
    | nil =>
      intro ro hr _
      refine ⟨roX, ?_⟩
      rw [List.nil_append, List.map_cons, cLoop, hr, hx]
      rfl
    | cons b pre ih =>
      intro ro hr hb
      obtain ⟨ro', h1⟩ := ih (wipeR own ro0) (wipeR_idem own ro0) fun c hc => hb c (List.mem_cons_of_mem _ hc)
      refine ⟨ro', ?_⟩
      rw [List.cons_append, List.map_cons, cLoop, hr, hb b List.mem_cons_self]
      simp only [Out.bind_ok, h1, Out.bind_exc]
  obtain ⟨ro', h1⟩ := k pre ro0 rfl h
  rw [← e] at h1
  refine ⟨Lw.unwipe ro0 own (wipeR own ro'), ?_⟩
  show cEnd ro0 own (cLoop (fun x ro => cBody G own elt tg ifs x (wipeR own ro)) (as.map enc) ro0) = _
  rw [h1]
  rfl
theorem filterMap_d {α : Type} (g : α → PyData) (as : List α) : (as.filterMap fun a => some (O.d (g a))) = (as.map g).map .d := by
  induction as with
  | nil => rfl
  | cons a as ih =>
    have : List.filterMap (fun a => some (O.d (g a))) (a :: as) = O.d (g a) :: List.filterMap (fun a => some (O.d (g a))) as := rfl
    rw [this, ih]; rfl
theorem filterMap_if {α : Type} (p : α → Bool) (g : α → PyData) (as : List α) : (as.filterMap fun a => if p a then some (O.d (g a)) else none) = ((as.filter p).map g).map .d := by
  induction as with
  | nil => rfl
  | cons a as ih =>
    cases h : p a with
    | true => rw [List.filterMap_cons, List.filter_cons_of_pos h]; simp only [h, if_true, ih]; rfl
    | false => rw [List.filterMap_cons, List.filter_cons_of_neg (by simp [h])]; simp [h, ih]
theorem ev_map {G : GE} {q : Bool} {own : List (Str × Nat)} {elt tg it ifs : CE} {ro ro0 : Ro} {α : Type} (enc : α → PyData) (as : List α) (g : α → PyData) (hi : evI G (!q) it ro = .ok (as.map enc) ro0) (hq : quietOwn ro0 own = true)
    (hc : (!q || (qt elt && qt ifs)) = true) (hl : as.length ≤ 16777216) (h : ∀ a ∈ as, cBody G own elt tg ifs (enc a) (wipeR own ro0) = .ok (some (.d (g a))) (wipeR own ro0)) : ev G (.comp q own elt tg it ifs) ro = .ok (.tm (ol (as.map g))) ro0 := by
  rw [ev_comp enc as (fun a => some (.d (g a))) hi hq hc hl h, filterMap_d]
  rfl
theorem ev_filt {G : GE} {q : Bool} {own : List (Str × Nat)} {elt tg it ifs : CE} {ro ro0 : Ro} {α : Type} (enc : α → PyData) (as : List α) (p : α → Bool) (g : α → PyData) (hi : evI G (!q) it ro = .ok (as.map enc) ro0) (hq : quietOwn ro0 own = true)
    (hc : (!q || (qt elt && qt ifs)) = true) (hl : as.length ≤ 16777216) (h : ∀ a ∈ as, cBody G own elt tg ifs (enc a) (wipeR own ro0) = .ok (if p a then some (.d (g a)) else none) (wipeR own ro0)) : ev G (.comp q own elt tg it ifs) ro = .ok (.tm (ol ((as.filter p).map g))) ro0 := by
  rw [ev_comp enc as (fun a => if p a then some (.d (g a)) else none) hi hq hc hl h, filterMap_if]
  rfl
end Lw

set_option maxRecDepth 100000
/-! Pl2: the evaluator's equations in a form that simp goes on with. -/
namespace Lw
open PySem L2
def bsel {α : Type} (o : Option Bool) (x y z : α) : α := match o with
  | some true => x
  | some false => y
  | none => z
theorem bsel_some {α : Type} (c : Bool) (x y z : α) : bsel (some c) x y z = if c = true then x else y := by cases c <;> rfl
theorem bsel_none {α : Type} (x y z : α) : bsel none x y z = z := rfl
def osel {α β : Type} (o : Option α) (f : α → β) (z : β) : β := match o with
  | some x => f x
  | none => z
theorem osel_some {α β : Type} (x : α) (f : α → β) (z : β) : osel (some x) f z = f x := Eq.trans rfl rfl
theorem osel_none {α β : Type} (f : α → β) (z : β) : osel none f z = z := Eq.trans rfl rfl
section
variable {G : GE} {ro : Ro}
theorem q_var (i : Nat) : ev G (.var i) ro = osel (ro[i]?) (fun x => osel x (fun _ => .ok (.sl i []) ro) .stuck) .stuck := by
  rw [ev]
  cases h : ro[i]? with
  | none => rfl
  | some x => cases x <;> rfl
theorem q_int (n : Int) : ev G (.int n) ro = .ok (.tm (.d (.int n))) ro := by rw [ev]
theorem q_bl (b : Bool) : ev G (.bl b) ro = .ok (.tm (.d (.bool b))) ro := by rw [ev]
theorem q_non : ev G .non ro = .ok (.tm (.d .none)) ro := by rw [ev]
theorem q_str (s : Str) : ev G (.str s) ro = .ok (.tm (.d (.str s))) ro := by rw [ev]
theorem q_glob (x : Str) : ev G (.glob x) ro = osel (G.glob x) (fun d => .ok (.tm (.d d)) ro) .stuck := by
  rw [ev]; cases G.glob x <;> rfl
theorem q_bin (op : Operator) (a b : CE) : ev G (.bin op a b) ro = (ev G a ro).bind fun h1 ro => if okD h1 b = true then (ev G b ro).bind fun h2 ro => osel (h1.opd ro) (fun x => osel (h2.opd ro) (fun y => osel (binO op x y) (fun z => .ok (.tm z) ro) .stuck) .stuck) .stuck else .stuck := by
  rw [ev]
  congr 1; funext h1 ro; congr 1; congr 1; funext h2 ro
  cases h1.opd ro with
  | none => rfl
  | some x => cases h2.opd ro with
    | none => rfl
    | some y =>
      simp only [osel]
      cases h : binO op x y <;> simp [h]
theorem q_neg (a : CE) : ev G (.neg a) ro = (ev G a ro).bind fun h ro => match h.lookD ro with
    | some (.int i) => .ok (.tm (.d (.int (-i)))) ro
    | _ => .stuck := by rw [ev] <;> rfl
theorem q_not (a : CE) : ev G (.not a) ro = (ev G a ro).bind fun h ro => osel (h.bool ro) (fun b => .ok (.tm (.d (.bool (!b)))) ro) .stuck := by
  rw [ev]; congr 1 <;> (funext h ro; cases h.bool ro <;> rfl)
theorem q_and (a b : CE) : ev G (.and a b) ro = (ev G a ro).bind fun h ro => bsel (h.bool ro) (ev G b ro) (.ok (.tm (.d (.bool false))) ro) .stuck := by
  rw [ev]; congr 1 <;> (
    funext h ro
    cases h.bool ro with
    | none => rfl
    | some b => cases b <;> rfl)
theorem q_or (a b : CE) : ev G (.or a b) ro = (ev G a ro).bind fun h ro => bsel (h.bool ro) (.ok (.tm (.d (.bool true))) ro) (ev G b ro) .stuck := by
  rw [ev]; congr 1 <;> (
    funext h ro
    cases h.bool ro with
    | none => rfl
    | some b => cases b <;> rfl)
theorem q_one (a : CE) : ev G (.one a) ro = ev G a ro := by rw [ev]
theorem q_cmp (op : CmpOp) (a b : CE) : ev G (.cmp op a b) ro = (ev G a ro).bind fun h1 ro => if okD h1 b = true then (ev G b ro).bind fun h2 ro => osel (h1.lookD ro) (fun x => osel (h2.lookD ro) (fun y => osel (cmpD op x y) (fun c => .ok (.tm (.d (.bool c))) ro) .stuck) .stuck) .stuck else .stuck := by
  rw [ev]
  congr 1; funext h1 ro; congr 1; congr 1; funext h2 ro
  cases h1.lookD ro with
  | none => rfl
  | some x => cases h2.lookD ro with
    | none => rfl
    | some y =>
      simp only [osel]
      cases h : cmpD op x y <;> simp [h]
theorem q_chain (o1 o2 : CmpOp) (a b c : CE) : ev G (.chain o1 o2 a b c) ro = (ev G a ro).bind fun h1 ro => if okD h1 b = true then (ev G b ro).bind fun h2 ro => osel (h1.lookD ro) (fun x => osel (h2.lookD ro) (fun y => bsel (cmpD o1 x y)
      (if okD h2 c = true then (ev G c ro).bind fun h3 ro => osel (h2.lookD ro) (fun y => osel (h3.lookD ro) (fun z => osel (cmpD o2 y z) (fun c => .ok (.tm (.d (.bool c))) ro) .stuck) .stuck) .stuck else .stuck) (.ok (.tm (.d (.bool false))) ro) .stuck) .stuck) .stuck else .stuck := by
  rw [ev]
  congr 1; funext h1 ro; congr 1; congr 1; funext h2 ro
  cases h1.lookD ro with
  | none => rfl
  | some x => cases h2.lookD ro with
    | none => rfl
    | some y =>
      simp only [osel]
      cases h : cmpD o1 x y with
      | none => rfl
      | some z =>
        cases z with
        | false => rfl
        | true =>
          simp only [bsel]
          congr 1; congr 1; funext h3 ro
          cases h2.lookD ro with
          | none => rfl
          | some x => cases h3.lookD ro with
            | none => rfl
            | some y =>
              cases h : cmpD o2 x y <;> simp [h]
theorem q_ifx (c a b : CE) : ev G (.ifx c a b) ro = (ev G c ro).bind fun h ro => bsel (h.bool ro) (ev G a ro) (ev G b ro) .stuck := by
  rw [ev]; congr 1 <;> (
    funext h ro
    cases h.bool ro with
    | none => rfl
    | some b => cases b <;> rfl)
theorem q_tup (as : CE) : ev G (.tup as) ro = (evs G as ro).bind fun hs ro => (escs hs ro).bind fun xs ro => if lenOk xs.length = true then .ok (.tm (.d (.tuple xs))) ro else .stuck := by rw [ev]
theorem q_lst (as : CE) : ev G (.lst as) ro = (evs G as ro).bind fun hs ro => (stos hs ro).bind fun os ro => if lenOk os.length = true then .ok (.tm (.lst os)) ro else .stuck := by rw [ev]
theorem q_idx (a i : CE) : ev G (.idx a i) ro = (ev G a ro).bind fun h1 ro => if okD h1 i = true then (ev G i ro).bind fun h2 ro => osel (h1.lookF ro) (fun x => osel (h2.lookD ro) (fun y => osel (idxD x y) (fun z => .ok (.tm (.d z)) ro) .stuck) .stuck) .stuck else .stuck := by
  rw [ev]
  congr 1; funext h1 ro; congr 1; congr 1; funext h2 ro
  cases h1.lookF ro with
  | none => rfl
  | some x => cases h2.lookD ro with
    | none => rfl
    | some y =>
      simp only [osel]
      cases h : idxD x y <;> simp [h]
theorem q_slc (a lo hi : CE) : ev G (.slc a lo hi) ro = (ev G a ro).bind fun h1 ro => if okD h1 lo = true ∧ okD h1 hi = true then (evs G lo ro).bind fun l ro => osel (partD ro l) (fun l => (evs G hi ro).bind fun u ro => osel (h1.look ro) (fun x => osel (partD ro u) (fun u => osel (sliceO x l u) (fun z => .ok (.tm z) ro) .stuck) .stuck) .stuck) .stuck else .stuck := by
  rw [ev]
  congr 1; funext h1 ro
  simp only [Bool.and_eq_true]
  congr 1; congr 1; funext l ro
  cases partD ro l with
  | none => rfl
  | some l =>
    simp only [osel]
    congr 1; funext u ro
    cases h1.look ro with
    | none => rfl
    | some x => cases partD ro u with
      | none => rfl
      | some u =>
        cases h : sliceO x l u <;> simp [h]
def fsel (r : FOut) (ro : Ro) : Out Hd := match r with
  | .ok o _ => .ok (.tm o) ro
  | .exc x _ => .exc x ro
  | .stuck => .stuck
theorem fsel_ok (o : O) (b : List (Option O)) : fsel (.ok o b) ro = .ok (.tm o) ro := Eq.trans rfl rfl
theorem fsel_exc (x : Exn) (b : List (Option O)) : fsel (.exc x b) ro = .exc x ro := Eq.trans rfl rfl
theorem q_call (f : Nat) (as : CE) : ev G (.call f as) ro = (evs G as ro).bind fun hs ro => (argsO hs ro).bind fun xs ro => fsel (G.call f xs) ro := by
  rw [ev]; congr 1 <;> (funext hs ro; congr 1 <;> (funext xs ro; cases G.call f xs <;> rfl))
theorem q_prim (p : Pr) (as : CE) : ev G (.prim p as) ro = (evs G as ro).bind fun hs ro => osel (looksF ro hs) (fun xs => osel (primO p xs) (fun z => .ok (.tm z) ro) .stuck) .stuck := by
  rw [ev]; congr 1; funext hs ro
  cases looksF ro hs with
  | none => rfl
  | some xs =>
    simp only [osel]
    cases h : primO p xs <;> simp [h]
theorem q_isi (a : CE) (T : Tn) : ev G (.isi a T) ro = (ev G a ro).bind fun h ro => osel (h.lookD ro) (fun x => osel (isiD T x) (fun b => .ok (.tm (.d (.bool b))) ro) .stuck) .stuck := by
  rw [ev]; congr 1; funext h ro
  cases h.lookD ro with
  | none => rfl
  | some x =>
    simp only [osel]
    cases h : isiD T x <;> simp [h]
theorem q_rev (a : CE) : ev G (.rev a) ro = (ev G a ro).bind fun h ro => match h.lookF ro with
    | some (.tuple xs) => .ok (.tm (.d (.tuple xs.reverse))) ro
    | some (.list xs) => .ok (.tm (ol xs.reverse)) ro
    | _ => .stuck := by rw [ev] <;> rfl
theorem q_sset (a : CE) : ev G (.sset a) ro = (ev G a ro).bind fun h ro => match h.lookF ro with
    | some (.list xs) => osel (ssetD xs) (fun ys => .ok (.tm (ol ys)) ro) .stuck
    | _ => .stuck := by
  rw [ev]; congr 1; funext h ro
  cases h.lookF ro with
  | none => rfl
  | some x =>
    cases x <;> try rfl
    rename_i xs
    simp only
    cases h : ssetD xs <;> rfl
def noxE (r : Out Hd) : Out Hd := match r with
  | .exc _ _ => .stuck
  | r => r
theorem q_nox (a : CE) : ev G (.nox a) ro = noxE (ev G a ro) := by
  rw [ev]; cases ev G a ro <;> rfl
theorem noxE_ok (h : Hd) : noxE (.ok h ro) = .ok h ro := Eq.trans rfl rfl
theorem q_nil : evs G .nil ro = .ok [] ro := by rw [evs]
theorem q_cons (a as : CE) : evs G (.cons a as) ro = (ev G a ro).bind fun h ro => if okD h as = true then (evs G as ro).bind fun hs ro => .ok (h :: hs) ro else .stuck := by rw [evs]
theorem qB_nil : evB G .nil ro = .ok true ro := by rw [evB]
theorem qB_one (a : CE) : evB G (.cons a .nil) ro = (ev G a ro).bind fun h ro => osel (h.bool ro) (fun b => .ok b ro) .stuck := by
  rw [evB]; congr 1; funext h ro; cases h.bool ro <;> rfl
theorem qI_rng1 (z : Bool) (n : CE) : evI G z (.rng (.cons n .nil)) ro = (evs G (.cons n .nil) ro).bind fun hs ro => match looksD ro hs with
    | some [.int n] => if -(2 ^ 62) ≤ n ∧ n < 2 ^ 62 then .ok (rangeD 0 n) ro else .stuck
    | some [.int m, .int n] => if -(2 ^ 62) ≤ m ∧ m < 2 ^ 62 ∧ -(2 ^ 62) ≤ n ∧ n < 2 ^ 62 then .ok (rangeD m n) ro else .stuck
    | _ => .stuck := by rw [evI] <;> rfl
theorem qI_rng2 (z : Bool) (m n : CE) : evI G z (.rng (.cons m (.cons n .nil))) ro = (evs G (.cons m (.cons n .nil)) ro).bind fun hs ro => match looksD ro hs with
    | some [.int n] => if -(2 ^ 62) ≤ n ∧ n < 2 ^ 62 then .ok (rangeD 0 n) ro else .stuck
    | some [.int m, .int n] => if -(2 ^ 62) ≤ m ∧ m < 2 ^ 62 ∧ -(2 ^ 62) ≤ n ∧ n < 2 ^ 62 then .ok (rangeD m n) ro else .stuck
    | _ => .stuck := by rw [evI] <;> rfl
theorem qI_seqT (e : CE) : evI G true (.seq e) ro = (ev G e ro).bind fun h ro => (h.esc ro).bind fun x ro => osel (itemsD x) (fun xs => .ok xs ro) .stuck := by
  rw [evI]; simp only [if_true]; congr 1; funext h ro; congr 1; funext x ro; cases itemsD x <;> rfl
theorem qI_seqF (e : CE) : evI G false (.seq e) ro = (ev G e ro).bind fun h ro => osel (h.lookF ro) (fun x => osel (itemsD x) (fun xs => .ok xs ro) .stuck) .stuck := by
  rw [evI]; congr 1; funext h ro
  cases q : h.lookF ro with
  | none => rfl
  | some x => simp only [osel, Option.bind_some, Bool.false_eq_true, if_false]; cases itemsD x <;> rfl
theorem qI_enumT (as : CE) : evI G true (.enum as) ro = (evs G as ro).bind fun hs ro => (escs hs ro).bind fun xs ro => match xs with
    | [x] => osel (itemsD x) (fun xs => .ok (enumD xs) ro) .stuck
    | _ => .stuck := by
  rw [evI]; simp only [if_true]; congr 1; funext h ro; congr 1; funext xs ro
  rcases xs with _ | ⟨x, _ | ⟨y, t⟩⟩
  · rfl
  · cases h : itemsD x <;> simp [osel, h]
  · rfl
theorem qI_enumF (as : CE) : evI G false (.enum as) ro = (evs G as ro).bind fun hs ro => osel (looksF ro hs) (fun xs => match xs with
    | [x] => osel (itemsD x) (fun xs => .ok (enumD xs) ro) .stuck
    | _ => .stuck) .stuck := by
  rw [evI]; congr 1; funext h ro
  cases looksF ro h with
  | none => rfl
  | some xs =>
    simp only [osel, Out.ofOpt_some, Out.bind_ok, Bool.false_eq_true, if_false]
    rcases xs with _ | ⟨x, _ | ⟨y, t⟩⟩
    · rfl
    · cases h : itemsD x <;> simp [h]
    · rfl
def zsel (ro : Ro) (xs : List PyData) : Out (List PyData) := match xs with
  | [x, y] => osel (itemsD x) (fun xs => osel (itemsD y) (fun ys => .ok (zipD xs ys) ro) .stuck) .stuck
  | _ => .stuck
theorem qI_zipT (as : CE) : evI G true (.zip as) ro = (evs G as ro).bind fun hs ro => (escs hs ro).bind fun xs ro => zsel ro xs := by
  rw [evI]; simp only [if_true]; congr 1; funext h ro; congr 1; funext x ro
  unfold zsel
  rcases x with _ | ⟨x, _ | ⟨y, _ | ⟨z, t⟩⟩⟩ <;> try rfl
  cases h : itemsD x <;> cases h2 : itemsD y <;> simp [osel, h, h2]
theorem qI_zipF (as : CE) : evI G false (.zip as) ro = (evs G as ro).bind fun hs ro => osel (looksF ro hs) (fun xs => zsel ro xs) .stuck := by
  rw [evI]; congr 1; funext h ro
  cases looksF ro h with
  | none => rfl
  | some xs =>
    simp only [osel, Out.ofOpt_some, Out.bind_ok, Bool.false_eq_true, if_false]
    unfold zsel
    rcases xs with _ | ⟨x, _ | ⟨y, _ | ⟨z, t⟩⟩⟩ <;> try rfl
    cases h : itemsD x <;> cases h2 : itemsD y <;> simp [osel, h, h2]
/-! statements -/
def ssel (r : SOut) (f : Ro → SOut) : SOut := match r with
  | .nx ro => f ro
  | r => r
theorem ssel_nx (f : Ro → SOut) : ssel (.nx ro) f = f ro := Eq.trans rfl rfl
theorem ssel_ret (o : O) (f : Ro → SOut) : ssel (.ret o ro) f = .ret o ro := Eq.trans rfl rfl
theorem ssel_exc (o : Exn) (f : Ro → SOut) : ssel (.exc o ro) f = .exc o ro := Eq.trans rfl rfl
theorem ssel_brk (f : Ro → SOut) : ssel (.brk ro) f = .brk ro := Eq.trans rfl rfl
theorem ssel_ct (f : Ro → SOut) : ssel (.ct ro) f = .ct ro := Eq.trans rfl rfl
theorem s_nil' : ex G .nil ro = .nx ro := by rw [ex]
theorem s_seq' (a b : CS) : ex G (.seq a b) ro = ssel (ex G a ro) (fun ro => ex G b ro) := by
  rw [ex]; cases ex G a ro <;> rfl
theorem s_ret' (e : CE) : ex G (.ret e) ro = (ev G e ro).then fun h ro => (h.sto ro).then fun o ro => .ret o ro := by rw [ex]
theorem s_retN' : ex G .retN ro = .ret (.d .none) ro := by rw [ex]
theorem s_set' (i : Nat) (e : CE) : ex G (.set i e) ro = (ev G e ro).then fun h ro => (h.sto ro).then fun o ro => .nx (ro.set i (some o)) := by rw [ex]
theorem s_setc' (i : Nat) (e : CE) : ex G (.setc i e) ro = (ev G e ro).then fun h ro => (h.sto ro).then fun o ro => .nx (ro.set i (some o)) := by rw [ex]
theorem s_unp' (tg e : CE) : ex G (.unp tg e) ro = (ev G e ro).then fun h ro => (h.esc ro).then fun x ro => osel (asgT tg x ro) (fun ro => .nx ro) .stuck := by
  rw [ex]; congr 1; funext h ro; congr 1; funext x ro; cases asgT tg x ro <;> rfl
theorem s_par2' (i j : Nat) (es : CE) : ex G (.par2 i j es) ro = (evs G es ro).then fun hs ro => (stos hs ro).then fun os ro => match os with
    | [a, b] => .nx ((ro.set i (some a)).set j (some b))
    | _ => .stuck := by rw [ex] <;> rfl
theorem s_par3' (i j k : Nat) (es : CE) : ex G (.par3 i j k es) ro = (evs G es ro).then fun hs ro => (stos hs ro).then fun os ro => match os with
    | [a, b, c] => .nx (((ro.set i (some a)).set j (some b)).set k (some c))
    | _ => .stuck := by rw [ex] <;> rfl
def dsel {α : Type} (o : Option (Option O)) (f : PyData → α) (z : α) : α := match o with
  | some (some (.d x)) => f x
  | _ => z
theorem dsel_d {α : Type} (x : PyData) (f : PyData → α) (z : α) : dsel (some (some (.d x))) f z = f x := Eq.trans rfl rfl
theorem s_aug' (i : Nat) (op : Operator) (e : CE) : ex G (.aug i op e) ro = dsel (ro[i]?) (fun x => (ev G e ro).then fun h ro => osel (h.lookD ro) (fun y => osel (augO op x y) (fun z => .nx (ro.set i (some (.d z)))) .stuck) .stuck) .stuck := by
  rw [ex]
  generalize ro[i]? = q
  rcases q with _ | _ | x <;> try rfl
  cases x <;> try rfl
  simp only [dsel]
  congr 1; funext h ro
  cases h.lookD ro with
  | none => rfl
  | some y =>
    simp only [osel]
    cases h : augO op _ y <;> simp [h]
theorem s_exp' (e : CE) : ex G (.exp e) ro = (ev G e ro).then fun _ ro => .nx ro := by rw [ex]
theorem s_ife' (c : CE) (a b : CS) : ex G (.ife c a b) ro = (ev G c ro).then fun h ro => bsel (h.bool ro) (ex G a ro) (ex G b ro) .stuck := by
  rw [ex]
  unfold tst
  cases ev G c ro with
  | stuck => rfl
  | exc x ro => rfl
  | ok h ro =>
    simp only [Out.bind_ok, Out.then_ok]
    cases h.bool ro with
    | none => rfl
    | some b => cases b <;> simp [bsel]
theorem s_whl' (c : CE) (b : CS) : ex G (.whl c b) ro = wLoop (tst G c) (ex G b) G.wf ro := by rw [ex]
theorem s_for' (tg it : CE) (b : CS) : ex G (.for_ tg it b) ro = (evI G true it ro).then fun xs ro => fLoop tg (ex G b) xs ro := by rw [ex]
theorem s_rai' (x : Str) : ex G (.rai x) ro = .exc ⟨x⟩ ro := by rw [ex]
theorem s_pass' : ex G .pass ro = .nx ro := by rw [ex]
theorem s_doc' : ex G .doc ro = .nx ro := by rw [ex]
theorem s_brk' : ex G .brk ro = .brk ro := by rw [ex]
theorem s_cnt' : ex G .cnt ro = .ct ro := by rw [ex]
def xsel (G : GE) (r : SOut) (hs : CS) : SOut := match r with
  | .exc x ro => exH G hs x ro
  | r => r
theorem xsel_exc (hs : CS) (x : Exn) : xsel G (.exc x ro) hs = exH G hs x ro := Eq.trans rfl rfl
theorem xsel_nx (hs : CS) : xsel G (.nx ro) hs = .nx ro := Eq.trans rfl rfl
theorem xsel_ret (hs : CS) (o : O) : xsel G (.ret o ro) hs = .ret o ro := Eq.trans rfl rfl
theorem s_try' (b hs : CS) : ex G (.try_ b hs) ro = xsel G (ex G b ro) hs := by
  rw [ex]; cases ex G b ro <;> rfl
def nox (r : SOut) : SOut := match r with
  | .exc _ _ => .stuck
  | r => r
theorem nox_nx : nox (.nx ro) = .nx ro := Eq.trans rfl rfl
theorem nox_ret (o : O) : nox (.ret o ro) = .ret o ro := Eq.trans rfl rfl
theorem s_hd' (y : Str) (b rest : CS) (x : Exn) : exH G (.hd y b rest) x ro = bsel (G.exm x.cls y) (nox (ex G b ro)) (exH G rest x ro) .stuck := by
  rw [exH]
  cases G.exm x.cls y with
  | none => rfl
  | some b' =>
    cases b' with
    | false => rfl
    | true => simp only [bsel]; cases ex G b ro <;> rfl
theorem s_hnil' (x : Exn) : exH G .nil x ro = .exc x ro := by rw [exH]
theorem tst_eq (c : CE) : tst G c ro = (ev G c ro).bind fun h ro => osel (h.bool ro) (fun b => .ok b ro) .stuck := by
  unfold tst; congr 1; funext h ro; cases h.bool ro <;> rfl
theorem cBody_eq (own : List (Str × Nat)) (elt tg ifs : CE) (x : PyData) : cBody G own elt tg ifs x ro = osel (asgT tg x ro) (fun ro => (evB G ifs ro).bind fun b ro => if b = true then (ev G elt ro).bind fun h ro => (h.sto ro).bind fun o ro => .ok (some o) (wipeR own ro) else .ok none (wipeR own ro)) .stuck := by
  unfold cBody; cases asgT tg x ro <;> rfl
end
section
variable {α β : Type} {ro : Ro}
theorem bind_ok2 (a : α) (f : α → Ro → Out β) : (Out.ok a ro).bind f = f a ro := Eq.trans rfl rfl
theorem bind_exc2 (x : Exn) (f : α → Ro → Out β) : (Out.exc x ro).bind f = .exc x ro := Eq.trans rfl rfl
theorem bind_stuck2 (f : α → Ro → Out β) : (Out.stuck).bind f = .stuck := Eq.trans rfl rfl
theorem then_ok2 (a : α) (f : α → Ro → SOut) : (Out.ok a ro).then f = f a ro := Eq.trans rfl rfl
theorem then_exc2 (x : Exn) (f : α → Ro → SOut) : (Out.exc x ro).then f = .exc x ro := Eq.trans rfl rfl
theorem then_stuck2 (f : α → Ro → SOut) : (Out.stuck).then f = .stuck := Eq.trans rfl rfl
theorem ofOpt_some2 (a : α) : Out.ofOpt (some a) ro = .ok a ro := Eq.trans rfl rfl
theorem ofOpt_none2 : Out.ofOpt (none : Option α) ro = .stuck := Eq.trans rfl rfl
end
/-! ### both ways one -/
theorem ite_okh {α : Type} (c : Prop) [Decidable c] (a b : α) (ro : Ro) : (if c then Out.ok a ro else Out.ok b ro) = Out.ok (if c then a else b) ro := by split <;> rfl
theorem ite_tm (c : Prop) [Decidable c] (a b : O) : (if c then Hd.tm a else Hd.tm b) = Hd.tm (if c then a else b) := by split <;> rfl
theorem ite_od (c : Prop) [Decidable c] (a b : PyData) : (if c then O.d a else O.d b) = O.d (if c then a else b) := by split <;> rfl
theorem ite_bool (c : Prop) [Decidable c] (a b : Bool) : (if c then PyData.bool a else PyData.bool b) = PyData.bool (if c then a else b) := by split <;> rfl
theorem ite_int (c : Prop) [Decidable c] (a b : Int) : (if c then PyData.int a else PyData.int b) = PyData.int (if c then a else b) := by split <;> rfl
/-! ### data -/
def isB (T : Tn) (x : PyData) : Bool := match T, x with
  | .int, .int _ => true
  | .int, .bool _ => true
  | .bool, .bool _ => true
  | .str, .str _ => true
  | .tuple, .tuple _ => true
  | .list, .list _ => true
  | _, _ => false
theorem isiD_eq (T : Tn) (x : PyData) : isiD T x = some (isB T x) := by cases T <;> cases x <;> rfl
def whole (x : PyData) (a b : Int) : Bool := match x with
  | .int n => decide (a ≤ n) && decide (n ≤ b)
  | _ => false
theorem flat_lst (os : List O) : (O.lst os).flat = (O.flats os).map .list := by rw [O.flat]
theorem whole_int (n a b : Int) : whole (.int n) a b = (decide (a ≤ n) && decide (n ≤ b)) := Eq.trans rfl rfl
theorem ite_else_false (c d : Bool) : (if c = true then d else false) = (c && d) := by cases c <;> rfl
theorem ite_then_true (c d : Bool) : (if c = true then true else d) = (c || d) := by cases c <;> rfl
theorem ite_not_false (c d : Bool) : (if (!c) = true then d else false) = (!c && d) := by cases c <;> rfl
/-! equality of data, as the model has it -/
theorem eqvAll_len : ∀ {xs ys : List PyData}, PyData.eqvAll xs ys = true → xs.length = ys.length
  | [], [], _ => rfl
  | [], _ :: _, h => by rw [PyData.eqvAll] at h; cases h
  | _ :: _, [], h => by rw [PyData.eqvAll] at h; cases h
  | x :: xs, y :: ys, h => by
    rw [PyData.eqvAll, Bool.and_eq_true] at h
    rw [List.length_cons, List.length_cons, eqvAll_len h.2]
/-- data of a Lean type: told apart as Python tells them apart -/
class Enc (α : Type) where
  enc : α → PyData
  eqv : ∀ a b, PyData.eqv (enc a) (enc b) = true ↔ a = b
  lay : ∀ a, PyData.canLay0 (enc a) = true
  dep : Nat
  dep_le : ∀ a, (enc a).depth ≤ dep
section
variable {α β : Type} [Enc α] [Enc β]
open Enc (enc)
theorem eqvAll_enc : ∀ xs ys : List α, PyData.eqvAll (xs.map enc) (ys.map enc) = true ↔ xs = ys
  | [], [] => by simp [PyData.eqvAll]
  | [], _ :: _ => by simp [PyData.eqvAll]
  | _ :: _, [] => by simp [PyData.eqvAll]
  | x :: xs, y :: ys => by
    rw [List.map_cons, List.map_cons, PyData.eqvAll, Bool.and_eq_true, Enc.eqv, eqvAll_enc xs ys, List.cons.injEq]
theorem layAll_enc : ∀ xs : List α, PyData.canLayAll0 (xs.map enc) = true
  | [] => by rw [List.map_nil, PyData.canLayAll0]
  | x :: xs => by rw [List.map_cons, PyData.canLayAll0, Enc.lay, layAll_enc xs]; rfl
theorem depAll_enc : ∀ xs : List α, PyData.depthAll (xs.map enc) ≤ Enc.dep α
  | [] => by rw [List.map_nil, PyData.depthAll]; exact Nat.zero_le _
  | x :: xs => by
    rw [List.map_cons, PyData.depthAll]
    exact Nat.max_le.mpr ⟨Enc.dep_le x, depAll_enc xs⟩
instance : Enc Int where
  enc := .int
  eqv a b := by simp [PyData.eqv]
  lay _ := by rw [PyData.canLay0]
  dep := 0
  dep_le _ := by rw [PyData.depth]; exact Nat.le_refl _
instance : Enc Bool where
  enc := .bool
  eqv a b := by simp [PyData.eqv]
  lay _ := by rw [PyData.canLay0]
  dep := 0
  dep_le _ := by rw [PyData.depth]; exact Nat.le_refl _
/-- a tuple of any length -/
structure Tu (α : Type) where
  l : List α
  deriving DecidableEq
theorem Tu.ext' {a b : Tu α} (h : a.l = b.l) : a = b := by cases a; cases b; cases h; rfl
instance : Enc (Tu α) where
  enc t := .tuple (t.l.map enc)
  eqv a b := by
    rw [PyData.eqv, eqvAll_enc]
    exact ⟨Tu.ext', fun h => by rw [h]⟩
  lay a := by rw [PyData.canLay0]; exact layAll_enc _
  dep := Enc.dep α + 1
  dep_le a := by rw [PyData.depth]; have := depAll_enc a.l; omega
instance : Enc (List α) where
  enc t := .list (t.map enc)
  eqv a b := by rw [PyData.eqv, eqvAll_enc]
  lay a := by rw [PyData.canLay0]; exact layAll_enc _
  dep := Enc.dep α + 1
  dep_le a := by rw [PyData.depth]; have := depAll_enc a; omega
instance : Enc (α × β) where
  enc p := .tuple [enc p.1, enc p.2]
  eqv a b := by
    simp only [PyData.eqv, PyData.eqvAll, Bool.and_true, Bool.and_eq_true, Enc.eqv]
    exact ⟨fun h => Prod.ext h.1 h.2, fun h => by rw [h]; exact ⟨rfl, rfl⟩⟩
  lay a := by simp only [PyData.canLay0, PyData.canLayAll0, Enc.lay, Bool.and_self]
  dep := max (Enc.dep α) (Enc.dep β) + 1
  dep_le a := by
    have h1 := Enc.dep_le a.1
    have h2 := Enc.dep_le a.2
    simp only [PyData.depth, PyData.depthAll]
    omega
theorem shaped_enc (a : α) (h : Enc.dep α ≤ 64) : SeqAt.shaped (enc a) = true := by
  unfold SeqAt.shaped
  have := Enc.dep_le a
  rw [Enc.lay]
  simp
  omega
theorem eqD_shaped {x y : PyData} (h1 : SeqAt.shaped x = true) (h2 : SeqAt.shaped y = true) : eqD x y = some (PyData.eqv x y) := by
  unfold eqD
  split
  · simp only [PyData.eqv]; congr 1
  · simp only [PyData.eqv]; congr 1
  · rw [h1, h2]; rfl
theorem eqD_enc [DecidableEq α] (a b : α) (h : Enc.dep α ≤ 64) : eqD (enc a) (enc b) = some (decide (a = b)) := by
  rw [eqD_shaped (shaped_enc a h) (shaped_enc b h)]
  congr 1
  rw [Bool.eq_iff_iff, Enc.eqv, decide_eq_true_eq]
end
theorem look_tm (ro : Ro) (o : O) : (Hd.tm o).look ro = some o := rfl
theorem look_sl (ro : Ro) (i : Nat) (o : O) (h : ro[i]? = some (some o)) : (Hd.sl i []).look ro = some o := by
  show (match ro[i]? with | some (some o) => O.walk [] o | _ => none) = _
  rw [h]; rfl
theorem toD_d (x : PyData) : (O.d x).toD = some x := by rw [O.toD]
theorem flat_d (x : PyData) : (O.d x).flat = some x := by rw [O.flat]
end Lw

set_option maxRecDepth 100000
/-! Pl3: small facts of data. -/
namespace Lw
open PySem L2
theorem eqD_int (i j : Int) : eqD (.int i) (.int j) = some (decide (i = j)) := Eq.trans rfl rfl
theorem eqD_str (i j : Str) : eqD (.str i) (.str j) = some (decide (i = j)) := Eq.trans rfl rfl
theorem boolsD_map {α : Type} (f : α → Bool) : ∀ xs : List α, boolsD (xs.map fun a => .bool (f a)) = some (xs.map f)
  | [] => rfl
  | x :: xs => by rw [List.map_cons, boolsD, boolsD_map f xs]; rfl
theorem intsD_map {α : Type} (f : α → Int) : ∀ xs : List α, intsD (xs.map fun a => .int (f a)) = some (xs.map f)
  | [] => rfl
  | x :: xs => by rw [List.map_cons, intsD, intsD_map f xs]; rfl
theorem intsD_int : ∀ xs : List Int, intsD (xs.map .int) = some xs
  | [] => rfl
  | x :: xs => by rw [List.map_cons, intsD, intsD_int xs]
theorem lenOk_of {n : Nat} (h : n ≤ 16777216) : lenOk n = true := by unfold lenOk; simpa using h
theorem all_id {α : Type} (f : α → Bool) (xs : List α) : (xs.map f).all id = xs.all f := by rw [List.all_map]; rfl
theorem any_id {α : Type} (f : α → Bool) (xs : List α) : (xs.map f).any id = xs.any f := by rw [List.any_map]; rfl
theorem rangeD_eq (lo hi : Int) : rangeD lo hi = (List.range (hi - lo).toNat).map fun (k : Nat) => PyData.int (lo + (k : Int)) := rfl
/-- gcd by steps -/
theorem gcd_step {a b : Int} (ha : 0 ≤ a) (hb : 0 < b) : Int.gcd b (a % b) = Int.gcd a b := by
  obtain ⟨m, rfl⟩ := Int.eq_ofNat_of_zero_le ha
  obtain ⟨n, rfl⟩ := Int.eq_ofNat_of_zero_le (Int.le_of_lt hb)
  have e : ((m : Int) % (n : Int)) = ((m % n : Nat) : Int) := (Int.natCast_emod m n).symm
  rw [e]
  show Nat.gcd n (m % n) = Nat.gcd m n
  rw [Nat.gcd_comm, ← Nat.gcd_rec, Nat.gcd_comm]
theorem ix_nat {n : Nat} {i : Int} (h0 : 0 ≤ i) (h1 : i < n) : ixD n i = some i.toNat := by
  unfold ixD; rw [if_pos h0, if_pos h1]
end Lw
namespace Lw
theorem wf_of {n : Nat} (h : n < 10 ^ 300) : n < 2 ^ 4096 := Nat.lt_trans h (by decide +kernel)
theorem wf_int {b : Int} (h : b < 10 ^ 300) : b.toNat < 2 ^ 4096 := by
  refine wf_of ?_
  have e : ((10 ^ 300 : Nat) : Int) = 10 ^ 300 := by rw [Int.natCast_pow]; rfl
  have : (b.toNat : Int) < ((10 ^ 300 : Nat) : Int) := by
    rw [e]
    have : (0 : Int) < 10 ^ 300 := by decide +kernel
    generalize (10 ^ 300 : Int) = X at *
    omega
  exact Int.ofNat_lt.mp this
end Lw
namespace Lw
open PySem L2
theorem zipD_map {α β : Type} (f : α → PyData) (g : β → PyData) : ∀ (xs : List α) (ys : List β), zipD (xs.map f) (ys.map g) = (xs.zip ys).map fun p => .tuple [f p.1, g p.2]
  | [], _ => by simp [zipD]
  | _ :: _, [] => by simp [zipD]
  | x :: xs, y :: ys => by
    have ih := zipD_map f g xs ys
    unfold zipD at ih ⊢
    simp only [List.map_cons, List.zipWith_cons_cons, List.zip_cons_cons, ih]
theorem mulOk_of {a b : Int} (ha : a.natAbs < 2 ^ 1000) (hb : b.natAbs < 2 ^ 1000) : mulOk a b = true := by
  have f : ∀ g : Nat, g < 2 ^ 1000 → g.log2 < 1000 := fun g h => by
    by_cases h0 : g = 0
    · subst h0; decide
    · exact (Nat.log2_lt h0).mpr h
  unfold mulOk
  have := f _ ha
  have := f _ hb
  simp; omega
theorem mulOk_big {a b : Int} (ha : 0 ≤ a) (ha' : a < 10 ^ 250) (hb : 0 ≤ b) (hb' : b < 10 ^ 250) : mulOk a b = true := by
  have k : ∀ x : Int, 0 ≤ x → x < 10 ^ 250 → x.natAbs < 2 ^ 1000 := fun x h0 h1 => by
    have : (x.natAbs : Int) < ((2 ^ 1000 : Nat) : Int) := by
      rw [Int.natAbs_of_nonneg h0]
      exact Int.lt_trans h1 (by decide +kernel)
    exact Int.ofNat_lt.mp this
  exact mulOk_of (k a ha ha') (k b hb hb')
end Lw
namespace Lw
theorem snocInd {α : Type} {P : List α → Prop} (h0 : P []) (h1 : ∀ l a, P l → P (l ++ [a])) (l : List α) : P l := by
  have : ∀ l : List α, P l.reverse := fun l => by
    induction l with
    | nil => exact h0
    | cons a l ih => rw [List.reverse_cons]; exact h1 _ _ ih
  have k := this l.reverse
  rwa [List.reverse_reverse] at k
end Lw

set_option maxRecDepth 100000
/-! Pl4: the evaluator's small functions, by the form of their arguments. -/
namespace Lw
open PySem L2
theorem look_tm2 (ro : Ro) (o : O) : (Hd.tm o).look ro = some o := Eq.trans rfl rfl
theorem look_sl2 (ro : Ro) (i : Nat) : (Hd.sl i []).look ro = ro[i]?.join := by
  show (match ro[i]? with | some (some o) => O.walk [] o | _ => none) = _
  rcases ro[i]? with _ | _ | o <;> rfl
theorem join_some2 {α : Type} (x : Option α) : (some x).join = x := Eq.trans rfl rfl
theorem lookD_eq (ro : Ro) (h : Hd) : h.lookD ro = (h.look ro).bind O.toD := Eq.trans rfl rfl
theorem lookF_eq (ro : Ro) (h : Hd) : h.lookF ro = (h.look ro).bind O.flat := Eq.trans rfl rfl
theorem opd_tm (ro : Ro) (o : O) : (Hd.tm o).opd ro = o.toD := Eq.trans rfl rfl
theorem opd_sl (ro : Ro) (i : Nat) (p : List Sel) : (Hd.sl i p).opd ro = (Hd.sl i p).lookF ro := Eq.trans rfl rfl
def boolOf : PyData → Option Bool
  | .bool b => some b
  | _ => none
theorem boolOf_bool (b : Bool) : boolOf (.bool b) = some b := Eq.trans rfl rfl
theorem bool_eq (ro : Ro) (h : Hd) : h.bool ro = (h.lookD ro).bind boolOf := by
  unfold Hd.bool
  cases h.lookD ro with
  | none => rfl
  | some x => cases x <;> rfl
theorem sto_tm (ro : Ro) (o : O) : (Hd.tm o).sto ro = .ok o ro := Eq.trans rfl rfl
theorem sto_sl (ro : Ro) (i : Nat) (p : List Sel) : (Hd.sl i p).sto ro = ((Hd.sl i p).esc ro).bind fun x ro => .ok (.d x) ro := Eq.trans rfl rfl
theorem esc_tm (ro : Ro) (o : O) : (Hd.tm o).esc ro = .ofOpt o.toD ro := Eq.trans rfl rfl
def esel (q : Option (Option O)) (i : Nat) (ro : Ro) : Out PyData := match q with
  | some (some (.d x)) => .ok x ro
  | some (some o) => match o.toD with
    | some x => .ok x (ro.set i (some (.d x)))
    | none => .stuck
  | _ => .stuck
theorem esc_sl (ro : Ro) (i : Nat) : (Hd.sl i []).esc ro = esel ro[i]? i ro := by
  show (match ro[i]? with | some (some (.d x)) => Out.ok x ro | some (some o) => (match o.toD with | some x => Out.ok x (ro.set i (some (.d x))) | none => .stuck) | _ => .stuck) = _
  rfl
theorem esel_d (i : Nat) (ro : Ro) (x : PyData) : esel (some (some (.d x))) i ro = .ok x ro := Eq.trans rfl rfl
theorem esel_ol (i : Nat) (ro : Ro) (xs : List PyData) : esel (some (some (ol xs))) i ro = .ok (.list xs) (ro.set i (some (.d (.list xs)))) := by
  show (match (ol xs).toD with | some x => Out.ok x (ro.set i (some (.d x))) | none => .stuck) = _
  rw [ol_toD]
def asel (q : Option O) (h : Hd) (ro : Ro) : Out O := match q with
  | some (.scr ns) => .ok (.scr ns) ro
  | _ => (h.esc ro).bind fun x ro => .ok (.d x) ro
theorem arg_eq (h : Hd) (ro : Ro) : h.arg ro = asel (h.look ro) h ro := Eq.trans rfl rfl
theorem asel_scr (h : Hd) (ro : Ro) (ns : List Int) : asel (some (.scr ns)) h ro = .ok (.scr ns) ro := Eq.trans rfl rfl
theorem asel_d (h : Hd) (ro : Ro) (x : PyData) : asel (some (.d x)) h ro = (h.esc ro).bind fun x ro => .ok (.d x) ro := Eq.trans rfl rfl
theorem asel_ol (h : Hd) (ro : Ro) (x : List PyData) : asel (some (ol x)) h ro = (h.esc ro).bind fun x ro => .ok (.d x) ro := Eq.trans rfl rfl
theorem asel_lst (h : Hd) (ro : Ro) (x : List O) : asel (some (.lst x)) h ro = (h.esc ro).bind fun x ro => .ok (.d x) ro := Eq.trans rfl rfl
theorem argsO_nil (ro : Ro) : argsO [] ro = .ok [] ro := Eq.trans rfl rfl
theorem argsO_cons (h : Hd) (hs : List Hd) (ro : Ro) : argsO (h :: hs) ro = (h.arg ro).bind fun x ro => (argsO hs ro).bind fun xs ro => .ok (x :: xs) ro := Eq.trans rfl rfl
theorem escs_nil (ro : Ro) : escs [] ro = .ok [] ro := Eq.trans rfl rfl
theorem escs_cons (h : Hd) (hs : List Hd) (ro : Ro) : escs (h :: hs) ro = (h.esc ro).bind fun x ro => (escs hs ro).bind fun xs ro => .ok (x :: xs) ro := Eq.trans rfl rfl
theorem stos_nil (ro : Ro) : stos [] ro = .ok [] ro := Eq.trans rfl rfl
theorem stos_cons (h : Hd) (hs : List Hd) (ro : Ro) : stos (h :: hs) ro = (h.sto ro).bind fun x ro => (stos hs ro).bind fun xs ro => .ok (x :: xs) ro := Eq.trans rfl rfl
theorem looksD_nil (ro : Ro) : looksD ro [] = some [] := Eq.trans rfl rfl
theorem looksD_cons (ro : Ro) (h : Hd) (hs : List Hd) : looksD ro (h :: hs) = (h.lookD ro).bind fun x => (looksD ro hs).map (x :: ·) := by
  rw [looksD]
  cases h.lookD ro with
  | none => rfl
  | some x => cases looksD ro hs <;> rfl
theorem looksF_nil (ro : Ro) : looksF ro [] = some [] := Eq.trans rfl rfl
theorem looksF_cons (ro : Ro) (h : Hd) (hs : List Hd) : looksF ro (h :: hs) = (h.lookF ro).bind fun x => (looksF ro hs).map (x :: ·) := by
  rw [looksF]
  cases h.lookF ro with
  | none => rfl
  | some x => cases looksF ro hs <;> rfl
theorem partD_nil (ro : Ro) : partD ro [] = some none := Eq.trans rfl rfl
def intOf : PyData → Option Int
  | .int b => some b
  | _ => none
theorem intOf_int (b : Int) : intOf (.int b) = some b := Eq.trans rfl rfl
theorem partD_one (ro : Ro) (h : Hd) : partD ro [h] = (h.lookD ro).bind fun x => (intOf x).map some := by
  unfold partD
  rw [looksD, looksD]
  cases h.lookD ro with
  | none => rfl
  | some x => cases x <;> rfl
theorem okD_eq (h : Hd) (b : CE) : okD h b = (!h.deep || qt b) := Eq.trans rfl rfl
theorem deep_tm (o : O) : (Hd.tm o).deep = false := Eq.trans rfl rfl
theorem deep_sl (i : Nat) : (Hd.sl i []).deep = false := Eq.trans rfl rfl
theorem isB_int_none  : isB .int (.none) = false := Eq.trans rfl rfl
theorem isB_int_bool (b : Bool) : isB .int (.bool b) = true := Eq.trans rfl rfl
theorem isB_int_int (b : Int) : isB .int (.int b) = true := Eq.trans rfl rfl
theorem isB_int_str (b : Str) : isB .int (.str b) = false := Eq.trans rfl rfl
theorem isB_int_list (b : List PyData) : isB .int (.list b) = false := Eq.trans rfl rfl
theorem isB_int_tuple (b : List PyData) : isB .int (.tuple b) = false := Eq.trans rfl rfl
theorem isB_bool_none  : isB .bool (.none) = false := Eq.trans rfl rfl
theorem isB_bool_bool (b : Bool) : isB .bool (.bool b) = true := Eq.trans rfl rfl
theorem isB_bool_int (b : Int) : isB .bool (.int b) = false := Eq.trans rfl rfl
theorem isB_bool_str (b : Str) : isB .bool (.str b) = false := Eq.trans rfl rfl
theorem isB_bool_list (b : List PyData) : isB .bool (.list b) = false := Eq.trans rfl rfl
theorem isB_bool_tuple (b : List PyData) : isB .bool (.tuple b) = false := Eq.trans rfl rfl
theorem isB_str_none  : isB .str (.none) = false := Eq.trans rfl rfl
theorem isB_str_bool (b : Bool) : isB .str (.bool b) = false := Eq.trans rfl rfl
theorem isB_str_int (b : Int) : isB .str (.int b) = false := Eq.trans rfl rfl
theorem isB_str_str (b : Str) : isB .str (.str b) = true := Eq.trans rfl rfl
theorem isB_str_list (b : List PyData) : isB .str (.list b) = false := Eq.trans rfl rfl
theorem isB_str_tuple (b : List PyData) : isB .str (.tuple b) = false := Eq.trans rfl rfl
theorem isB_tuple_none  : isB .tuple (.none) = false := Eq.trans rfl rfl
theorem isB_tuple_bool (b : Bool) : isB .tuple (.bool b) = false := Eq.trans rfl rfl
theorem isB_tuple_int (b : Int) : isB .tuple (.int b) = false := Eq.trans rfl rfl
theorem isB_tuple_str (b : Str) : isB .tuple (.str b) = false := Eq.trans rfl rfl
theorem isB_tuple_list (b : List PyData) : isB .tuple (.list b) = false := Eq.trans rfl rfl
theorem isB_tuple_tuple (b : List PyData) : isB .tuple (.tuple b) = true := Eq.trans rfl rfl
theorem isB_list_none  : isB .list (.none) = false := Eq.trans rfl rfl
theorem isB_list_bool (b : Bool) : isB .list (.bool b) = false := Eq.trans rfl rfl
theorem isB_list_int (b : Int) : isB .list (.int b) = false := Eq.trans rfl rfl
theorem isB_list_str (b : Str) : isB .list (.str b) = false := Eq.trans rfl rfl
theorem isB_list_list (b : List PyData) : isB .list (.list b) = true := Eq.trans rfl rfl
theorem isB_list_tuple (b : List PyData) : isB .list (.tuple b) = false := Eq.trans rfl rfl
theorem whole_none  (lo hi : Int) : whole (.none) lo hi = false := Eq.trans rfl rfl
theorem whole_bool (b : Bool) (lo hi : Int) : whole (.bool b) lo hi = false := Eq.trans rfl rfl
theorem whole_str (b : Str) (lo hi : Int) : whole (.str b) lo hi = false := Eq.trans rfl rfl
theorem whole_list (b : List PyData) (lo hi : Int) : whole (.list b) lo hi = false := Eq.trans rfl rfl
theorem whole_tuple (b : List PyData) (lo hi : Int) : whole (.tuple b) lo hi = false := Eq.trans rfl rfl
theorem primO_len (xs : List PyData) : primO .len xs = lenO xs := Eq.trans rfl rfl
theorem primO_int (xs : List PyData) : primO .int xs = intO xs := Eq.trans rfl rfl
theorem primO_abs (xs : List PyData) : primO .abs xs = absO xs := Eq.trans rfl rfl
theorem primO_max (xs : List PyData) : primO .max xs = maxO xs := Eq.trans rfl rfl
theorem primO_min (xs : List PyData) : primO .min xs = minO xs := Eq.trans rfl rfl
theorem primO_sum (xs : List PyData) : primO .sum xs = sumO xs := Eq.trans rfl rfl
theorem primO_all (xs : List PyData) : primO .all xs = allO xs := Eq.trans rfl rfl
theorem primO_any (xs : List PyData) : primO .any xs = anyO xs := Eq.trans rfl rfl
theorem primO_tuple (xs : List PyData) : primO .tuple xs = tupleO xs := Eq.trans rfl rfl
theorem primO_list (xs : List PyData) : primO .list xs = listO xs := Eq.trans rfl rfl
theorem primO_sorted (xs : List PyData) : primO .sorted xs = sortedO xs := Eq.trans rfl rfl
theorem lenO_l (xs : List PyData) : lenO [.list xs] = some (.d (.int xs.length)) := Eq.trans rfl rfl
theorem lenO_t (xs : List PyData) : lenO [.tuple xs] = some (.d (.int xs.length)) := Eq.trans rfl rfl
theorem intO_i (i : Int) : intO [.int i] = some (.d (.int i)) := Eq.trans rfl rfl
theorem absO_i (i : Int) : absO [.int i] = some (.d (.int (if i < 0 then -i else i))) := Eq.trans rfl rfl
theorem maxO_2 (i j : Int) : maxO [.int i, .int j] = some (.d (.int (if j > i then j else i))) := Eq.trans rfl rfl
theorem minO_2 (i j : Int) : minO [.int i, .int j] = some (.d (.int (if j < i then j else i))) := Eq.trans rfl rfl
theorem sumO_l (xs : List PyData) : sumO [.list xs] = (intsD xs).map fun is => .d (.int is.sum) := Eq.trans rfl rfl
theorem sumO_t (xs : List PyData) : sumO [.tuple xs] = (intsD xs).map fun is => .d (.int is.sum) := Eq.trans rfl rfl
theorem allO_l (xs : List PyData) : allO [.list xs] = (boolsD xs).map fun bs => .d (.bool (bs.all id)) := Eq.trans rfl rfl
theorem anyO_l (xs : List PyData) : anyO [.list xs] = (boolsD xs).map fun bs => .d (.bool (bs.any id)) := Eq.trans rfl rfl
theorem tupleO_l (xs : List PyData) : tupleO [.list xs] = some (.d (.tuple xs)) := Eq.trans rfl rfl
theorem tupleO_t (xs : List PyData) : tupleO [.tuple xs] = some (.d (.tuple xs)) := Eq.trans rfl rfl
theorem listO_l (xs : List PyData) : listO [.list xs] = some (ol xs) := Eq.trans rfl rfl
theorem listO_t (xs : List PyData) : listO [.tuple xs] = some (ol xs) := Eq.trans rfl rfl
theorem sortedO_l (xs : List PyData) : sortedO [.list xs] = (sortD xs).map fun ys => ol ys := Eq.trans rfl rfl
theorem bin_add (i j : Int) : binO .Add (.int i) (.int j) = some (.d (.int (i + j))) := Eq.trans rfl rfl
theorem bin_sub (i j : Int) : binO .Sub (.int i) (.int j) = some (.d (.int (i - j))) := Eq.trans rfl rfl
theorem bin_mul (i j : Int) : binO .Mult (.int i) (.int j) = if mulOk i j = true then some (.d (.int (i * j))) else none := rfl
theorem bin_fdiv (i j : Int) : binO .FloorDiv (.int i) (.int j) = if 0 < j ∧ j.natAbs.log2 < 9000 then some (.d (.int (i / j))) else none := rfl
theorem bin_mod (i j : Int) : binO .Mod (.int i) (.int j) = if 0 < j then some (.d (.int (i % j))) else none := rfl
theorem bin_addT (xs ys : List PyData) : binO .Add (.tuple xs) (.tuple ys) = if lenOk (xs.length + ys.length) = true then some (.d (.tuple (xs ++ ys))) else none := rfl
theorem bin_addL (xs ys : List PyData) : binO .Add (.list xs) (.list ys) = if lenOk (xs.length + ys.length) = true then some (ol (xs ++ ys)) else none := rfl
theorem bin_mulL (xs : List PyData) (n : Int) : binO .Mult (.list xs) (.int n) = if -(2 ^ 62) ≤ n ∧ n < 2 ^ 62 ∧ lenOk (xs.length * n.toNat) = true then some (ol (List.replicate n.toNat xs).flatten) else none := rfl
theorem bin_mulT (xs : List PyData) (n : Int) : binO .Mult (.tuple xs) (.int n) = if 2 ≤ n ∧ n ≤ 1000 ∧ xs.length ≤ 1000 ∧ xs ≠ [] then some (.d (.tuple (List.replicate n.toNat xs).flatten)) else none := rfl
theorem cmp_Eq (a b : PyData) : cmpD .Eq a b = eqD a b := Eq.trans rfl rfl
theorem cmp_NotEq (a b : PyData) : cmpD .NotEq a b = (eqD a b).map (!·) := Eq.trans rfl rfl
theorem cmp_Lt (a b : PyData) : cmpD .Lt a b = ltD a b := Eq.trans rfl rfl
theorem cmp_LtE (a b : PyData) : cmpD .LtE a b = leD a b := Eq.trans rfl rfl
theorem cmp_Gt (a b : PyData) : cmpD .Gt a b = gtD a b := Eq.trans rfl rfl
theorem cmp_GtE (a b : PyData) : cmpD .GtE a b = geD a b := Eq.trans rfl rfl
theorem cmp_In (a b : PyData) : cmpD .In a b = inD a b := Eq.trans rfl rfl
theorem cmp_NotIn (a b : PyData) : cmpD .NotIn a b = (inD a b).map (!·) := Eq.trans rfl rfl
theorem cmp_Is (a : PyData) : cmpD .Is a .none = some (!notNone a) := Eq.trans rfl rfl
theorem cmp_IsNot (a : PyData) : cmpD .IsNot a .none = some (notNone a) := Eq.trans rfl rfl
theorem notNone_none  : notNone (.none) = false := Eq.trans rfl rfl
theorem notNone_bool (b : Bool) : notNone (.bool b) = true := Eq.trans rfl rfl
theorem notNone_int (b : Int) : notNone (.int b) = true := Eq.trans rfl rfl
theorem notNone_str (b : Str) : notNone (.str b) = true := Eq.trans rfl rfl
theorem notNone_list (b : List PyData) : notNone (.list b) = true := Eq.trans rfl rfl
theorem notNone_tuple (b : List PyData) : notNone (.tuple b) = true := Eq.trans rfl rfl
theorem ltD_int (i j : Int) : ltD (.int i) (.int j) = some (decide (i < j)) := Eq.trans rfl rfl
theorem leD_int (i j : Int) : leD (.int i) (.int j) = some (decide (i ≤ j)) := Eq.trans rfl rfl
theorem gtD_int (i j : Int) : gtD (.int i) (.int j) = some (decide (j < i)) := Eq.trans rfl rfl
theorem geD_int (i j : Int) : geD (.int i) (.int j) = some (decide (j ≤ i)) := Eq.trans rfl rfl
theorem idx_t (xs : List PyData) (i : Int) : idxD (.tuple xs) (.int i) = (ixD xs.length i).bind fun k => xs[k]? := Eq.trans rfl rfl
theorem idx_l (xs : List PyData) (i : Int) : idxD (.list xs) (.int i) = (ixD xs.length i).bind fun k => xs[k]? := Eq.trans rfl rfl
theorem items_l (xs : List PyData) : itemsD (.list xs) = some xs := Eq.trans rfl rfl
theorem items_t (xs : List PyData) : itemsD (.tuple xs) = some xs := Eq.trans rfl rfl
theorem slice_t (xs : List PyData) (lo hi : Option Int) : sliceO (.d (.tuple xs)) lo hi = some (.d (.tuple (sliceD xs lo hi))) := Eq.trans rfl rfl
theorem slice_dl (xs : List PyData) (lo hi : Option Int) : sliceO (.d (.list xs)) lo hi = some (ol (sliceD xs lo hi)) := Eq.trans rfl rfl
theorem slice_scr (ns : List Int) (lo hi : Option Int) : sliceO (.scr ns) lo hi = some (ol (sliceD (ns.map .int) lo hi)) := Eq.trans rfl rfl
theorem zsel_l (ro : Ro) (xs ys : List PyData) : zsel ro [.list xs, .list ys] = .ok (zipD xs ys) ro := Eq.trans rfl rfl
theorem zsel_t (ro : Ro) (xs ys : List PyData) : zsel ro [.tuple xs, .tuple ys] = .ok (zipD xs ys) ro := Eq.trans rfl rfl
theorem zsel_lt (ro : Ro) (xs ys : List PyData) : zsel ro [.list xs, .tuple ys] = .ok (zipD xs ys) ro := Eq.trans rfl rfl
theorem zsel_tl (ro : Ro) (xs ys : List PyData) : zsel ro [.tuple xs, .list ys] = .ok (zipD xs ys) ro := Eq.trans rfl rfl
theorem outF_ret (o : O) (ro : Ro) : outF (.ret o ro) = .ok o [] := Eq.trans rfl rfl
theorem outF_nx (ro : Ro) : outF (.nx ro) = .ok (.d .none) [] := Eq.trans rfl rfl
theorem outF_exc (x : Exn) (ro : Ro) : outF (.exc x ro) = .exc x [] := Eq.trans rfl rfl
theorem asgT_var (i : Nat) (x : PyData) (ro : Ro) : asgT (.var i) x ro = some (ro.set i (some (.d x))) := by rw [asgT]
theorem asgT_tup (ts : CE) (xs : List PyData) (ro : Ro) : asgT (.tup ts) (.tuple xs) ro = asgTs ts xs ro := by rw [asgT]
theorem asgTs_nil (ro : Ro) : asgTs .nil [] ro = some ro := by rw [asgTs]
theorem asgTs_cons (t ts : CE) (x : PyData) (xs : List PyData) (ro : Ro) : asgTs (.cons t ts) (x :: xs) ro = (asgT t x ro).bind fun ro => asgTs ts xs ro := by
  rw [asgTs]; cases asgT t x ro <;> rfl
theorem wipe_nil (ro : Ro) : wipeR [] ro = ro := Eq.trans rfl rfl
theorem wipe_cons (p : Str × Nat) (ps : List (Str × Nat)) (ro : Ro) : wipeR (p :: ps) ro = (wipeR ps ro).set p.2 none := Eq.trans rfl rfl
def quietS : Option (Option O) → Bool
  | some none => true
  | some (some (.d _)) => true
  | _ => false
theorem quiet_nil (ro : Ro) : quietOwn ro [] = true := Eq.trans rfl rfl
theorem quiet_cons (p : Str × Nat) (ps : List (Str × Nat)) (ro : Ro) : quietOwn ro (p :: ps) = (quietS ro[p.2]? && quietOwn ro ps) := Eq.trans rfl rfl
theorem quiet_none : quietS (some none) = true := Eq.trans rfl rfl
theorem quiet_d (x : PyData) : quietS (some (some (.d x))) = true := Eq.trans rfl rfl
/-- what a slot may be left with: nothing, or data -/
def jd (x : Option PyData) : Option O := x.map .d
theorem quiet_jd (x : Option PyData) : quietS (some (jd x)) = true := by cases x <;> rfl
theorem jd_none : jd none = none := rfl
theorem jd_some (x : PyData) : jd (some x) = some (.d x) := rfl
theorem aug_add2 (i j : Int) : augO .Add (.int i) (.int j) = some (.int (i + j)) := Eq.trans rfl rfl
theorem aug_sub2 (i j : Int) : augO .Sub (.int i) (.int j) = some (.int (i - j)) := Eq.trans rfl rfl
theorem aug_mul2 (i j : Int) : augO .Mult (.int i) (.int j) = if -(2 ^ 64) < j ∧ j < 2 ^ 64 then some (.int (i * j)) else none := rfl
section
variable {G : GE} {ro : Ro}
theorem q_neg2 (a : CE) : ev G (.neg a) ro = (ev G a ro).bind fun h ro => osel ((h.lookD ro).bind intOf) (fun i => .ok (.tm (.d (.int (-i)))) ro) .stuck := by
  rw [q_neg]; congr 1; funext h ro
  cases h.lookD ro with
  | none => rfl
  | some x => cases x <;> rfl
def revO : PyData → Option O
  | .tuple xs => some (.d (.tuple xs.reverse))
  | .list xs => some (ol xs.reverse)
  | _ => none
theorem revO_t (xs : List PyData) : revO (.tuple xs) = some (.d (.tuple xs.reverse)) := Eq.trans rfl rfl
theorem revO_l (xs : List PyData) : revO (.list xs) = some (ol xs.reverse) := Eq.trans rfl rfl
theorem q_rev2 (a : CE) : ev G (.rev a) ro = (ev G a ro).bind fun h ro => osel ((h.lookF ro).bind revO) (fun o => .ok (.tm o) ro) .stuck := by
  rw [q_rev]; congr 1; funext h ro
  cases h.lookF ro with
  | none => rfl
  | some x => cases x <;> rfl
def listOf : PyData → Option (List PyData)
  | .list xs => some xs
  | _ => none
theorem listOf_l (xs : List PyData) : listOf (.list xs) = some xs := Eq.trans rfl rfl
theorem q_sset2 (a : CE) : ev G (.sset a) ro = (ev G a ro).bind fun h ro => osel (((h.lookF ro).bind listOf).bind ssetD) (fun ys => .ok (.tm (ol ys)) ro) .stuck := by
  rw [q_sset]; congr 1; funext h ro
  cases h.lookF ro with
  | none => rfl
  | some x => cases x <;> rfl
def rgD (m n : Int) : Option (List PyData) := if -(2 ^ 62) ≤ m ∧ m < 2 ^ 62 ∧ -(2 ^ 62) ≤ n ∧ n < 2 ^ 62 then some (rangeD m n) else none
theorem rgD_ok {m n : Int} (h1 : -1000000000 ≤ m) (h2 : m ≤ 1000000000) (h3 : -1000000000 ≤ n) (h4 : n ≤ 1000000000) : rgD m n = some (rangeD m n) := by
  unfold rgD; rw [if_pos]; omega
theorem qI_rng1' (z : Bool) (n : CE) : evI G z (.rng (.cons n .nil)) ro = (ev G n ro).bind fun h ro => osel ((h.lookD ro).bind intOf) (fun n => osel (rgD 0 n) (fun xs => .ok xs ro) .stuck) .stuck := by
  rw [qI_rng1, q_cons]
  cases ev G n ro with
  | stuck => rfl
  | exc x ro => rfl
  | ok h ro =>
    have ok0 : okD h .nil = true := by unfold okD; rw [show qt .nil = true from rfl]; simp
    simp only [Out.bind_ok, ok0, if_true, q_nil, looksD]
    cases h.lookD ro with
    | none => rfl
    | some x =>
      cases x <;> try rfl
      rename_i n
      simp only [Option.bind_some, intOf, osel, rgD]
      by_cases c : -(2 ^ 62) ≤ n ∧ n < 2 ^ 62
      · rw [if_pos c, if_pos ⟨by decide, by decide, c⟩]
      · rw [if_neg c, if_neg fun z => c ⟨z.2.2.1, z.2.2.2⟩]
def rgsel (ro : Ro) : List PyData → Out (List PyData)
  | [.int n] => osel (rgD 0 n) (fun xs => .ok xs ro) .stuck
  | [.int m, .int n] => osel (rgD m n) (fun xs => .ok xs ro) .stuck
  | _ => .stuck
theorem rgsel_2 (ro : Ro) (m n : Int) : rgsel ro [.int m, .int n] = osel (rgD m n) (fun xs => .ok xs ro) .stuck := Eq.trans rfl rfl
theorem qI_rng2' (z : Bool) (m n : CE) : evI G z (.rng (.cons m (.cons n .nil))) ro = (evs G (.cons m (.cons n .nil)) ro).bind fun hs ro => osel (looksD ro hs) (fun xs => rgsel ro xs) .stuck := by
  rw [qI_rng2]; congr 1; funext hs ro
  cases looksD ro hs with
  | none => rfl
  | some xs =>
    simp only [osel]
    split
    · rename_i n h
      cases h
      simp only [rgsel, rgD, osel]
      rename_i n
      by_cases c : -(2 ^ 62) ≤ n ∧ n < 2 ^ 62
      · rw [if_pos c, if_pos ⟨by decide, by decide, c⟩]
      · rw [if_neg c, if_neg fun z => c ⟨z.2.2.1, z.2.2.2⟩]
    · rename_i n h
      cases h
      simp only [rgsel, rgD, osel]
      split <;> rfl
    · rename_i h1 h2
      unfold rgsel
      split
      · exact absurd rfl (h1 _)
      · exact absurd rfl (h2 _ _)
      · rfl
end
end Lw
namespace Lw
theorem ixD_eq (n : Nat) (i : Int) : ixD n i = if 0 ≤ i then (if i < n then some i.toNat else none) else if -(n : Int) ≤ i then some (i + n).toNat else none := rfl
end Lw
namespace Lw
theorem lenOk_eq (n : Nat) : lenOk n = decide (n ≤ 16777216) := rfl
end Lw

namespace Lw
open PySem L2
theorem log_small2 {j : Int} (h0 : 0 < j) (h : j ≤ 10 ^ 250) : j.natAbs.log2 < 9000 := by
  have k : j.natAbs < 2 ^ 1000 := by
    have : (j.natAbs : Int) < ((2 ^ 1000 : Nat) : Int) := by
      rw [Int.natAbs_of_nonneg (by omega)]
      exact Int.lt_of_le_of_lt h (by decide +kernel)
    exact Int.ofNat_lt.mp this
  have := (Nat.log2_lt (by omega)).mpr k
  omega
theorem mulOk_ok {a b : Int} (h1 : -(10 ^ 100) ≤ a) (h2 : a ≤ 10 ^ 100) (h3 : -(10 ^ 100) ≤ b) (h4 : b ≤ 10 ^ 100) : mulOk a b = true := by
  have k : ∀ x : Int, -(10 ^ 100) ≤ x → x ≤ 10 ^ 100 → x.natAbs < 2 ^ 1000 := fun x h0 h1 => by
    have : (x.natAbs : Int) < ((2 ^ 1000 : Nat) : Int) := Int.lt_of_le_of_lt (show (x.natAbs : Int) ≤ 10 ^ 100 by omega) (by decide +kernel)
    exact Int.ofNat_lt.mp this
  exact mulOk_of (k a h1 h2) (k b h3 h4)
theorem bin_mul1 (i j : Int) (h : mulOk i j = true) : binO .Mult (.int i) (.int j) = some (.d (.int (i * j))) := by rw [bin_mul, if_pos h]
theorem bin_mul3 (i j : Int) (h1 : -(10 ^ 100) ≤ i) (h2 : i ≤ 10 ^ 100) (h3 : -(10 ^ 100) ≤ j) (h4 : j ≤ 10 ^ 100) : binO .Mult (.int i) (.int j) = some (.d (.int (i * j))) := by rw [bin_mul, if_pos (mulOk_ok h1 h2 h3 h4)]
theorem bin_fdiv1 (i j : Int) (h : 0 < j) (h2 : j ≤ 10 ^ 250) : binO .FloorDiv (.int i) (.int j) = some (.d (.int (i / j))) := by rw [bin_fdiv, if_pos ⟨h, log_small2 h h2⟩]
theorem bin_fdiv2 (i j : Int) (h : 0 < j) (h2 : j.natAbs.log2 < 9000) : binO .FloorDiv (.int i) (.int j) = some (.d (.int (i / j))) := by rw [bin_fdiv, if_pos ⟨h, h2⟩]
theorem bin_mod1 (i j : Int) (h : 0 < j) : binO .Mod (.int i) (.int j) = some (.d (.int (i % j))) := by rw [bin_mod, if_pos h]
theorem aug_mul1 (i j : Int) (h1 : -(2 ^ 64) < j) (h2 : j < 2 ^ 64) : augO .Mult (.int i) (.int j) = some (.int (i * j)) := by rw [aug_mul2, if_pos ⟨h1, h2⟩]
theorem bin_addT1 (xs ys : List PyData) (h : xs.length + ys.length ≤ 16777216) : binO .Add (.tuple xs) (.tuple ys) = some (.d (.tuple (xs ++ ys))) := by rw [bin_addT, if_pos (lenOk_of h)]
theorem bin_addL1 (xs ys : List PyData) (h : xs.length + ys.length ≤ 16777216) : binO .Add (.list xs) (.list ys) = some (ol (xs ++ ys)) := by rw [bin_addL, if_pos (lenOk_of h)]
theorem bin_mulL1 (xs : List PyData) (n : Int) (h : n ≤ 1000) (h0 : -1000 ≤ n) (h2 : xs.length ≤ 1000) : binO .Mult (.list xs) (.int n) = some (ol (List.replicate n.toNat xs).flatten) := by
  rw [bin_mulL, if_pos]
  refine ⟨by omega, by omega, lenOk_of ?_⟩
  have : xs.length * n.toNat ≤ 1000 * 1000 := Nat.mul_le_mul h2 (by omega)
  omega
theorem bin_mulT1 (x : PyData) (xs : List PyData) (n : Int) (h : n ≤ 1000) (h0 : 2 ≤ n) (h2 : xs.length ≤ 999) : binO .Mult (.tuple (x :: xs)) (.int n) = some (.d (.tuple (List.replicate n.toNat (x :: xs)).flatten)) := by
  rw [bin_mulT, if_pos]
  exact ⟨h0, h, by simp; omega, by simp⟩
theorem ix_pos (n : Nat) (i : Int) (h0 : 0 ≤ i) (h1 : i < n) : ixD n i = some i.toNat := by rw [ixD_eq, if_pos h0, if_pos h1]
theorem ix_neg (n : Nat) (i : Int) (h0 : i < 0) (h1 : -(n : Int) ≤ i) : ixD n i = some (i + n).toNat := by rw [ixD_eq, if_neg (by omega), if_pos h1]
theorem lenOk_ok (n : Nat) (h : n ≤ 16777216) : lenOk n = true := lenOk_of h
theorem rgD_ok' (m n : Int) (h1 : -1000000000 ≤ m) (h2 : m ≤ 1000000000) (h3 : -1000000000 ≤ n) (h4 : n ≤ 1000000000) : rgD m n = some (rangeD m n) := rgD_ok h1 h2 h3 h4
theorem dec_yes (p : Prop) [Decidable p] (h : p) : decide p = true := decide_eq_true h
theorem dec_no (p : Prop) [Decidable p] (h : ¬ p) : decide p = false := decide_eq_false h
end Lw
namespace Lw
open PySem L2
theorem eqD_ints (xs ys : List Int) : eqD (.list (xs.map .int)) (.list (ys.map .int)) = some (decide (xs = ys)) := eqD_enc (α := List Int) xs ys (by decide)
theorem eqD_tints (xs ys : List Int) : eqD (.tuple (xs.map .int)) (.tuple (ys.map .int)) = some (decide (xs = ys)) := by
  have := eqD_enc (α := Tu Int) ⟨xs⟩ ⟨ys⟩ (by decide)
  rw [show eqD (.tuple (xs.map .int)) (.tuple (ys.map .int)) = eqD (Enc.enc (Tu.mk xs)) (Enc.enc (Tu.mk ys)) from rfl, this]
  congr 1
  exact decide_eq_decide.mpr ⟨fun h => by injection h, fun h => by rw [h]⟩
/-- a range from 0, as the numbers below -/
theorem rangeD_nat (n : Nat) (m : Int) (h : m = n) : rangeD 0 m = (List.range n).map fun (k : Nat) => PyData.int (k : Int) := by
  subst h
  unfold rangeD
  have : ((n : Int) - 0).toNat = n := by omega
  rw [this]
  exact List.map_congr_left fun k _ => by rw [Int.zero_add]
end Lw
namespace Lw
open PySem L2
/-! slices -/
theorem cutD_nat (n d : Nat) (v : Int) (h : 0 ≤ v) : cutD n d (some v) = min v.toNat n := by
  show (if v < 0 then (v + (n : Int)).toNat else min v.toNat n) = _
  rw [if_neg (by omega)]
theorem sliceD_from (xs : List PyData) (v : Int) (h : 0 ≤ v) : sliceD xs (some v) none = xs.drop v.toNat := by
  unfold sliceD
  rw [cutD_nat _ _ _ h]
  show (xs.drop (min v.toNat xs.length)).take (xs.length - min v.toNat xs.length) = _
  by_cases c : v.toNat ≤ xs.length
  · rw [Nat.min_eq_left c, List.take_of_length_le (by rw [List.length_drop]; exact Nat.le_refl _)]
  · rw [Nat.min_eq_right (by omega), List.drop_length, List.drop_of_length_le (by omega)]; simp
theorem sliceD_to (xs : List PyData) (v : Int) (h : 0 ≤ v) : sliceD xs none (some v) = xs.take v.toNat := by
  unfold sliceD
  rw [cutD_nat _ _ _ h]
  show (xs.drop 0).take (min v.toNat xs.length - 0) = _
  rw [List.drop_zero, Nat.sub_zero]
  by_cases c : v.toNat ≤ xs.length
  · rw [Nat.min_eq_left c]
  · rw [Nat.min_eq_right (by omega), List.take_length, List.take_of_length_le (by omega)]
/-! the order of tuples of ints -/
def ltC (a b : List Int) : Bool := PySem.W.dataLt (tupI a) (tupI b)
theorem alike_tupI : ∀ x y : List Int, PySem.W.alike (tupI x) (tupI y) = true := fun x y => by
  unfold tupI
  rw [PySem.W.alike]
  induction x generalizing y with
  | nil => rw [List.map_nil, PySem.W.alikeAll]
  | cons a x ih =>
    cases y with
    | nil => rw [List.map_cons, List.map_nil, PySem.W.alikeAll]
    | cons b y => rw [List.map_cons, List.map_cons, PySem.W.alikeAll, PySem.W.alike, ih y]; rfl
theorem depth_tupI (x : List Int) : (tupI x).depth ≤ 60 := by
  have := Enc.dep_le (α := Tu Int) ⟨x⟩
  exact Nat.le_trans this (by decide)
theorem ordOk_tupI (a b : List Int) : ordOk (tupI a) (tupI b) = true := by
  unfold ordOk
  rw [alike_tupI]
  simp [depth_tupI]
  rfl
theorem ltD_tints (a b : List Int) : ltD (.tuple (a.map .int)) (.tuple (b.map .int)) = some (ltC a b) := by
  show (if ordOk (tupI a) (tupI b) = true then some (PySem.W.dataLt (tupI a) (tupI b)) else none) = _
  rw [ordOk_tupI, if_pos rfl]; rfl
theorem leD_tints (a b : List Int) : leD (.tuple (a.map .int)) (.tuple (b.map .int)) = some (!ltC b a) := by
  show (if ordOk (tupI a) (tupI b) = true then some (!PySem.W.dataLt (tupI b) (tupI a)) else none) = _
  rw [ordOk_tupI, if_pos rfl]; rfl
/-! a list of data, owned or not -/
def isL (x : O) (xs : List PyData) : Prop := x = .d (.list xs) ∨ x = ol xs
theorem isL.flat {x : O} {xs : List PyData} (h : isL x xs) : x.flat = some (.list xs) := by
  rcases h with rfl | rfl
  · exact flat_d _
  · exact ol_flat _
theorem isL.toD {x : O} {xs : List PyData} (h : isL x xs) : x.toD = some (.list xs) := by
  rcases h with rfl | rfl
  · exact toD_d _
  · exact ol_toD _
theorem isL.esel {x : O} {xs : List PyData} (h : isL x xs) {ro : Ro} {i : Nat} (hi : ro[i]? = some (some x)) : Lw.esel (some (some x)) i ro = .ok (.list xs) (ro.set i (some (.d (.list xs)))) := by
  rcases h with rfl | rfl
  · rw [esel_d, set_self hi]
  · rw [esel_ol]
theorem ol_nil' : O.lst [] = ol [] := Eq.trans rfl rfl
theorem ol_one' (a : PyData) : O.lst [.d a] = ol [a] := Eq.trans rfl rfl
theorem ol_two' (a b : PyData) : O.lst [.d a, .d b] = ol [a, b] := Eq.trans rfl rfl
theorem ol_three' (a b c : PyData) : O.lst [.d a, .d b, .d c] = ol [a, b, c] := Eq.trans rfl rfl
theorem ol_four' (a b c d : PyData) : O.lst [.d a, .d b, .d c, .d d] = ol [a, b, c, d] := Eq.trans rfl rfl
theorem ol_five' (a b c d e : PyData) : O.lst [.d a, .d b, .d c, .d d, .d e] = ol [a, b, c, d, e] := Eq.trans rfl rfl
theorem set_self' {α : Type} {l : List α} {i : Nat} {x : α} (h : l[i]? = some x) : l.set i x = l := set_self h
end Lw
namespace Lw
open PySem L2
theorem bin_pow1 (i j : Int) (h0 : 0 ≤ j) (h1 : j ≤ 1000) (h2 : i.natAbs < 2 ^ 64) : binO .Pow (.int i) (.int j) = some (.d (.int (i ^ j.toNat))) := by
  show (if 0 ≤ j ∧ j ≤ 1000000 ∧ i.natAbs < 2 ^ 64 then some (O.d (.int (i ^ j.toNat))) else none) = _
  rw [if_pos ⟨h0, by omega, h2⟩]
theorem map_snoc {α β : Type} (f : α → β) (xs : List α) (x : α) : xs.map f ++ [f x] = (xs ++ [x]).map f := by simp
end Lw

set_option maxRecDepth 100000
/-! Pl5: methods of lists. -/
namespace Lw
open PySem L2
section
variable {G : GE} {ro : Ro}
def lsel {α : Type} (q : Option (Option O)) (f : α) (z : α) : α := match q with
  | some (some (.lst _)) => f
  | _ => z
theorem lsel_ol {α : Type} (xs : List PyData) (f z : α) : lsel (some (some (ol xs))) f z = f := Eq.trans rfl rfl
theorem q_mth (m : Mt) (i : Nat) (as : CE) : ev G (.mth m (.var i) as) ro = lsel ro[i]? ((evs G as ro).bind fun hs ro => (stos hs ro).bind fun xs ro => mthR m i [] xs ro) .stuck := by
  rw [ev, ev]
  have k : ∀ as : CE, okD (.sl i []) as = true := fun as => rfl
  have e : Hd.look ro (.sl i []) = (match ro[i]? with | some (some o) => O.walk [] o | _ => none) := rfl
  rcases h : ro[i]? with _ | _ | o
  · rfl
  · rfl
  · simp only [Out.bind_ok, e, h, O.walk, k, Bool.and_true]
    cases o <;> simp [isLst, lsel]
def lstOf (q : Option (Option O)) : Option (List O) := match q with
  | some (some (.lst os)) => some os
  | _ => none
theorem mthR_eq (m : Mt) (i : Nat) (xs : List O) : mthR m i [] xs ro = osel (lstOf ro[i]?) (fun os => osel (mthL m os xs) (fun p => .ok (.tm p.1) (ro.set i (some (.lst p.2)))) .stuck) .stuck := by
  unfold mthR
  rcases h : ro[i]? with _ | _ | o
  · rfl
  · rfl
  · cases o <;> simp only [O.walk, lstOf, osel]
    rename_i os
    cases mthL m os xs with
    | none => rfl
    | some p => cases p; rfl
def appS (q : Option (Option O)) (i : Nat) (ys : List PyData) (ro : Ro) : Out Hd := match lstOf q with
  | some os => if lenOk (os.length + ys.length) = true then .ok (.tm (.d .none)) (ro.set i (some (.lst (os ++ ys.map .d)))) else .stuck
  | none => .stuck
theorem appS_ol (xs : List PyData) (i : Nat) (ys : List PyData) (ro : Ro) : appS (some (some (ol xs))) i ys ro = if decide (xs.length + ys.length ≤ 16777216) = true then .ok (.tm (.d .none)) (ro.set i (some (ol (xs ++ ys)))) else .stuck := by
  unfold appS lstOf ol lenOk
  simp
theorem appS_ok (xs : List PyData) (i : Nat) (ys : List PyData) (ro : Ro) (h : xs.length + ys.length ≤ 16777216) : appS (some (some (ol xs))) i ys ro = .ok (.tm (.d .none)) (ro.set i (some (ol (xs ++ ys)))) := by
  rw [appS_ol, if_pos (decide_eq_true h)]
theorem mth_app (i : Nat) (y : PyData) : mthR .append i [] [.d y] ro = appS ro[i]? i [y] ro := by
  rw [mthR_eq]; unfold appS
  cases lstOf ro[i]? with
  | none => rfl
  | some os =>
    simp only [osel, mthL, List.length_singleton, List.map_cons, List.map_nil]
    cases lenOk (os.length + 1) <;> rfl
theorem mth_ext (i : Nat) (ys : List PyData) : mthR .extend i [] [ol ys] ro = appS ro[i]? i ys ro := by
  rw [mthR_eq]; unfold appS
  cases lstOf ro[i]? with
  | none => rfl
  | some os =>
    simp only [osel, ol, mthL, List.length_map]
    cases lenOk (os.length + ys.length) <;> rfl
theorem mth_extd (i : Nat) (ys : List PyData) : mthR .extend i [] [.d (.list ys)] ro = appS ro[i]? i ys ro := by
  rw [mthR_eq]; unfold appS
  cases lstOf ro[i]? with
  | none => rfl
  | some os =>
    simp only [osel, mthL]
    cases lenOk (os.length + ys.length) <;> rfl
end
end Lw

/-! M70: fractions in lowest terms. -/
namespace Lw.T
open PySem L2 Lw
def frac (p : Int × Int) : PyData := .tuple [.int p.1, .int p.2]
def low (a b : Int) : Int × Int := (a / (Int.gcd a b : Int), b / (Int.gcd a b : Int))
theorem gcd_pos {a b : Int} (hb : 0 < b) : 0 < Int.gcd a b := Nat.pos_of_ne_zero fun e => by
  have := Int.gcd_eq_zero_iff.mp e
  omega
theorem gcd_le_right {a b : Int} (hb : 0 < b) : (Int.gcd a b : Int) ≤ b := Int.le_of_dvd hb (Int.gcd_dvd_right a b)
theorem low_mul {a b : Int} : a = (low a b).1 * (Int.gcd a b : Int) ∧ b = (low a b).2 * (Int.gcd a b : Int) :=
  ⟨(Int.ediv_mul_cancel (Int.gcd_dvd_left a b)).symm, (Int.ediv_mul_cancel (Int.gcd_dvd_right a b)).symm⟩
theorem low_gcd {a b : Int} (hb : 0 < b) : Int.gcd (low a b).1 (low a b).2 = 1 := by
  have g := gcd_pos (a := a) hb
  unfold low
  have := Int.gcd_ediv (a := a) (b := b) (c := (Int.gcd a b : Int)) (Int.gcd_dvd_left a b) (Int.gcd_dvd_right a b)
  simp only [this, Int.natAbs_natCast]
  exact Nat.div_self g
theorem low_pos {a b : Int} (ha : 0 ≤ a) (hb : 0 < b) : 0 ≤ (low a b).1 ∧ (low a b).1 ≤ a ∧ 0 < (low a b).2 ∧ (low a b).2 ≤ b := by
  have g := gcd_pos (a := a) hb
  have g' : (0 : Int) < (Int.gcd a b : Int) := by omega
  obtain ⟨e1, e2⟩ := low_mul (a := a) (b := b)
  unfold low
  refine ⟨Int.ediv_nonneg ha (by omega), Int.ediv_le_self _ ha, ?_, Int.ediv_le_self _ (by omega)⟩
  exact Int.ediv_pos_of_pos_of_dvd hb (by omega) (Int.gcd_dvd_right a b)
theorem dvd_of_gcd {a b c : Int} (h : b ∣ a * c) (g : Int.gcd a b = 1) : b ∣ c := by
  have h' : b.natAbs ∣ a.natAbs * c.natAbs := by rw [← Int.natAbs_mul]; exact Int.natAbs_dvd_natAbs.mpr h
  have g' : Nat.Coprime b.natAbs a.natAbs := by
    unfold Nat.Coprime
    rw [Nat.gcd_comm]; exact g
  exact Int.natAbs_dvd_natAbs.mp (Nat.Coprime.dvd_of_dvd_mul_left g' h')
theorem cross_eq {a b c d : Int} (h1 : Int.gcd a b = 1) (h2 : Int.gcd c d = 1) (hb : 0 < b) (hd : 0 < d) (h : a * d = c * b) : a = c ∧ b = d := by
  have x1 : b ∣ d := by
    have : b ∣ a * d := ⟨c, by rw [h, Int.mul_comm]⟩
    exact dvd_of_gcd this h1
  have x2 : d ∣ b := by
    have : d ∣ c * b := ⟨a, by rw [← h, Int.mul_comm]⟩
    exact dvd_of_gcd this h2
  have e : b = d := Int.le_antisymm (Int.le_of_dvd hd x1) (Int.le_of_dvd hb x2)
  subst e
  exact ⟨Int.eq_of_mul_eq_mul_right (by omega) h, rfl⟩
theorem low_cross {a b : Int} : (low a b).1 * b = a * (low a b).2 := by
  obtain ⟨e1, e2⟩ := low_mul (a := a) (b := b)
  generalize (low a b).1 = x at *
  generalize (low a b).2 = y at *
  generalize (Int.gcd a b : Int) = g at *
  subst e1; subst e2
  grind
theorem low_eq {a b c d : Int} (hb : 0 < b) (hd : 0 < d) (h : a * d = c * b) : low a b = low c d := by
  have p1 := low_gcd (a := a) hb
  have p2 := low_gcd (a := c) hd
  have g1 := gcd_pos (a := a) hb
  have g2 := gcd_pos (a := c) hd
  obtain ⟨e1, e2⟩ := low_mul (a := a) (b := b)
  obtain ⟨e3, e4⟩ := low_mul (a := c) (b := d)
  have q1 : 0 < (low a b).2 := Int.ediv_pos_of_pos_of_dvd hb (by omega) (Int.gcd_dvd_right a b)
  have q2 : 0 < (low c d).2 := Int.ediv_pos_of_pos_of_dvd hd (by omega) (Int.gcd_dvd_right c d)
  have k : (low a b).1 * (low c d).2 = (low c d).1 * (low a b).2 := by
    have g1' : (Int.gcd a b : Int) ≠ 0 := by omega
    have g2' : (Int.gcd c d : Int) ≠ 0 := by omega
    generalize (low a b).1 = x at *
    generalize (low a b).2 = y at *
    generalize (low c d).1 = z at *
    generalize (low c d).2 = w at *
    generalize (Int.gcd a b : Int) = g at *
    generalize (Int.gcd c d : Int) = e at *
    have : (x * w) * (g * e) = (z * y) * (g * e) := by subst e1; subst e2; subst e3; subst e4; grind
    exact Int.eq_of_mul_eq_mul_right (Int.mul_ne_zero g1' g2') this
  obtain ⟨r1, r2⟩ := cross_eq p1 p2 q1 q2 k
  exact Prod.ext r1 r2
theorem low_eq_iff {a b c d : Int} (hb : 0 < b) (hd : 0 < d) : low a b = low c d ↔ a * d = c * b := by
  refine ⟨fun h => ?_, low_eq hb hd⟩
  have e1 := low_cross (a := a) (b := b)
  have e2 := low_cross (a := c) (b := d)
  have g1 := gcd_pos (a := a) hb
  have q1 : 0 < (low a b).2 := Int.ediv_pos_of_pos_of_dvd hb (by omega) (Int.gcd_dvd_right a b)
  rw [← h] at e2
  generalize (low a b).1 = x at *
  generalize (low a b).2 = y at *
  have : y * (a * d) = y * (c * b) := by grind
  exact Int.eq_of_mul_eq_mul_left (by omega) this
theorem low_id {p : Int × Int} (h : Int.gcd p.1 p.2 = 1) : low p.1 p.2 = p := by
  unfold low
  rw [h]
  simp
/-- low of low -/
theorem low_low {a b c d : Int} (hb : 0 < b) (hd : 0 < d) (ha : 0 ≤ a) : low ((low a b).1 * c) ((low a b).2 * d) = low (a * c) (b * d) := by
  have q := low_pos ha hb
  refine low_eq (Int.mul_pos q.2.2.1 hd) (Int.mul_pos hb hd) ?_
  have e := low_cross (a := a) (b := b)
  generalize (low a b).1 = x at *
  generalize (low a b).2 = y at *
  grind
end Lw.T

/-! printed by gen.py: the defs of the linked law in compact form -/
namespace Lw.T
open PySem L2 Lw
def top (i : Nat) : Stmt := PySem.Challenge.pw_leadwright_k70_whole_lights.main.body.getD i (.Pass ⟨0, 0, 0, 0⟩)
def fns : List Str := ["is_whole", "ascends", "divisor", "is_colour", "_is_fraction", "_check_light", "check_colour", "_are_colours", "_check_colours", "_lowest", "_lets", "lets", "_product", "through", "meets", "_same", "same_colours", "least_row", "_law_draws", "_law_lowest", "_law_light", "_law_colour", "_law_lets", "_law_row", "_law_meets", "_law_rows", "_law_error", "_law_refuses", "law"]
def blt : List Str := ["abs", "all", "bool", "int", "isinstance", "len", "list", "max", "range", "set", "sorted", "tuple", "zip"]
def gls : List Str := ["KINDS", "MOST_LEAST", "MOST_NUMBER", "MOST_ROW", "MOST_STOCK", "PARTS"]
def exs : List Str := ["BadColour", "BadColours", "BadLight", "BadStock", "TooGreat"]
def cc (N : List Str) (i : Nat) : CC := ⟨N, defScope (top i), fns, blt, gls, true, none, exs, []⟩
/-! is_whole -/
def N0 : List Str := ["value", "least", "most"]
abbrev i_is_whole : Nat := 0
def b0 : CS := (.seq (.ret (.and (.isi (.var 0) .int) (.and (.not (.isi (.var 0) .bool)) (.one (.chain .LtE .LtE (.var 1) (.var 0) (.var 2)))))) .nil)
def r0 : FR := ⟨3, 3, b0⟩
theorem c0 : chkSs (cc N0 8) b0 (defBody (top 8)) = true := by decide +kernel
theorem s0 : FnScope N0 ["value", "least", "most"] (defScope (top 8)) := ⟨rfl, rfl, rfl, by decide +kernel, rfl, by decide +kernel, by decide +kernel⟩
/-! ascends -/
def N1 : List Str := ["values", "one", "later"]
abbrev i_ascends : Nat := 1
def e_ascends_0 : CE := (.comp true [("one", 1), ("later", 2)] (.cmp .Lt (.var 1) (.var 2)) (.tup (.cons (.var 1) (.cons (.var 2) .nil))) (.zip (.cons (.var 0) (.cons (.slc (.var 0) (.cons (.int 1) .nil) .nil) .nil))) .nil)
def b1 : CS := (.seq (.ret (.prim .all (.cons e_ascends_0 .nil))) .nil)
def r1 : FR := ⟨1, 3, b1⟩
theorem c1 : chkSs (cc N1 9) b1 (defBody (top 9)) = true := by decide +kernel
theorem s1 : FnScope N1 ["values"] (defScope (top 9)) := ⟨rfl, rfl, rfl, by decide +kernel, rfl, by decide +kernel, by decide +kernel⟩
/-! divisor -/
def N2 : List Str := ["one", "other"]
abbrev i_divisor : Nat := 2
def w_divisor_0 : CS := (.whl (.cmp .Gt (.var 1) (.int 0)) (.seq (.par2 0 1 (.cons (.var 1) (.cons (.bin .Mod (.var 0) (.var 1)) .nil))) .nil))
def b2 : CS := (.seq w_divisor_0 (.seq (.ret (.var 0)) .nil))
def r2 : FR := ⟨2, 2, b2⟩
theorem c2 : chkSs (cc N2 11) b2 (defBody (top 11)) = true := by decide +kernel
theorem s2 : FnScope N2 ["one", "other"] (defScope (top 11)) := ⟨rfl, rfl, rfl, by decide +kernel, rfl, by decide +kernel, by decide +kernel⟩
/-! is_colour -/
def N3 : List Str := ["value", "one"]
abbrev i_is_colour : Nat := 3
def e_is_colour_0 : CE := (.comp true [("one", 1)] (.call 0 (.cons (.var 1) (.cons (.int 0) (.cons (.glob "PARTS") .nil)))) (.var 1) (.seq (.var 0)) .nil)
def b3 : CS := (.seq (.ret (.and (.isi (.var 0) .tuple) (.and (.cmp .Eq (.prim .len (.cons (.var 0) .nil)) (.glob "KINDS")) (.one (.prim .all (.cons e_is_colour_0 .nil)))))) .nil)
def r3 : FR := ⟨1, 2, b3⟩
theorem c3 : chkSs (cc N3 19) b3 (defBody (top 19)) = true := by decide +kernel
theorem s3 : FnScope N3 ["value"] (defScope (top 19)) := ⟨rfl, rfl, rfl, by decide +kernel, rfl, by decide +kernel, by decide +kernel⟩
/-! _is_fraction -/
def N4 : List Str := ["value"]
abbrev i__is_fraction : Nat := 4
def b4 : CS := (.seq (.ife (.or (.not (.isi (.var 0) .tuple)) (.one (.cmp .NotEq (.prim .len (.cons (.var 0) .nil)) (.int 2)))) (.seq (.ret (.bl false)) .nil) .nil) (.seq (.ife (.or (.not (.call 0 (.cons (.idx (.var 0) (.int 0)) (.cons (.int 0) (.cons (.bin .Sub (.glob "MOST_NUMBER") (.int 1)) .nil))))) (.one (.not (.call 0 (.cons (.idx (.var 0) (.int 1)) (.cons (.int 1) (.cons (.bin .Sub (.glob "MOST_NUMBER") (.int 1)) .nil))))))) (.seq (.ret (.bl false)) .nil) .nil) (.seq (.ret (.cmp .Eq (.call 2 (.cons (.idx (.var 0) (.int 0)) (.cons (.idx (.var 0) (.int 1)) .nil))) (.int 1))) .nil)))
def r4 : FR := ⟨1, 1, b4⟩
theorem c4 : chkSs (cc N4 20) b4 (defBody (top 20)) = true := by decide +kernel
theorem s4 : FnScope N4 ["value"] (defScope (top 20)) := ⟨rfl, rfl, rfl, by decide +kernel, rfl, by decide +kernel, by decide +kernel⟩
/-! _check_light -/
def N5 : List Str := ["light", "one"]
abbrev i__check_light : Nat := 5
def e__check_light_0 : CE := (.comp true [("one", 1)] (.call 4 (.cons (.var 1) .nil)) (.var 1) (.seq (.var 0)) .nil)
def b5 : CS := (.seq (.ife (.or (.not (.isi (.var 0) .tuple)) (.or (.cmp .NotEq (.prim .len (.cons (.var 0) .nil)) (.glob "KINDS")) (.one (.not (.prim .all (.cons e__check_light_0 .nil)))))) (.seq (.rai "BadLight") .nil) .nil) .nil)
def r5 : FR := ⟨1, 2, b5⟩
theorem c5 : chkSs (cc N5 21) b5 (defBody (top 21)) = true := by decide +kernel
theorem s5 : FnScope N5 ["light"] (defScope (top 21)) := ⟨rfl, rfl, rfl, by decide +kernel, rfl, by decide +kernel, by decide +kernel⟩
/-! check_colour -/
def N6 : List Str := ["colour"]
abbrev i_check_colour : Nat := 6
def b6 : CS := (.seq (.ife (.not (.call 3 (.cons (.var 0) .nil))) (.seq (.rai "BadColour") .nil) .nil) .nil)
def r6 : FR := ⟨1, 1, b6⟩
theorem c6 : chkSs (cc N6 22) b6 (defBody (top 22)) = true := by decide +kernel
theorem s6 : FnScope N6 ["colour"] (defScope (top 22)) := ⟨rfl, rfl, rfl, by decide +kernel, rfl, by decide +kernel, by decide +kernel⟩
/-! _are_colours -/
def N7 : List Str := ["value", "most", "one"]
abbrev i__are_colours : Nat := 7
def e__are_colours_0 : CE := (.comp true [("one", 2)] (.call 3 (.cons (.var 2) .nil)) (.var 2) (.seq (.var 0)) .nil)
def b7 : CS := (.seq (.ret (.and (.isi (.var 0) .tuple) (.and (.cmp .LtE (.prim .len (.cons (.var 0) .nil)) (.var 1)) (.one (.prim .all (.cons e__are_colours_0 .nil)))))) .nil)
def r7 : FR := ⟨2, 3, b7⟩
theorem c7 : chkSs (cc N7 23) b7 (defBody (top 23)) = true := by decide +kernel
theorem s7 : FnScope N7 ["value", "most"] (defScope (top 23)) := ⟨rfl, rfl, rfl, by decide +kernel, rfl, by decide +kernel, by decide +kernel⟩
/-! _check_colours -/
def N8 : List Str := ["colours"]
abbrev i__check_colours : Nat := 8
def b8 : CS := (.seq (.ife (.not (.call 7 (.cons (.var 0) (.cons (.glob "MOST_ROW") .nil)))) (.seq (.rai "BadColours") .nil) .nil) .nil)
def r8 : FR := ⟨1, 1, b8⟩
theorem c8 : chkSs (cc N8 24) b8 (defBody (top 24)) = true := by decide +kernel
theorem s8 : FnScope N8 ["colours"] (defScope (top 24)) := ⟨rfl, rfl, rfl, by decide +kernel, rfl, by decide +kernel, by decide +kernel⟩
/-! _lowest -/
def N9 : List Str := ["up", "down", "size"]
abbrev i__lowest : Nat := 9
def b9 : CS := (.seq (.set 2 (.call 2 (.cons (.var 0) (.cons (.var 1) .nil)))) (.seq (.par2 0 1 (.cons (.bin .FloorDiv (.var 0) (.var 2)) (.cons (.bin .FloorDiv (.var 1) (.var 2)) .nil))) (.seq (.ife (.cmp .GtE (.prim .max (.cons (.var 0) (.cons (.var 1) .nil))) (.glob "MOST_NUMBER")) (.seq (.rai "TooGreat") .nil) .nil) (.seq (.ret (.tup (.cons (.var 0) (.cons (.var 1) .nil)))) .nil))))
def r9 : FR := ⟨2, 3, b9⟩
theorem c9 : chkSs (cc N9 25) b9 (defBody (top 25)) = true := by decide +kernel
theorem s9 : FnScope N9 ["up", "down"] (defScope (top 25)) := ⟨rfl, rfl, rfl, by decide +kernel, rfl, by decide +kernel, by decide +kernel⟩
/-! _lets -/
def N10 : List Str := ["light", "colour", "part", "up", "down"]
abbrev i__lets : Nat := 10
def e__lets_0 : CE := (.comp true [("part", 2), ("up", 3), ("down", 4)] (.call 9 (.cons (.bin .Mult (.var 3) (.var 2)) (.cons (.bin .Mult (.var 4) (.glob "PARTS")) .nil))) (.tup (.cons (.tup (.cons (.var 3) (.cons (.var 4) .nil))) (.cons (.var 2) .nil))) (.zip (.cons (.var 0) (.cons (.var 1) .nil))) .nil)
def b10 : CS := (.seq (.ret (.prim .tuple (.cons e__lets_0 .nil))) .nil)
def r10 : FR := ⟨2, 5, b10⟩
theorem c10 : chkSs (cc N10 26) b10 (defBody (top 26)) = true := by decide +kernel
theorem s10 : FnScope N10 ["light", "colour"] (defScope (top 26)) := ⟨rfl, rfl, rfl, by decide +kernel, rfl, by decide +kernel, by decide +kernel⟩
/-! lets -/
def N11 : List Str := ["light", "colour"]
abbrev i_lets : Nat := 11
def b11 : CS := (.seq (.exp (.call 5 (.cons (.var 0) .nil))) (.seq (.exp (.call 6 (.cons (.var 1) .nil))) (.seq (.ret (.call 10 (.cons (.var 0) (.cons (.var 1) .nil)))) .nil)))
def r11 : FR := ⟨2, 2, b11⟩
theorem c11 : chkSs (cc N11 27) b11 (defBody (top 27)) = true := by decide +kernel
theorem s11 : FnScope N11 ["light", "colour"] (defScope (top 27)) := ⟨rfl, rfl, rfl, by decide +kernel, rfl, by decide +kernel, by decide +kernel⟩
/-! _product -/
def N12 : List Str := ["colours", "found", "colour", "one", "part"]
abbrev i__product : Nat := 12
def e__product_0 : CE := (.comp true [("one", 3), ("part", 4)] (.bin .Mult (.var 3) (.var 4)) (.tup (.cons (.var 3) (.cons (.var 4) .nil))) (.zip (.cons (.var 1) (.cons (.var 2) .nil))) .nil)
def f__product_0 : CS := (.for_ (.var 2) (.seq (.var 0)) (.seq (.setc 1 e__product_0) .nil))
def b12 : CS := (.seq (.set 1 (.bin .Mult (.lst (.cons (.int 1) .nil)) (.glob "KINDS"))) (.seq f__product_0 (.seq (.ret (.var 1)) .nil)))
def r12 : FR := ⟨1, 5, b12⟩
theorem c12 : chkSs (cc N12 28) b12 (defBody (top 28)) = true := by decide +kernel
theorem s12 : FnScope N12 ["colours"] (defScope (top 28)) := ⟨rfl, rfl, rfl, by decide +kernel, rfl, by decide +kernel, by decide +kernel⟩
/-! through -/
def N13 : List Str := ["light", "colours", "down", "_colour", "one", "part"]
abbrev i_through : Nat := 13
def e_through_0 : CE := (.comp true [("one", 4), ("part", 5)] (.call 9 (.cons (.bin .Mult (.idx (.var 4) (.int 0)) (.var 5)) (.cons (.bin .Mult (.idx (.var 4) (.int 1)) (.var 2)) .nil))) (.tup (.cons (.var 4) (.cons (.var 5) .nil))) (.zip (.cons (.var 0) (.cons (.call 12 (.cons (.var 1) .nil)) .nil))) .nil)
def f_through_0 : CS := (.for_ (.var 3) (.seq (.var 1)) (.seq (.aug 2 .Mult (.glob "PARTS")) .nil))
def b13 : CS := (.seq (.exp (.call 5 (.cons (.var 0) .nil))) (.seq (.exp (.call 8 (.cons (.var 1) .nil))) (.seq (.set 2 (.int 1)) (.seq f_through_0 (.seq (.ret (.prim .tuple (.cons e_through_0 .nil))) .nil)))))
def r13 : FR := ⟨2, 6, b13⟩
theorem c13 : chkSs (cc N13 29) b13 (defBody (top 29)) = true := by decide +kernel
theorem s13 : FnScope N13 ["light", "colours"] (defScope (top 29)) := ⟨rfl, rfl, rfl, by decide +kernel, rfl, by decide +kernel, by decide +kernel⟩
/-! meets -/
def N14 : List Str := ["light", "other", "found", "up", "down", "more", "below"]
abbrev i_meets : Nat := 14
def f_meets_0 : CS := (.for_ (.tup (.cons (.tup (.cons (.var 3) (.cons (.var 4) .nil))) (.cons (.tup (.cons (.var 5) (.cons (.var 6) .nil))) .nil))) (.zip (.cons (.var 0) (.cons (.var 1) .nil))) (.seq (.exp (.mth .append (.var 2) (.cons (.call 9 (.cons (.bin .Add (.bin .Mult (.var 3) (.var 6)) (.bin .Mult (.var 5) (.var 4))) (.cons (.bin .Mult (.var 4) (.var 6)) .nil))) .nil))) .nil))
def b14 : CS := (.seq (.exp (.call 5 (.cons (.var 0) .nil))) (.seq (.exp (.call 5 (.cons (.var 1) .nil))) (.seq (.set 2 (.lst .nil)) (.seq f_meets_0 (.seq (.ret (.prim .tuple (.cons (.var 2) .nil))) .nil)))))
def r14 : FR := ⟨2, 7, b14⟩
theorem c14 : chkSs (cc N14 30) b14 (defBody (top 30)) = true := by decide +kernel
theorem s14 : FnScope N14 ["light", "other"] (defScope (top 30)) := ⟨rfl, rfl, rfl, by decide +kernel, rfl, by decide +kernel, by decide +kernel⟩
/-! _same -/
def N15 : List Str := ["colours", "other", "_colour", "first", "second", "one"]
abbrev i__same : Nat := 15
def e__same_0 : CE := (.comp true [("one", 5)] (.bin .Mult (.var 5) (.glob "PARTS")) (.var 5) (.seq (.var 4)) .nil)
def f__same_0 : CS := (.for_ (.var 2) (.rng (.cons (.prim .max (.cons (.int 0) (.cons (.bin .Sub (.prim .len (.cons (.var 0) .nil)) (.prim .len (.cons (.var 1) .nil))) .nil))) .nil)) (.seq (.setc 4 e__same_0) .nil))
def e__same_1 : CE := (.comp true [("one", 5)] (.bin .Mult (.var 5) (.glob "PARTS")) (.var 5) (.seq (.var 3)) .nil)
def f__same_1 : CS := (.for_ (.var 2) (.rng (.cons (.prim .max (.cons (.int 0) (.cons (.bin .Sub (.prim .len (.cons (.var 1) .nil)) (.prim .len (.cons (.var 0) .nil))) .nil))) .nil)) (.seq (.setc 3 e__same_1) .nil))
def b15 : CS := (.seq (.par2 3 4 (.cons (.call 12 (.cons (.var 0) .nil)) (.cons (.call 12 (.cons (.var 1) .nil)) .nil))) (.seq f__same_1 (.seq f__same_0 (.seq (.ret (.cmp .Eq (.var 3) (.var 4))) .nil))))
def r15 : FR := ⟨2, 6, b15⟩
theorem c15 : chkSs (cc N15 31) b15 (defBody (top 31)) = true := by decide +kernel
theorem s15 : FnScope N15 ["colours", "other"] (defScope (top 31)) := ⟨rfl, rfl, rfl, by decide +kernel, rfl, by decide +kernel, by decide +kernel⟩
/-! same_colours -/
def N16 : List Str := ["colours", "other"]
abbrev i_same_colours : Nat := 16
def b16 : CS := (.seq (.exp (.call 8 (.cons (.var 0) .nil))) (.seq (.exp (.call 8 (.cons (.var 1) .nil))) (.seq (.ret (.call 15 (.cons (.var 0) (.cons (.var 1) .nil)))) .nil)))
def r16 : FR := ⟨2, 2, b16⟩
theorem c16 : chkSs (cc N16 32) b16 (defBody (top 32)) = true := by decide +kernel
theorem s16 : FnScope N16 ["colours", "other"] (defScope (top 32)) := ⟨rfl, rfl, rfl, by decide +kernel, rfl, by decide +kernel, by decide +kernel⟩
/-! least_row -/
def N17 : List Str := ["colours", "stock", "rows", "size", "row", "longer", "one"]
abbrev i_least_row : Nat := 17
def e_least_row_0 : CE := (.comp true [("one", 6)] (.bin .Add (.var 4) (.tup (.cons (.var 6) .nil))) (.var 6) (.seq (.var 1)) (.cons (.or (.cmp .Eq (.prim .len (.cons (.var 4) .nil)) (.int 0)) (.one (.cmp .LtE (.idx (.var 4) (.neg (.int 1))) (.var 6)))) .nil))
def f_least_row_0 : CS := (.for_ (.var 4) (.seq (.var 2)) (.seq (.exp (.mth .extend (.var 5) (.cons e_least_row_0 .nil))) .nil))
def f_least_row_1 : CS := (.for_ (.var 4) (.seq (.var 2)) (.seq (.ife (.call 15 (.cons (.var 4) (.cons (.var 0) .nil))) (.seq (.ret (.var 4)) .nil) .nil) .nil))
def f_least_row_2 : CS := (.for_ (.var 3) (.rng (.cons (.bin .Add (.glob "MOST_LEAST") (.int 1)) .nil)) (.seq f_least_row_1 (.seq (.set 5 (.lst .nil)) (.seq f_least_row_0 (.seq (.set 2 (.ifx (.cmp .Lt (.var 3) (.glob "MOST_LEAST")) (.var 5) (.lst .nil))) .nil)))))
def b17 : CS := (.seq (.exp (.call 8 (.cons (.var 0) .nil))) (.seq (.ife (.or (.not (.call 7 (.cons (.var 1) (.cons (.glob "MOST_STOCK") .nil)))) (.one (.not (.call 1 (.cons (.var 1) .nil))))) (.seq (.rai "BadStock") .nil) .nil) (.seq (.set 2 (.lst (.cons (.tup .nil) .nil))) (.seq f_least_row_2 (.seq (.ret .non) .nil)))))
def r17 : FR := ⟨2, 7, b17⟩
theorem c17 : chkSs (cc N17 33) b17 (defBody (top 33)) = true := by decide +kernel
theorem s17 : FnScope N17 ["colours", "stock"] (defScope (top 33)) := ⟨rfl, rfl, rfl, by decide +kernel, rfl, by decide +kernel, by decide +kernel⟩
/-! _law_draws -/
def N18 : List Str := ["script", "many", "draws", "seed", "cell", "k", "number"]
abbrev i__law_draws : Nat := 18
def f__law_draws_0 : CS := (.for_ (.var 5) (.rng (.cons (.var 1) .nil)) (.seq (.ife (.cmp .Lt (.prim .len (.cons (.var 2) .nil)) (.var 1)) (.seq (.set 3 (.bin .Mod (.prim .int (.cons (.bin .Add (.bin .Add (.bin .Mult (.var 3) (.int 69621)) (.var 5)) (.int 1)) .nil)) (.int 2147483647))) (.seq (.exp (.mth .append (.var 2) (.cons (.bin .Mod (.bin .FloorDiv (.prim .int (.cons (.var 3) .nil)) (.int 7)) (.int 65521)) .nil))) .nil)) .nil) .nil))
def f__law_draws_1 : CS := (.for_ (.var 5) (.rng (.cons (.int 60) .nil)) (.seq (.ife (.cmp .Gt (.var 6) (.int 0)) (.seq (.exp (.mth .append (.var 2) (.cons (.bin .Mod (.prim .int (.cons (.var 6) .nil)) (.int 1009)) .nil))) (.seq (.set 6 (.bin .FloorDiv (.var 6) (.int 1009))) .nil)) .nil) .nil))
def f__law_draws_2 : CS := (.for_ (.var 4) (.seq (.slc (.var 0) .nil (.cons (.int 63) .nil))) (.seq (.set 6 (.prim .abs (.cons (.var 4) .nil))) (.seq (.set 3 (.bin .Mod (.prim .int (.cons (.bin .Add (.bin .Add (.bin .Mult (.var 3) (.int 48271)) (.var 6)) (.int 11)) .nil)) (.int 2147483647))) (.seq (.ife (.cmp .GtE (.var 6) (.bin .Pow (.int 10) (.int 18))) (.seq f__law_draws_1 .nil) (.seq (.exp (.mth .append (.var 2) (.cons (.bin .Mod (.bin .FloorDiv (.prim .int (.cons (.bin .Add (.bin .Mult (.var 3) (.int 16807)) (.int 5)) .nil)) (.int 3)) (.int 65521)) .nil))) .nil)) .nil))))
def b18 : CS := (.seq (.set 2 (.lst .nil)) (.seq (.set 3 (.int 7)) (.seq f__law_draws_2 (.seq f__law_draws_0 (.seq (.ret (.slc (.var 2) .nil (.cons (.var 1) .nil))) .nil)))))
def r18 : FR := ⟨2, 7, b18⟩
theorem c18 : chkSs (cc N18 35) b18 (defBody (top 35)) = true := by decide +kernel
theorem s18 : FnScope N18 ["script", "many"] (defScope (top 35)) := ⟨rfl, rfl, rfl, by decide +kernel, rfl, by decide +kernel, by decide +kernel⟩
/-! _law_lowest -/
def N19 : List Str := ["up", "down", "one", "two"]
abbrev i__law_lowest : Nat := 19
def w__law_lowest_0 : CS := (.whl (.cmp .Gt (.var 3) (.int 0)) (.seq (.par2 2 3 (.cons (.var 3) (.cons (.bin .Mod (.var 2) (.var 3)) .nil))) .nil))
def b19 : CS := (.seq (.par2 2 3 (.cons (.var 0) (.cons (.var 1) .nil))) (.seq w__law_lowest_0 (.seq (.ret (.tup (.cons (.bin .FloorDiv (.var 0) (.var 2)) (.cons (.bin .FloorDiv (.var 1) (.var 2)) .nil)))) .nil)))
def r19 : FR := ⟨2, 4, b19⟩
theorem c19 : chkSs (cc N19 36) b19 (defBody (top 36)) = true := by decide +kernel
theorem s19 : FnScope N19 ["up", "down"] (defScope (top 36)) := ⟨rfl, rfl, rfl, by decide +kernel, rfl, by decide +kernel, by decide +kernel⟩
/-! _law_light -/
def N20 : List Str := ["draws", "k"]
abbrev i__law_light : Nat := 20
def e__law_light_0 : CE := (.comp true [("k", 1)] (.call 19 (.cons (.bin .Mod (.prim .int (.cons (.idx (.var 0) (.var 1)) .nil)) (.int 20)) (.cons (.bin .Add (.int 1) (.bin .Mod (.prim .int (.cons (.idx (.var 0) (.bin .Add (.int 3) (.var 1))) .nil)) (.int 12))) .nil))) (.var 1) (.rng (.cons (.int 3) .nil)) .nil)
def b20 : CS := (.seq (.ret (.prim .tuple (.cons e__law_light_0 .nil))) .nil)
def r20 : FR := ⟨1, 2, b20⟩
theorem c20 : chkSs (cc N20 37) b20 (defBody (top 37)) = true := by decide +kernel
theorem s20 : FnScope N20 ["draws"] (defScope (top 37)) := ⟨rfl, rfl, rfl, by decide +kernel, rfl, by decide +kernel, by decide +kernel⟩
/-! _law_colour -/
def N21 : List Str := ["number", "k"]
abbrev i__law_colour : Nat := 21
def e__law_colour_0 : CE := (.comp true [("k", 1)] (.idx (.lst (.cons (.int 0) (.cons (.int 4) (.cons (.int 8) (.cons (.int 16) (.cons (.int 12) (.cons (.int 2) (.cons (.int 1) .nil)))))))) (.bin .Mod (.bin .FloorDiv (.var 0) (.idx (.lst (.cons (.int 1) (.cons (.int 7) (.cons (.int 49) .nil)))) (.var 1))) (.int 7))) (.var 1) (.rng (.cons (.int 3) .nil)) .nil)
def b21 : CS := (.seq (.ret (.prim .tuple (.cons e__law_colour_0 .nil))) .nil)
def r21 : FR := ⟨1, 2, b21⟩
theorem c21 : chkSs (cc N21 38) b21 (defBody (top 38)) = true := by decide +kernel
theorem s21 : FnScope N21 ["number"] (defScope (top 38)) := ⟨rfl, rfl, rfl, by decide +kernel, rfl, by decide +kernel, by decide +kernel⟩
/-! _law_lets -/
def N22 : List Str := ["light", "colour", "k"]
abbrev i__law_lets : Nat := 22
def e__law_lets_0 : CE := (.comp true [("k", 2)] (.call 19 (.cons (.bin .Mult (.idx (.idx (.var 0) (.var 2)) (.int 0)) (.idx (.var 1) (.var 2))) (.cons (.bin .Mult (.idx (.idx (.var 0) (.var 2)) (.int 1)) (.int 16)) .nil))) (.var 2) (.rng (.cons (.int 3) .nil)) .nil)
def b22 : CS := (.seq (.ret (.prim .tuple (.cons e__law_lets_0 .nil))) .nil)
def r22 : FR := ⟨2, 3, b22⟩
theorem c22 : chkSs (cc N22 39) b22 (defBody (top 39)) = true := by decide +kernel
theorem s22 : FnScope N22 ["light", "colour"] (defScope (top 39)) := ⟨rfl, rfl, rfl, by decide +kernel, rfl, by decide +kernel, by decide +kernel⟩
/-! _law_row -/
def N23 : List Str := ["light", "colours", "colour"]
abbrev i__law_row : Nat := 23
def f__law_row_0 : CS := (.for_ (.var 2) (.seq (.var 1)) (.seq (.set 0 (.call 22 (.cons (.var 0) (.cons (.var 2) .nil)))) .nil))
def b23 : CS := (.seq f__law_row_0 (.seq (.ret (.var 0)) .nil))
def r23 : FR := ⟨2, 3, b23⟩
theorem c23 : chkSs (cc N23 40) b23 (defBody (top 40)) = true := by decide +kernel
theorem s23 : FnScope N23 ["light", "colours"] (defScope (top 40)) := ⟨rfl, rfl, rfl, by decide +kernel, rfl, by decide +kernel, by decide +kernel⟩
/-! _law_meets -/
def N24 : List Str := ["one", "two", "k"]
abbrev i__law_meets : Nat := 24
def e__law_meets_0 : CE := (.comp true [("k", 2)] (.call 19 (.cons (.bin .Add (.bin .Mult (.idx (.idx (.var 0) (.var 2)) (.int 0)) (.idx (.idx (.var 1) (.var 2)) (.int 1))) (.bin .Mult (.idx (.idx (.var 1) (.var 2)) (.int 0)) (.idx (.idx (.var 0) (.var 2)) (.int 1)))) (.cons (.bin .Mult (.idx (.idx (.var 0) (.var 2)) (.int 1)) (.idx (.idx (.var 1) (.var 2)) (.int 1))) .nil))) (.var 2) (.rng (.cons (.int 3) .nil)) .nil)
def b24 : CS := (.seq (.ret (.prim .tuple (.cons e__law_meets_0 .nil))) .nil)
def r24 : FR := ⟨2, 3, b24⟩
theorem c24 : chkSs (cc N24 41) b24 (defBody (top 41)) = true := by decide +kernel
theorem s24 : FnScope N24 ["one", "two"] (defScope (top 41)) := ⟨rfl, rfl, rfl, by decide +kernel, rfl, by decide +kernel, by decide +kernel⟩
/-! _law_rows -/
def N25 : List Str := ["stock", "size", "found", "layer", "longer", "row", "one"]
abbrev i__law_rows : Nat := 25
def e__law_rows_0 : CE := (.comp true [("one", 6)] (.bin .Add (.var 5) (.tup (.cons (.var 6) .nil))) (.var 6) (.seq (.var 0)) (.cons (.or (.cmp .Eq (.prim .len (.cons (.var 5) .nil)) (.int 0)) (.one (.cmp .LtE (.idx (.var 5) (.neg (.int 1))) (.var 6)))) .nil))
def f__law_rows_0 : CS := (.for_ (.var 5) (.seq (.var 3)) (.seq (.exp (.mth .extend (.var 4) (.cons e__law_rows_0 .nil))) .nil))
def f__law_rows_1 : CS := (.for_ (.var 1) (.rng (.cons (.int 4) .nil)) (.seq (.set 4 (.lst .nil)) (.seq f__law_rows_0 (.seq (.par2 2 3 (.cons (.bin .Add (.var 2) (.var 4)) (.cons (.var 4) .nil))) .nil))))
def b25 : CS := (.seq (.par2 2 3 (.cons (.lst (.cons (.tup .nil) .nil)) (.cons (.lst (.cons (.tup .nil) .nil)) .nil))) (.seq f__law_rows_1 (.seq (.ret (.var 2)) .nil)))
def r25 : FR := ⟨1, 7, b25⟩
theorem c25 : chkSs (cc N25 42) b25 (defBody (top 42)) = true := by decide +kernel
theorem s25 : FnScope N25 ["stock"] (defScope (top 42)) := ⟨rfl, rfl, rfl, by decide +kernel, rfl, by decide +kernel, by decide +kernel⟩
/-! _law_error -/
def N26 : List Str := ["call", "one", "two"]
abbrev i__law_error : Nat := 26
def b26 : CS := (.seq (.try_ (.seq (.ife (.cmp .Eq (.var 0) (.int 0)) (.seq (.exp (.call 11 (.cons (.var 1) (.cons (.var 2) .nil)))) .nil) (.seq (.ife (.cmp .Eq (.var 0) (.int 1)) (.seq (.exp (.call 13 (.cons (.var 1) (.cons (.var 2) .nil)))) .nil) (.seq (.ife (.cmp .Eq (.var 0) (.int 2)) (.seq (.exp (.call 14 (.cons (.var 1) (.cons (.var 2) .nil)))) .nil) (.seq (.ife (.cmp .Eq (.var 0) (.int 3)) (.seq (.exp (.call 16 (.cons (.var 1) (.cons (.var 2) .nil)))) .nil) (.seq (.exp (.call 17 (.cons (.var 1) (.cons (.var 2) .nil)))) .nil)) .nil)) .nil)) .nil)) .nil) (.hd "BadLight" (.seq (.ret (.str "light")) .nil) (.hd "BadColour" (.seq (.ret (.str "colour")) .nil) (.hd "BadColours" (.seq (.ret (.str "colours")) .nil) (.hd "BadStock" (.seq (.ret (.str "stock")) .nil) (.hd "TooGreat" (.seq (.ret (.str "great")) .nil) .nil)))))) (.seq (.ret (.str "none")) .nil))
def r26 : FR := ⟨3, 3, b26⟩
theorem c26 : chkSs (cc N26 43) b26 (defBody (top 43)) = true := by decide +kernel
theorem s26 : FnScope N26 ["call", "one", "two"] (defScope (top 43)) := ⟨rfl, rfl, rfl, by decide +kernel, rfl, by decide +kernel, by decide +kernel⟩
/-! _law_refuses -/
def N27 : List Str := ["light", "colour", "wrongs", "wrong", "small", "one"]
abbrev i__law_refuses : Nat := 27
def e__law_refuses_0 : CE := (.comp true [("wrong", 3)] (.call 26 (.cons (.int 4) (.cons (.tup .nil) (.cons (.var 3) .nil)))) (.var 3) (.seq (.tup (.cons .non (.cons (.lst .nil) (.cons (.tup (.cons (.tup (.cons (.int 2) (.cons (.int 2) (.cons (.int 2) .nil)))) (.cons (.tup (.cons (.int 1) (.cons (.int 1) (.cons (.int 1) .nil)))) .nil))) (.cons (.tup (.cons (.tup (.cons (.int 1) (.cons (.int 1) (.cons (.int 1) .nil)))) (.cons (.tup (.cons (.int 1) (.cons (.int 1) (.cons (.int 1) .nil)))) .nil))) (.cons (.tup (.cons (.tup (.cons (.int 1) (.cons (.int 1) .nil))) .nil)) (.cons (.tup (.cons .non .nil)) .nil)))))))) .nil)
def e__law_refuses_1 : CE := (.comp true [("wrong", 3)] (.call 26 (.cons (.int 1) (.cons (.var 0) (.cons (.var 3) .nil)))) (.var 3) (.seq (.tup (.cons .non (.cons (.lst (.cons (.var 1) .nil)) (.cons (.bin .Mult (.tup (.cons (.var 1) .nil)) (.int 21)) .nil))))) .nil)
def f__law_refuses_0 : CS := (.for_ (.var 3) (.seq (.tup (.cons .non (.cons (.tup (.cons (.int 1) (.cons (.int 2) .nil))) (.cons (.tup (.cons (.int 1) (.cons (.int 2) (.cons (.int 17) .nil)))) (.cons (.tup (.cons (.neg (.int 1)) (.cons (.int 0) (.cons (.int 0) .nil)))) (.cons (.lst (.cons (.int 1) (.cons (.int 2) (.cons (.int 3) .nil)))) (.cons (.tup (.cons (.bl true) (.cons (.int 0) (.cons (.int 0) .nil)))) .nil)))))))) (.seq (.ife (.cmp .NotEq (.lst (.cons (.call 26 (.cons (.int 0) (.cons (.var 0) (.cons (.var 3) .nil)))) (.cons (.call 26 (.cons (.int 1) (.cons (.var 0) (.cons (.tup (.cons (.var 3) .nil)) .nil)))) (.cons (.call 26 (.cons (.int 3) (.cons (.tup (.cons (.var 3) .nil)) (.cons (.tup .nil) .nil)))) (.cons (.call 26 (.cons (.int 3) (.cons (.tup .nil) (.cons (.tup (.cons (.var 3) .nil)) .nil)))) (.cons (.call 26 (.cons (.int 4) (.cons (.tup (.cons (.var 3) .nil)) (.cons (.tup .nil) .nil)))) .nil)))))) (.bin .Add (.lst (.cons (.str "colour") .nil)) (.bin .Mult (.lst (.cons (.str "colours") .nil)) (.int 4)))) (.seq (.ret (.bl false)) .nil) .nil) .nil))
def f__law_refuses_1 : CS := (.for_ (.var 3) (.seq (.bin .Add (.var 2) (.lst (.cons .non (.cons (.tup .nil) (.cons (.bin .Mult (.lst (.cons (.idx (.var 0) (.int 0)) .nil)) (.int 3)) (.cons (.slc (.var 0) .nil (.cons (.int 2) .nil)) .nil))))))) (.seq (.ife (.cmp .NotEq (.lst (.cons (.call 26 (.cons (.int 0) (.cons (.var 3) (.cons (.var 1) .nil)))) (.cons (.call 26 (.cons (.int 1) (.cons (.var 3) (.cons (.tup .nil) .nil)))) (.cons (.call 26 (.cons (.int 2) (.cons (.var 3) (.cons (.var 0) .nil)))) (.cons (.call 26 (.cons (.int 2) (.cons (.var 0) (.cons (.var 3) .nil)))) .nil))))) (.bin .Mult (.lst (.cons (.str "light") .nil)) (.int 4))) (.seq (.ret (.bl false)) .nil) .nil) .nil))
def e__law_refuses_2 : CE := (.comp true [("one", 5)] (.bin .Add (.slc (.var 0) .nil (.cons (.int 2) .nil)) (.tup (.cons (.var 5) .nil))) (.var 5) (.seq (.tup (.cons (.tup (.cons (.int 2) (.cons (.int 4) .nil))) (.cons (.tup (.cons (.int 1) (.cons (.int 0) .nil))) (.cons (.tup (.cons (.neg (.int 1)) (.cons (.int 2) .nil))) (.cons (.tup (.cons (.bl true) (.cons (.int 1) .nil))) (.cons (.tup (.cons (.int 0) (.cons (.int 2) .nil))) (.cons (.int 5) (.cons (.tup (.cons (.bin .Pow (.int 10) (.int 60)) (.cons (.int 1) .nil))) (.cons .non .nil)))))))))) .nil)
def b27 : CS := (.seq (.setc 2 e__law_refuses_2) (.seq f__law_refuses_1 (.seq f__law_refuses_0 (.seq (.ife (.cmp .NotEq e__law_refuses_1 (.bin .Mult (.lst (.cons (.str "colours") .nil)) (.int 3))) (.seq (.ret (.bl false)) .nil) .nil) (.seq (.ife (.cmp .NotEq e__law_refuses_0 (.bin .Mult (.lst (.cons (.str "stock") .nil)) (.int 6))) (.seq (.ret (.bl false)) .nil) .nil) (.seq (.set 4 (.bin .Mult (.tup (.cons (.tup (.cons (.int 1) (.cons (.bin .Pow (.int 10) (.int 59)) .nil))) .nil)) (.int 3))) (.seq (.ret (.and (.cmp .Eq (.call 26 (.cons (.int 0) (.cons (.var 4) (.cons (.tup (.cons (.int 1) (.cons (.int 1) (.cons (.int 1) .nil)))) .nil)))) (.str "great")) (.and (.cmp .Eq (.call 26 (.cons (.int 2) (.cons (.var 4) (.cons (.bin .Mult (.tup (.cons (.tup (.cons (.int 1) (.cons (.bin .Add (.bin .Pow (.int 10) (.int 59)) (.int 1)) .nil))) .nil)) (.int 3)) .nil)))) (.str "great")) (.one (.cmp .Eq (.call 26 (.cons (.int 0) (.cons (.var 4) (.cons (.tup (.cons (.int 16) (.cons (.int 0) (.cons (.int 16) .nil)))) .nil)))) (.str "none")))))) .nil)))))))
def r27 : FR := ⟨2, 6, b27⟩
theorem c27 : chkSs (cc N27 44) b27 (defBody (top 44)) = true := by decide +kernel
theorem s27 : FnScope N27 ["light", "colour"] (defScope (top 44)) := ⟨rfl, rfl, rfl, by decide +kernel, rfl, by decide +kernel, by decide +kernel⟩
/-! law -/
def N28 : List Str := ["script", "draws", "colours", "both", "stock", "whole", "row", "light", "other", "some", "due", "k"]
abbrev i_law : Nat := 28
def e_law_0 : CE := (.comp true [("some", 9)] (.var 9) (.var 9) (.seq (.call 25 (.cons (.var 4) .nil))) (.cons (.cmp .Eq (.call 23 (.cons (.var 5) (.cons (.var 9) .nil))) (.call 23 (.cons (.var 5) (.cons (.var 6) .nil)))) .nil))
def f_law_0 : CS := (.for_ (.var 9) (.seq (.tup (.cons (.var 2) (.cons (.rev (.var 2)) (.cons (.var 6) (.cons (.bin .Add (.var 6) (.tup (.cons (.tup (.cons (.int 16) (.cons (.int 16) (.cons (.int 16) .nil)))) .nil))) (.cons (.tup (.cons (.tup (.cons (.int 1) (.cons (.int 1) (.cons (.int 1) .nil)))) (.cons (.tup (.cons (.int 16) (.cons (.int 16) (.cons (.int 16) .nil)))) .nil))) .nil))))))) (.seq (.ife (.cmp .NotEq (.call 16 (.cons (.var 6) (.cons (.var 9) .nil))) (.cmp .Eq (.call 23 (.cons (.var 5) (.cons (.var 6) .nil))) (.call 23 (.cons (.var 5) (.cons (.var 9) .nil))))) (.seq (.ret (.bl false)) .nil) .nil) .nil))
def f_law_1 : CS := (.for_ (.var 6) (.seq (.tup (.cons (.var 2) (.cons (.slc (.var 2) .nil (.cons (.int 1) .nil)) (.cons (.tup .nil) (.cons (.bin .Add (.slc (.var 2) .nil (.cons (.int 1) .nil)) (.tup (.cons (.tup (.cons (.int 16) (.cons (.int 16) (.cons (.int 16) .nil)))) .nil))) (.cons (.bin .Mult (.tup (.cons (.tup (.cons (.int 4) (.cons (.int 4) (.cons (.int 4) .nil)))) .nil)) (.int 2)) .nil))))))) (.seq f_law_0 (.seq (.setc 10 e_law_0) (.seq (.ife (.cmp .NotEq (.call 17 (.cons (.var 6) (.cons (.var 4) .nil))) (.ifx (.cmp .Gt (.prim .len (.cons (.var 10) .nil)) (.int 0)) (.idx (.var 10) (.int 0)) .non)) (.seq (.ret (.bl false)) .nil) .nil) .nil))))
def e_law_1 : CE := (.comp true [("k", 11)] (.call 21 (.cons (.prim .int (.cons (.idx (.var 1) (.bin .Add (.int 21) (.var 11))) .nil)) .nil)) (.var 11) (.rng (.cons (.bin .Mod (.prim .int (.cons (.idx (.var 1) (.int 29)) .nil)) (.int 5)) .nil)) .nil)
def e_law_2 : CE := (.comp true [("k", 11)] (.call 21 (.cons (.prim .int (.cons (.idx (.var 1) (.bin .Add (.int 12) (.var 11))) .nil)) .nil)) (.var 11) (.rng (.cons (.bin .Add (.int 1) (.bin .Mod (.prim .int (.cons (.idx (.var 1) (.int 20)) .nil)) (.int 4))) .nil)) .nil)
def b28 : CS := (.seq (.set 1 (.call 18 (.cons (.var 0) (.cons (.int 40) .nil)))) (.seq (.par2 7 8 (.cons (.call 20 (.cons (.var 1) .nil)) (.cons (.call 20 (.cons (.slc (.var 1) (.cons (.int 6) .nil) .nil) .nil)) .nil))) (.seq (.set 2 (.prim .tuple (.cons e_law_2 .nil))) (.seq (.ife (.or (.cmp .NotEq (.call 11 (.cons (.var 7) (.cons (.idx (.var 2) (.int 0)) .nil))) (.call 22 (.cons (.var 7) (.cons (.idx (.var 2) (.int 0)) .nil)))) (.or (.cmp .NotEq (.call 13 (.cons (.var 7) (.cons (.var 2) .nil))) (.call 23 (.cons (.var 7) (.cons (.var 2) .nil)))) (.one (.cmp .NotEq (.call 13 (.cons (.var 7) (.cons (.rev (.var 2)) .nil))) (.call 13 (.cons (.var 7) (.cons (.var 2) .nil))))))) (.seq (.ret (.bl false)) .nil) .nil) (.seq (.set 3 (.call 14 (.cons (.var 7) (.cons (.var 8) .nil)))) (.seq (.ife (.or (.cmp .NotEq (.var 3) (.call 24 (.cons (.var 7) (.cons (.var 8) .nil)))) (.or (.cmp .NotEq (.call 14 (.cons (.var 8) (.cons (.var 7) .nil))) (.var 3)) (.one (.cmp .NotEq (.call 13 (.cons (.var 3) (.cons (.var 2) .nil))) (.call 14 (.cons (.call 13 (.cons (.var 7) (.cons (.var 2) .nil))) (.cons (.call 13 (.cons (.var 8) (.cons (.var 2) .nil))) .nil))))))) (.seq (.ret (.bl false)) .nil) .nil) (.seq (.set 4 (.prim .tuple (.cons (.sset (.bin .Add e_law_1 (.prim .list (.cons (.slc (.var 2) .nil (.cons (.bin .Mod (.prim .int (.cons (.idx (.var 1) (.int 30)) .nil)) (.int 3)) .nil)) .nil)))) .nil))) (.seq (.set 5 (.tup (.cons (.tup (.cons (.int 1) (.cons (.int 1) .nil))) (.cons (.tup (.cons (.int 1) (.cons (.int 1) .nil))) (.cons (.tup (.cons (.int 1) (.cons (.int 1) .nil))) .nil))))) (.seq f_law_1 (.seq (.ret (.and (.cmp .Eq (.call 13 (.cons (.var 7) (.cons (.tup .nil) .nil))) (.var 7)) (.and (.cmp .Eq (.call 17 (.cons (.tup .nil) (.cons (.tup .nil) .nil))) (.tup .nil)) (.and (.cmp .Eq (.call 17 (.cons (.tup (.cons (.tup (.cons (.int 4) (.cons (.int 4) (.cons (.int 4) .nil)))) .nil)) (.cons (.tup (.cons (.tup (.cons (.int 8) (.cons (.int 8) (.cons (.int 8) .nil)))) .nil)) .nil))) (.tup (.cons (.tup (.cons (.int 8) (.cons (.int 8) (.cons (.int 8) .nil)))) (.cons (.tup (.cons (.int 8) (.cons (.int 8) (.cons (.int 8) .nil)))) .nil)))) (.one (.call 27 (.cons (.var 7) (.cons (.idx (.var 2) (.int 0)) .nil)))))))) .nil))))))))))
def r28 : FR := ⟨1, 12, b28⟩
theorem c28 : chkSs (cc N28 45) b28 (defBody (top 45)) = true := by decide +kernel
theorem s28 : FnScope N28 ["script"] (defScope (top 45)) := ⟨rfl, rfl, rfl, by decide +kernel, rfl, by decide +kernel, by decide +kernel⟩
def glob (x : Str) : Option PyData := if x = "KINDS" then some (.int 3) else if x = "MOST_LEAST" then some (.int 4) else if x = "MOST_NUMBER" then some (.int 1000000000000000000000000000000000000000000000000000000000000) else if x = "MOST_ROW" then some (.int 20) else if x = "MOST_STOCK" then some (.int 8) else if x = "PARTS" then some (.int 16) else none
def exm (x y : Str) : Option Bool := if exs.contains x && exs.contains y then some (x == y) else none
theorem exm_of {x y : Str} {b : Bool} (h : exm x y = some b) : x ∈ exs ∧ y ∈ exs ∧ b = (x == y) := by
  unfold exm at h
  split at h
  · rename_i c
    rw [Bool.and_eq_true] at c
    exact ⟨by simpa using c.1, by simpa using c.2, (Option.some.inj h).symm⟩
  · cases h
def base : Base := ⟨[r0, r1, r2, r3, r4, r5, r6, r7, r8, r9, r10, r11, r12, r13, r14, r15, r16, r17, r18, r19, r20, r21, r22, r23, r24, r25, r26, r27, r28], glob, 2 ^ 4096, exm⟩
theorem t_is_whole : base.tbl[0]? = some r0 := rfl
theorem t_ascends : base.tbl[1]? = some r1 := rfl
theorem t_divisor : base.tbl[2]? = some r2 := rfl
theorem t_is_colour : base.tbl[3]? = some r3 := rfl
theorem t__is_fraction : base.tbl[4]? = some r4 := rfl
theorem t__check_light : base.tbl[5]? = some r5 := rfl
theorem t_check_colour : base.tbl[6]? = some r6 := rfl
theorem t__are_colours : base.tbl[7]? = some r7 := rfl
theorem t__check_colours : base.tbl[8]? = some r8 := rfl
theorem t__lowest : base.tbl[9]? = some r9 := rfl
theorem t__lets : base.tbl[10]? = some r10 := rfl
theorem t_lets : base.tbl[11]? = some r11 := rfl
theorem t__product : base.tbl[12]? = some r12 := rfl
theorem t_through : base.tbl[13]? = some r13 := rfl
theorem t_meets : base.tbl[14]? = some r14 := rfl
theorem t__same : base.tbl[15]? = some r15 := rfl
theorem t_same_colours : base.tbl[16]? = some r16 := rfl
theorem t_least_row : base.tbl[17]? = some r17 := rfl
theorem t__law_draws : base.tbl[18]? = some r18 := rfl
theorem t__law_lowest : base.tbl[19]? = some r19 := rfl
theorem t__law_light : base.tbl[20]? = some r20 := rfl
theorem t__law_colour : base.tbl[21]? = some r21 := rfl
theorem t__law_lets : base.tbl[22]? = some r22 := rfl
theorem t__law_row : base.tbl[23]? = some r23 := rfl
theorem t__law_meets : base.tbl[24]? = some r24 := rfl
theorem t__law_rows : base.tbl[25]? = some r25 := rfl
theorem t__law_error : base.tbl[26]? = some r26 := rfl
theorem t__law_refuses : base.tbl[27]? = some r27 := rfl
theorem t_law : base.tbl[28]? = some r28 := rfl
theorem base_wf : base.wf = 2 ^ 4096 := rfl
theorem exm_BadColour_BadColour : base.exm "BadColour" "BadColour" = some true := by decide +kernel
theorem exm_BadColour_BadColours : base.exm "BadColour" "BadColours" = some false := by decide +kernel
theorem exm_BadColour_BadLight : base.exm "BadColour" "BadLight" = some false := by decide +kernel
theorem exm_BadColour_BadStock : base.exm "BadColour" "BadStock" = some false := by decide +kernel
theorem exm_BadColour_TooGreat : base.exm "BadColour" "TooGreat" = some false := by decide +kernel
theorem exm_BadColours_BadColour : base.exm "BadColours" "BadColour" = some false := by decide +kernel
theorem exm_BadColours_BadColours : base.exm "BadColours" "BadColours" = some true := by decide +kernel
theorem exm_BadColours_BadLight : base.exm "BadColours" "BadLight" = some false := by decide +kernel
theorem exm_BadColours_BadStock : base.exm "BadColours" "BadStock" = some false := by decide +kernel
theorem exm_BadColours_TooGreat : base.exm "BadColours" "TooGreat" = some false := by decide +kernel
theorem exm_BadLight_BadColour : base.exm "BadLight" "BadColour" = some false := by decide +kernel
theorem exm_BadLight_BadColours : base.exm "BadLight" "BadColours" = some false := by decide +kernel
theorem exm_BadLight_BadLight : base.exm "BadLight" "BadLight" = some true := by decide +kernel
theorem exm_BadLight_BadStock : base.exm "BadLight" "BadStock" = some false := by decide +kernel
theorem exm_BadLight_TooGreat : base.exm "BadLight" "TooGreat" = some false := by decide +kernel
theorem exm_BadStock_BadColour : base.exm "BadStock" "BadColour" = some false := by decide +kernel
theorem exm_BadStock_BadColours : base.exm "BadStock" "BadColours" = some false := by decide +kernel
theorem exm_BadStock_BadLight : base.exm "BadStock" "BadLight" = some false := by decide +kernel
theorem exm_BadStock_BadStock : base.exm "BadStock" "BadStock" = some true := by decide +kernel
theorem exm_BadStock_TooGreat : base.exm "BadStock" "TooGreat" = some false := by decide +kernel
theorem exm_TooGreat_BadColour : base.exm "TooGreat" "BadColour" = some false := by decide +kernel
theorem exm_TooGreat_BadColours : base.exm "TooGreat" "BadColours" = some false := by decide +kernel
theorem exm_TooGreat_BadLight : base.exm "TooGreat" "BadLight" = some false := by decide +kernel
theorem exm_TooGreat_BadStock : base.exm "TooGreat" "BadStock" = some false := by decide +kernel
theorem exm_TooGreat_TooGreat : base.exm "TooGreat" "TooGreat" = some true := by decide +kernel
theorem gl_KINDS : base.glob "KINDS" = some (.int 3) := by first | rfl | simp [base, glob]
theorem gl_MOST_LEAST : base.glob "MOST_LEAST" = some (.int 4) := by first | rfl | simp [base, glob]
theorem gl_MOST_NUMBER : base.glob "MOST_NUMBER" = some (.int 1000000000000000000000000000000000000000000000000000000000000) := by first | rfl | simp [base, glob]
theorem gl_MOST_ROW : base.glob "MOST_ROW" = some (.int 20) := by first | rfl | simp [base, glob]
theorem gl_MOST_STOCK : base.glob "MOST_STOCK" = some (.int 8) := by first | rfl | simp [base, glob]
theorem gl_PARTS : base.glob "PARTS" = some (.int 16) := by first | rfl | simp [base, glob]
end Lw.T

namespace Lw.T
open PySem L2 Lw
local macro_rules | `(tactic| walk_at "ev") => `(tactic| try simp (disch := first | assumption | omega | (simp only [List.length_cons, List.length_nil, List.length_append, List.length_map, List.length_zip] <;> omega)) only [seval, Lw.ol_toD, Lw.ol_flat, Lw.ol_slice, Lw.ge_call, Lw.ge_glob, Lw.ge_wf, Lw.ge_exm, Lw.bsel_some, Lw.osel_some, Lw.osel_none, Lw.q_var, Lw.q_int, Lw.q_bl, Lw.q_non, Lw.q_str, Lw.q_glob, Lw.q_bin, Lw.q_not, Lw.q_and, Lw.q_or, Lw.q_one, Lw.q_cmp, Lw.q_chain, Lw.q_ifx, Lw.q_tup, Lw.q_lst, Lw.q_idx, Lw.q_slc, Lw.fsel_ok, Lw.fsel_exc, Lw.q_call, Lw.q_prim, Lw.q_isi, Lw.q_nox, Lw.noxE_ok, Lw.q_nil, Lw.q_cons, Lw.qB_nil, Lw.qB_one, Lw.qI_seqT, Lw.qI_seqF, Lw.qI_enumT, Lw.qI_enumF, Lw.qI_zipT, Lw.qI_zipF, Lw.ssel_nx, Lw.ssel_ret, Lw.ssel_exc, Lw.ssel_brk, Lw.ssel_ct, Lw.s_nil', Lw.s_seq', Lw.s_ret', Lw.s_retN', Lw.s_set', Lw.s_setc', Lw.s_unp', Lw.s_par2', Lw.s_par3', Lw.dsel_d, Lw.s_aug', Lw.s_exp', Lw.s_ife', Lw.s_rai', Lw.s_pass', Lw.s_doc', Lw.s_brk', Lw.s_cnt', Lw.xsel_exc, Lw.xsel_nx, Lw.xsel_ret, Lw.s_try', Lw.nox_nx, Lw.nox_ret, Lw.s_hd', Lw.s_hnil', Lw.tst_eq, Lw.cBody_eq, Lw.bind_ok2, Lw.bind_exc2, Lw.bind_stuck2, Lw.then_ok2, Lw.then_exc2, Lw.then_stuck2, Lw.ofOpt_some2, Lw.ofOpt_none2, Lw.ite_okh, Lw.ite_tm, Lw.ite_od, Lw.ite_bool, Lw.ite_int, Lw.isiD_eq, Lw.flat_lst, Lw.whole_int, Lw.ite_else_false, Lw.ite_then_true, Lw.ite_not_false, Lw.flat_d, Lw.eqD_int, Lw.eqD_str, Lw.boolsD_map, Lw.look_tm2, Lw.look_sl2, Lw.join_some2, Lw.lookD_eq, Lw.lookF_eq, Lw.opd_tm, Lw.opd_sl, Lw.boolOf_bool, Lw.bool_eq, Lw.sto_tm, Lw.sto_sl, Lw.esc_tm, Lw.esc_sl, Lw.esel_d, Lw.esel_ol, Lw.arg_eq, Lw.asel_scr, Lw.asel_d, Lw.asel_ol, Lw.asel_lst, Lw.argsO_nil, Lw.argsO_cons, Lw.escs_nil, Lw.escs_cons, Lw.stos_nil, Lw.stos_cons, Lw.looksD_nil, Lw.looksD_cons, Lw.looksF_nil, Lw.looksF_cons, Lw.partD_nil, Lw.intOf_int, Lw.partD_one, Lw.okD_eq, Lw.deep_tm, Lw.deep_sl, Lw.isB_int_none, Lw.isB_int_bool, Lw.isB_int_int, Lw.isB_int_str, Lw.isB_int_list, Lw.isB_int_tuple, Lw.isB_bool_none, Lw.isB_bool_bool, Lw.isB_bool_int, Lw.isB_bool_str, Lw.isB_bool_list, Lw.isB_bool_tuple, Lw.isB_str_none, Lw.isB_str_bool, Lw.isB_str_int, Lw.isB_str_str, Lw.isB_str_list, Lw.isB_str_tuple, Lw.isB_tuple_none, Lw.isB_tuple_bool, Lw.isB_tuple_int, Lw.isB_tuple_str, Lw.isB_tuple_list, Lw.isB_tuple_tuple, Lw.isB_list_none, Lw.isB_list_bool, Lw.isB_list_int, Lw.isB_list_str, Lw.isB_list_list, Lw.isB_list_tuple, Lw.whole_none, Lw.whole_bool, Lw.whole_str, Lw.whole_list, Lw.whole_tuple, Lw.primO_len, Lw.primO_int, Lw.primO_abs, Lw.primO_max, Lw.primO_min, Lw.primO_sum, Lw.primO_all, Lw.primO_any, Lw.primO_tuple, Lw.primO_list, Lw.primO_sorted, Lw.lenO_l, Lw.lenO_t, Lw.intO_i, Lw.absO_i, Lw.maxO_2, Lw.minO_2, Lw.sumO_l, Lw.sumO_t, Lw.allO_l, Lw.anyO_l, Lw.tupleO_l, Lw.tupleO_t, Lw.listO_l, Lw.listO_t, Lw.sortedO_l, Lw.bin_add, Lw.bin_sub, Lw.cmp_Eq, Lw.cmp_NotEq, Lw.cmp_Lt, Lw.cmp_LtE, Lw.cmp_Gt, Lw.cmp_GtE, Lw.cmp_In, Lw.cmp_NotIn, Lw.cmp_Is, Lw.cmp_IsNot, Lw.notNone_none, Lw.notNone_bool, Lw.notNone_int, Lw.notNone_str, Lw.notNone_list, Lw.notNone_tuple, Lw.ltD_int, Lw.leD_int, Lw.gtD_int, Lw.geD_int, Lw.idx_t, Lw.idx_l, Lw.items_l, Lw.items_t, Lw.slice_t, Lw.slice_dl, Lw.slice_scr, Lw.zsel_l, Lw.zsel_t, Lw.zsel_lt, Lw.zsel_tl, Lw.outF_ret, Lw.outF_nx, Lw.outF_exc, Lw.asgT_var, Lw.asgT_tup, Lw.asgTs_nil, Lw.asgTs_cons, Lw.wipe_nil, Lw.wipe_cons, Lw.quiet_nil, Lw.quiet_cons, Lw.quiet_none, Lw.quiet_d, Lw.quiet_jd, Lw.aug_add2, Lw.aug_sub2, Lw.q_neg2, Lw.revO_t, Lw.revO_l, Lw.q_rev2, Lw.listOf_l, Lw.q_sset2, Lw.qI_rng1', Lw.rgsel_2, Lw.qI_rng2', Lw.bin_mul1, Lw.bin_mul3, Lw.bin_fdiv1, Lw.bin_fdiv2, Lw.bin_mod1, Lw.aug_mul1, Lw.bin_addT1, Lw.bin_addL1, Lw.bin_mulL1, Lw.bin_mulT1, Lw.ix_pos, Lw.ix_neg, Lw.lenOk_ok, Lw.rgD_ok', Lw.eqD_ints, Lw.eqD_tints, Lw.sliceD_from, Lw.sliceD_to, Lw.ltD_tints, Lw.leD_tints, Lw.ol_nil', Lw.ol_one', Lw.ol_two', Lw.ol_three', Lw.ol_four', Lw.ol_five', Lw.bin_pow1, Lw.lsel_ol, Lw.q_mth, Lw.appS_ok, Lw.mth_app, Lw.mth_ext, Lw.mth_extd, Lw.T.exm_BadColour_BadColour, Lw.T.exm_BadColour_BadColours, Lw.T.exm_BadColour_BadLight, Lw.T.exm_BadColour_BadStock, Lw.T.exm_BadColour_TooGreat, Lw.T.exm_BadColours_BadColour, Lw.T.exm_BadColours_BadColours, Lw.T.exm_BadColours_BadLight, Lw.T.exm_BadColours_BadStock, Lw.T.exm_BadColours_TooGreat, Lw.T.exm_BadLight_BadColour, Lw.T.exm_BadLight_BadColours, Lw.T.exm_BadLight_BadLight, Lw.T.exm_BadLight_BadStock, Lw.T.exm_BadLight_TooGreat, Lw.T.exm_BadStock_BadColour, Lw.T.exm_BadStock_BadColours, Lw.T.exm_BadStock_BadLight, Lw.T.exm_BadStock_BadStock, Lw.T.exm_BadStock_TooGreat, Lw.T.exm_TooGreat_BadColour, Lw.T.exm_TooGreat_BadColours, Lw.T.exm_TooGreat_BadLight, Lw.T.exm_TooGreat_BadStock, Lw.T.exm_TooGreat_TooGreat, Lw.T.gl_KINDS, Lw.T.gl_MOST_LEAST, Lw.T.gl_MOST_NUMBER, Lw.T.gl_MOST_ROW, Lw.T.gl_MOST_STOCK, Lw.T.gl_PARTS, O.walk, O.toD, O.toDs, O.flats, qt, List.getElem?_cons_zero, List.getElem?_cons_succ, List.set_cons_zero, List.set_cons_succ, List.map_cons, List.map_nil, List.cons_append, List.nil_append, List.append_nil, List.length_cons, List.length_nil, List.length_append, List.length_map, List.length_zip,  List.replicate, Option.bind_some, Option.bind_none, Option.map_some, Option.map_none, if_true, if_false, Bool.not_true, Bool.not_false, Bool.true_and, Bool.and_true, Bool.false_and, Bool.and_false, Bool.true_or, Bool.or_true, Bool.false_or, Bool.or_false, Bool.false_eq_true, Bool.and_self, and_self, true_and, and_true, decide_true, decide_false, Nat.zero_add, Nat.reduceAdd, Nat.reduceSub, Nat.reduceLeDiff, reduceCtorEq, Int.natCast_zero, Int.natCast_one, Int.cast_ofNat_Int, Int.reduceLT, Int.reduceLE, Int.reduceToNat, Int.reduceNeg, Int.reduceAdd, Int.reduceSub, Int.reducePow, Nat.reducePow, Int.reduceMul, Nat.reduceMul, List.reduceReplicate, List.flatten_cons, List.flatten_nil, ne_eq, not_false_eq_true, not_true_eq_false, List.cons_ne_nil])
local macro_rules | `(tactic| walk_at "ev!") => `(tactic| try simp (disch := first | assumption | omega | (simp only [List.length_cons, List.length_nil, List.length_append, List.length_map, List.length_zip] <;> omega)) only [seval, Lw.ol_toD, Lw.ol_flat, Lw.ol_slice, Lw.ge_call, Lw.ge_glob, Lw.ge_wf, Lw.ge_exm, Lw.bsel_some, Lw.osel_some, Lw.osel_none, Lw.q_var, Lw.q_int, Lw.q_bl, Lw.q_non, Lw.q_str, Lw.q_glob, Lw.q_bin, Lw.q_not, Lw.q_and, Lw.q_or, Lw.q_one, Lw.q_cmp, Lw.q_chain, Lw.q_ifx, Lw.q_tup, Lw.q_lst, Lw.q_idx, Lw.q_slc, Lw.fsel_ok, Lw.fsel_exc, Lw.q_call, Lw.q_prim, Lw.q_isi, Lw.q_nox, Lw.noxE_ok, Lw.q_nil, Lw.q_cons, Lw.qB_nil, Lw.qB_one, Lw.qI_seqT, Lw.qI_seqF, Lw.qI_enumT, Lw.qI_enumF, Lw.qI_zipT, Lw.qI_zipF, Lw.ssel_nx, Lw.ssel_ret, Lw.ssel_exc, Lw.ssel_brk, Lw.ssel_ct, Lw.s_nil', Lw.s_seq', Lw.s_ret', Lw.s_retN', Lw.s_set', Lw.s_setc', Lw.s_unp', Lw.s_par2', Lw.s_par3', Lw.dsel_d, Lw.s_aug', Lw.s_exp', Lw.s_ife', Lw.s_rai', Lw.s_pass', Lw.s_doc', Lw.s_brk', Lw.s_cnt', Lw.xsel_exc, Lw.xsel_nx, Lw.xsel_ret, Lw.s_try', Lw.nox_nx, Lw.nox_ret, Lw.s_hd', Lw.s_hnil', Lw.tst_eq, Lw.cBody_eq, Lw.bind_ok2, Lw.bind_exc2, Lw.bind_stuck2, Lw.then_ok2, Lw.then_exc2, Lw.then_stuck2, Lw.ofOpt_some2, Lw.ofOpt_none2, Lw.ite_okh, Lw.ite_tm, Lw.ite_od, Lw.ite_bool, Lw.ite_int, Lw.isiD_eq, Lw.flat_lst, Lw.whole_int, Lw.ite_else_false, Lw.ite_then_true, Lw.ite_not_false, Lw.flat_d, Lw.eqD_int, Lw.eqD_str, Lw.boolsD_map, Lw.look_tm2, Lw.look_sl2, Lw.join_some2, Lw.lookD_eq, Lw.lookF_eq, Lw.opd_tm, Lw.opd_sl, Lw.boolOf_bool, Lw.bool_eq, Lw.sto_tm, Lw.sto_sl, Lw.esc_tm, Lw.esc_sl, Lw.esel_d, Lw.esel_ol, Lw.arg_eq, Lw.asel_scr, Lw.asel_d, Lw.asel_ol, Lw.asel_lst, Lw.argsO_nil, Lw.argsO_cons, Lw.escs_nil, Lw.escs_cons, Lw.stos_nil, Lw.stos_cons, Lw.looksD_nil, Lw.looksD_cons, Lw.looksF_nil, Lw.looksF_cons, Lw.partD_nil, Lw.intOf_int, Lw.partD_one, Lw.okD_eq, Lw.deep_tm, Lw.deep_sl, Lw.isB_int_none, Lw.isB_int_bool, Lw.isB_int_int, Lw.isB_int_str, Lw.isB_int_list, Lw.isB_int_tuple, Lw.isB_bool_none, Lw.isB_bool_bool, Lw.isB_bool_int, Lw.isB_bool_str, Lw.isB_bool_list, Lw.isB_bool_tuple, Lw.isB_str_none, Lw.isB_str_bool, Lw.isB_str_int, Lw.isB_str_str, Lw.isB_str_list, Lw.isB_str_tuple, Lw.isB_tuple_none, Lw.isB_tuple_bool, Lw.isB_tuple_int, Lw.isB_tuple_str, Lw.isB_tuple_list, Lw.isB_tuple_tuple, Lw.isB_list_none, Lw.isB_list_bool, Lw.isB_list_int, Lw.isB_list_str, Lw.isB_list_list, Lw.isB_list_tuple, Lw.whole_none, Lw.whole_bool, Lw.whole_str, Lw.whole_list, Lw.whole_tuple, Lw.primO_len, Lw.primO_int, Lw.primO_abs, Lw.primO_max, Lw.primO_min, Lw.primO_sum, Lw.primO_all, Lw.primO_any, Lw.primO_tuple, Lw.primO_list, Lw.primO_sorted, Lw.lenO_l, Lw.lenO_t, Lw.intO_i, Lw.absO_i, Lw.maxO_2, Lw.minO_2, Lw.sumO_l, Lw.sumO_t, Lw.allO_l, Lw.anyO_l, Lw.tupleO_l, Lw.tupleO_t, Lw.listO_l, Lw.listO_t, Lw.sortedO_l, Lw.bin_add, Lw.bin_sub, Lw.cmp_Eq, Lw.cmp_NotEq, Lw.cmp_Lt, Lw.cmp_LtE, Lw.cmp_Gt, Lw.cmp_GtE, Lw.cmp_In, Lw.cmp_NotIn, Lw.cmp_Is, Lw.cmp_IsNot, Lw.notNone_none, Lw.notNone_bool, Lw.notNone_int, Lw.notNone_str, Lw.notNone_list, Lw.notNone_tuple, Lw.ltD_int, Lw.leD_int, Lw.gtD_int, Lw.geD_int, Lw.idx_t, Lw.idx_l, Lw.items_l, Lw.items_t, Lw.slice_t, Lw.slice_dl, Lw.slice_scr, Lw.zsel_l, Lw.zsel_t, Lw.zsel_lt, Lw.zsel_tl, Lw.outF_ret, Lw.outF_nx, Lw.outF_exc, Lw.asgT_var, Lw.asgT_tup, Lw.asgTs_nil, Lw.asgTs_cons, Lw.wipe_nil, Lw.wipe_cons, Lw.quiet_nil, Lw.quiet_cons, Lw.quiet_none, Lw.quiet_d, Lw.quiet_jd, Lw.aug_add2, Lw.aug_sub2, Lw.q_neg2, Lw.revO_t, Lw.revO_l, Lw.q_rev2, Lw.listOf_l, Lw.q_sset2, Lw.qI_rng1', Lw.rgsel_2, Lw.qI_rng2', Lw.bin_mul1, Lw.bin_mul3, Lw.bin_fdiv1, Lw.bin_fdiv2, Lw.bin_mod1, Lw.aug_mul1, Lw.bin_addT1, Lw.bin_addL1, Lw.bin_mulL1, Lw.bin_mulT1, Lw.ix_pos, Lw.ix_neg, Lw.lenOk_ok, Lw.rgD_ok', Lw.eqD_ints, Lw.eqD_tints, Lw.sliceD_from, Lw.sliceD_to, Lw.ltD_tints, Lw.leD_tints, Lw.ol_nil', Lw.ol_one', Lw.ol_two', Lw.ol_three', Lw.ol_four', Lw.ol_five', Lw.bin_pow1, Lw.lsel_ol, Lw.q_mth, Lw.appS_ok, Lw.mth_app, Lw.mth_ext, Lw.mth_extd, Lw.T.exm_BadColour_BadColour, Lw.T.exm_BadColour_BadColours, Lw.T.exm_BadColour_BadLight, Lw.T.exm_BadColour_BadStock, Lw.T.exm_BadColour_TooGreat, Lw.T.exm_BadColours_BadColour, Lw.T.exm_BadColours_BadColours, Lw.T.exm_BadColours_BadLight, Lw.T.exm_BadColours_BadStock, Lw.T.exm_BadColours_TooGreat, Lw.T.exm_BadLight_BadColour, Lw.T.exm_BadLight_BadColours, Lw.T.exm_BadLight_BadLight, Lw.T.exm_BadLight_BadStock, Lw.T.exm_BadLight_TooGreat, Lw.T.exm_BadStock_BadColour, Lw.T.exm_BadStock_BadColours, Lw.T.exm_BadStock_BadLight, Lw.T.exm_BadStock_BadStock, Lw.T.exm_BadStock_TooGreat, Lw.T.exm_TooGreat_BadColour, Lw.T.exm_TooGreat_BadColours, Lw.T.exm_TooGreat_BadLight, Lw.T.exm_TooGreat_BadStock, Lw.T.exm_TooGreat_TooGreat, Lw.T.gl_KINDS, Lw.T.gl_MOST_LEAST, Lw.T.gl_MOST_NUMBER, Lw.T.gl_MOST_ROW, Lw.T.gl_MOST_STOCK, Lw.T.gl_PARTS, *, O.walk, O.toD, O.toDs, O.flats, qt, List.getElem?_cons_zero, List.getElem?_cons_succ, List.set_cons_zero, List.set_cons_succ, List.map_cons, List.map_nil, List.cons_append, List.nil_append, List.append_nil, List.length_cons, List.length_nil, List.length_append, List.length_map, List.length_zip,  List.replicate, Option.bind_some, Option.bind_none, Option.map_some, Option.map_none, if_true, if_false, Bool.not_true, Bool.not_false, Bool.true_and, Bool.and_true, Bool.false_and, Bool.and_false, Bool.true_or, Bool.or_true, Bool.false_or, Bool.or_false, Bool.false_eq_true, Bool.and_self, and_self, true_and, and_true, decide_true, decide_false, Nat.zero_add, Nat.reduceAdd, Nat.reduceSub, Nat.reduceLeDiff, reduceCtorEq, Int.natCast_zero, Int.natCast_one, Int.cast_ofNat_Int, Int.reduceLT, Int.reduceLE, Int.reduceToNat, Int.reduceNeg, Int.reduceAdd, Int.reduceSub, Int.reducePow, Nat.reducePow, Int.reduceMul, Nat.reduceMul, List.reduceReplicate, List.flatten_cons, List.flatten_nil, ne_eq, not_false_eq_true, not_true_eq_false, List.cons_ne_nil])
local macro_rules | `(tactic| walk_at "evd") => `(tactic| try simp (disch := first | assumption | omega | (simp only [List.length_cons, List.length_nil, List.length_append, List.length_map, List.length_zip] <;> omega)) only [seval, Lw.ol_toD, Lw.ol_flat, Lw.ol_slice, Lw.ge_call, Lw.ge_glob, Lw.ge_wf, Lw.ge_exm, Lw.bsel_some, Lw.osel_some, Lw.osel_none, Lw.q_var, Lw.q_int, Lw.q_bl, Lw.q_non, Lw.q_str, Lw.q_glob, Lw.q_bin, Lw.q_not, Lw.q_and, Lw.q_or, Lw.q_one, Lw.q_cmp, Lw.q_chain, Lw.q_ifx, Lw.q_tup, Lw.q_lst, Lw.q_idx, Lw.q_slc, Lw.fsel_ok, Lw.fsel_exc, Lw.q_call, Lw.q_prim, Lw.q_isi, Lw.q_nox, Lw.noxE_ok, Lw.q_nil, Lw.q_cons, Lw.qB_nil, Lw.qB_one, Lw.qI_seqT, Lw.qI_seqF, Lw.qI_enumT, Lw.qI_enumF, Lw.qI_zipT, Lw.qI_zipF, Lw.ssel_nx, Lw.ssel_ret, Lw.ssel_exc, Lw.ssel_brk, Lw.ssel_ct, Lw.s_nil', Lw.s_seq', Lw.s_ret', Lw.s_retN', Lw.s_set', Lw.s_setc', Lw.s_unp', Lw.s_par2', Lw.s_par3', Lw.dsel_d, Lw.s_aug', Lw.s_exp', Lw.s_ife', Lw.s_rai', Lw.s_pass', Lw.s_doc', Lw.s_brk', Lw.s_cnt', Lw.xsel_exc, Lw.xsel_nx, Lw.xsel_ret, Lw.s_try', Lw.nox_nx, Lw.nox_ret, Lw.s_hd', Lw.s_hnil', Lw.tst_eq, Lw.cBody_eq, Lw.bind_ok2, Lw.bind_exc2, Lw.bind_stuck2, Lw.then_ok2, Lw.then_exc2, Lw.then_stuck2, Lw.ofOpt_some2, Lw.ofOpt_none2, Lw.ite_okh, Lw.ite_tm, Lw.ite_od, Lw.ite_bool, Lw.ite_int, Lw.isiD_eq, Lw.flat_lst, Lw.whole_int, Lw.ite_else_false, Lw.ite_then_true, Lw.ite_not_false, Lw.flat_d, Lw.eqD_int, Lw.eqD_str, Lw.boolsD_map, Lw.look_tm2, Lw.look_sl2, Lw.join_some2, Lw.lookD_eq, Lw.lookF_eq, Lw.opd_tm, Lw.opd_sl, Lw.boolOf_bool, Lw.bool_eq, Lw.sto_tm, Lw.sto_sl, Lw.esc_tm, Lw.esc_sl, Lw.esel_d, Lw.esel_ol, Lw.arg_eq, Lw.asel_scr, Lw.asel_d, Lw.asel_ol, Lw.asel_lst, Lw.argsO_nil, Lw.argsO_cons, Lw.escs_nil, Lw.escs_cons, Lw.stos_nil, Lw.stos_cons, Lw.looksD_nil, Lw.looksD_cons, Lw.looksF_nil, Lw.looksF_cons, Lw.partD_nil, Lw.intOf_int, Lw.partD_one, Lw.okD_eq, Lw.deep_tm, Lw.deep_sl, Lw.isB_int_none, Lw.isB_int_bool, Lw.isB_int_int, Lw.isB_int_str, Lw.isB_int_list, Lw.isB_int_tuple, Lw.isB_bool_none, Lw.isB_bool_bool, Lw.isB_bool_int, Lw.isB_bool_str, Lw.isB_bool_list, Lw.isB_bool_tuple, Lw.isB_str_none, Lw.isB_str_bool, Lw.isB_str_int, Lw.isB_str_str, Lw.isB_str_list, Lw.isB_str_tuple, Lw.isB_tuple_none, Lw.isB_tuple_bool, Lw.isB_tuple_int, Lw.isB_tuple_str, Lw.isB_tuple_list, Lw.isB_tuple_tuple, Lw.isB_list_none, Lw.isB_list_bool, Lw.isB_list_int, Lw.isB_list_str, Lw.isB_list_list, Lw.isB_list_tuple, Lw.whole_none, Lw.whole_bool, Lw.whole_str, Lw.whole_list, Lw.whole_tuple, Lw.primO_len, Lw.primO_int, Lw.primO_abs, Lw.primO_max, Lw.primO_min, Lw.primO_sum, Lw.primO_all, Lw.primO_any, Lw.primO_tuple, Lw.primO_list, Lw.primO_sorted, Lw.lenO_l, Lw.lenO_t, Lw.intO_i, Lw.absO_i, Lw.maxO_2, Lw.minO_2, Lw.sumO_l, Lw.sumO_t, Lw.allO_l, Lw.anyO_l, Lw.tupleO_l, Lw.tupleO_t, Lw.listO_l, Lw.listO_t, Lw.sortedO_l, Lw.bin_add, Lw.bin_sub, Lw.cmp_Eq, Lw.cmp_NotEq, Lw.cmp_Lt, Lw.cmp_LtE, Lw.cmp_Gt, Lw.cmp_GtE, Lw.cmp_In, Lw.cmp_NotIn, Lw.cmp_Is, Lw.cmp_IsNot, Lw.notNone_none, Lw.notNone_bool, Lw.notNone_int, Lw.notNone_str, Lw.notNone_list, Lw.notNone_tuple, Lw.ltD_int, Lw.leD_int, Lw.gtD_int, Lw.geD_int, Lw.idx_t, Lw.idx_l, Lw.items_l, Lw.items_t, Lw.slice_t, Lw.slice_dl, Lw.slice_scr, Lw.zsel_l, Lw.zsel_t, Lw.zsel_lt, Lw.zsel_tl, Lw.outF_ret, Lw.outF_nx, Lw.outF_exc, Lw.asgT_var, Lw.asgT_tup, Lw.asgTs_nil, Lw.asgTs_cons, Lw.wipe_nil, Lw.wipe_cons, Lw.quiet_nil, Lw.quiet_cons, Lw.quiet_none, Lw.quiet_d, Lw.quiet_jd, Lw.aug_add2, Lw.aug_sub2, Lw.q_neg2, Lw.revO_t, Lw.revO_l, Lw.q_rev2, Lw.listOf_l, Lw.q_sset2, Lw.qI_rng1', Lw.rgsel_2, Lw.qI_rng2', Lw.bin_mul1, Lw.bin_mul3, Lw.bin_fdiv1, Lw.bin_fdiv2, Lw.bin_mod1, Lw.aug_mul1, Lw.bin_addT1, Lw.bin_addL1, Lw.bin_mulL1, Lw.bin_mulT1, Lw.ix_pos, Lw.ix_neg, Lw.lenOk_ok, Lw.rgD_ok', Lw.eqD_ints, Lw.eqD_tints, Lw.sliceD_from, Lw.sliceD_to, Lw.ltD_tints, Lw.leD_tints, Lw.ol_nil', Lw.ol_one', Lw.ol_two', Lw.ol_three', Lw.ol_four', Lw.ol_five', Lw.bin_pow1, Lw.lsel_ol, Lw.q_mth, Lw.appS_ok, Lw.mth_app, Lw.mth_ext, Lw.mth_extd, Lw.T.exm_BadColour_BadColour, Lw.T.exm_BadColour_BadColours, Lw.T.exm_BadColour_BadLight, Lw.T.exm_BadColour_BadStock, Lw.T.exm_BadColour_TooGreat, Lw.T.exm_BadColours_BadColour, Lw.T.exm_BadColours_BadColours, Lw.T.exm_BadColours_BadLight, Lw.T.exm_BadColours_BadStock, Lw.T.exm_BadColours_TooGreat, Lw.T.exm_BadLight_BadColour, Lw.T.exm_BadLight_BadColours, Lw.T.exm_BadLight_BadLight, Lw.T.exm_BadLight_BadStock, Lw.T.exm_BadLight_TooGreat, Lw.T.exm_BadStock_BadColour, Lw.T.exm_BadStock_BadColours, Lw.T.exm_BadStock_BadLight, Lw.T.exm_BadStock_BadStock, Lw.T.exm_BadStock_TooGreat, Lw.T.exm_TooGreat_BadColour, Lw.T.exm_TooGreat_BadColours, Lw.T.exm_TooGreat_BadLight, Lw.T.exm_TooGreat_BadStock, Lw.T.exm_TooGreat_TooGreat, Lw.T.gl_KINDS, Lw.T.gl_MOST_LEAST, Lw.T.gl_MOST_NUMBER, Lw.T.gl_MOST_ROW, Lw.T.gl_MOST_STOCK, Lw.T.gl_PARTS, dec_yes, dec_no, O.walk, O.toD, O.toDs, O.flats, qt, List.getElem?_cons_zero, List.getElem?_cons_succ, List.set_cons_zero, List.set_cons_succ, List.map_cons, List.map_nil, List.cons_append, List.nil_append, List.append_nil, List.length_cons, List.length_nil, List.length_append, List.length_map, List.length_zip,  List.replicate, Option.bind_some, Option.bind_none, Option.map_some, Option.map_none, if_true, if_false, Bool.not_true, Bool.not_false, Bool.true_and, Bool.and_true, Bool.false_and, Bool.and_false, Bool.true_or, Bool.or_true, Bool.false_or, Bool.or_false, Bool.false_eq_true, Bool.and_self, and_self, true_and, and_true, decide_true, decide_false, Nat.zero_add, Nat.reduceAdd, Nat.reduceSub, Nat.reduceLeDiff, reduceCtorEq, Int.natCast_zero, Int.natCast_one, Int.cast_ofNat_Int, Int.reduceLT, Int.reduceLE, Int.reduceToNat, Int.reduceNeg, Int.reduceAdd, Int.reduceSub, Int.reducePow, Nat.reducePow, Int.reduceMul, Nat.reduceMul, List.reduceReplicate, List.flatten_cons, List.flatten_nil, ne_eq, not_false_eq_true, not_true_eq_false, List.cons_ne_nil])
theorem sp_is_whole (l : Nat) (x : PyData) (a b : Int) : callN base (l + 1) 0 [.d x, .d (.int a), .d (.int b)] = .ok (.d (.bool (whole x a b))) [] := by
  rw [callN_eq t_is_whole rfl]
  cases x <;> (unfold r0 b0; walk_at "ev"; try rfl)
local macro_rules | `(tactic| walk_at "ev") => `(tactic| try simp (disch := first | assumption | omega | (simp only [List.length_cons, List.length_nil, List.length_append, List.length_map, List.length_zip] <;> omega)) only [seval, Lw.ol_toD, Lw.ol_flat, Lw.ol_slice, Lw.ge_call, Lw.ge_glob, Lw.ge_wf, Lw.ge_exm, Lw.bsel_some, Lw.osel_some, Lw.osel_none, Lw.q_var, Lw.q_int, Lw.q_bl, Lw.q_non, Lw.q_str, Lw.q_glob, Lw.q_bin, Lw.q_not, Lw.q_and, Lw.q_or, Lw.q_one, Lw.q_cmp, Lw.q_chain, Lw.q_ifx, Lw.q_tup, Lw.q_lst, Lw.q_idx, Lw.q_slc, Lw.fsel_ok, Lw.fsel_exc, Lw.q_call, Lw.q_prim, Lw.q_isi, Lw.q_nox, Lw.noxE_ok, Lw.q_nil, Lw.q_cons, Lw.qB_nil, Lw.qB_one, Lw.qI_seqT, Lw.qI_seqF, Lw.qI_enumT, Lw.qI_enumF, Lw.qI_zipT, Lw.qI_zipF, Lw.ssel_nx, Lw.ssel_ret, Lw.ssel_exc, Lw.ssel_brk, Lw.ssel_ct, Lw.s_nil', Lw.s_seq', Lw.s_ret', Lw.s_retN', Lw.s_set', Lw.s_setc', Lw.s_unp', Lw.s_par2', Lw.s_par3', Lw.dsel_d, Lw.s_aug', Lw.s_exp', Lw.s_ife', Lw.s_rai', Lw.s_pass', Lw.s_doc', Lw.s_brk', Lw.s_cnt', Lw.xsel_exc, Lw.xsel_nx, Lw.xsel_ret, Lw.s_try', Lw.nox_nx, Lw.nox_ret, Lw.s_hd', Lw.s_hnil', Lw.tst_eq, Lw.cBody_eq, Lw.bind_ok2, Lw.bind_exc2, Lw.bind_stuck2, Lw.then_ok2, Lw.then_exc2, Lw.then_stuck2, Lw.ofOpt_some2, Lw.ofOpt_none2, Lw.ite_okh, Lw.ite_tm, Lw.ite_od, Lw.ite_bool, Lw.ite_int, Lw.isiD_eq, Lw.flat_lst, Lw.whole_int, Lw.ite_else_false, Lw.ite_then_true, Lw.ite_not_false, Lw.flat_d, Lw.eqD_int, Lw.eqD_str, Lw.boolsD_map, Lw.look_tm2, Lw.look_sl2, Lw.join_some2, Lw.lookD_eq, Lw.lookF_eq, Lw.opd_tm, Lw.opd_sl, Lw.boolOf_bool, Lw.bool_eq, Lw.sto_tm, Lw.sto_sl, Lw.esc_tm, Lw.esc_sl, Lw.esel_d, Lw.esel_ol, Lw.arg_eq, Lw.asel_scr, Lw.asel_d, Lw.asel_ol, Lw.asel_lst, Lw.argsO_nil, Lw.argsO_cons, Lw.escs_nil, Lw.escs_cons, Lw.stos_nil, Lw.stos_cons, Lw.looksD_nil, Lw.looksD_cons, Lw.looksF_nil, Lw.looksF_cons, Lw.partD_nil, Lw.intOf_int, Lw.partD_one, Lw.okD_eq, Lw.deep_tm, Lw.deep_sl, Lw.isB_int_none, Lw.isB_int_bool, Lw.isB_int_int, Lw.isB_int_str, Lw.isB_int_list, Lw.isB_int_tuple, Lw.isB_bool_none, Lw.isB_bool_bool, Lw.isB_bool_int, Lw.isB_bool_str, Lw.isB_bool_list, Lw.isB_bool_tuple, Lw.isB_str_none, Lw.isB_str_bool, Lw.isB_str_int, Lw.isB_str_str, Lw.isB_str_list, Lw.isB_str_tuple, Lw.isB_tuple_none, Lw.isB_tuple_bool, Lw.isB_tuple_int, Lw.isB_tuple_str, Lw.isB_tuple_list, Lw.isB_tuple_tuple, Lw.isB_list_none, Lw.isB_list_bool, Lw.isB_list_int, Lw.isB_list_str, Lw.isB_list_list, Lw.isB_list_tuple, Lw.whole_none, Lw.whole_bool, Lw.whole_str, Lw.whole_list, Lw.whole_tuple, Lw.primO_len, Lw.primO_int, Lw.primO_abs, Lw.primO_max, Lw.primO_min, Lw.primO_sum, Lw.primO_all, Lw.primO_any, Lw.primO_tuple, Lw.primO_list, Lw.primO_sorted, Lw.lenO_l, Lw.lenO_t, Lw.intO_i, Lw.absO_i, Lw.maxO_2, Lw.minO_2, Lw.sumO_l, Lw.sumO_t, Lw.allO_l, Lw.anyO_l, Lw.tupleO_l, Lw.tupleO_t, Lw.listO_l, Lw.listO_t, Lw.sortedO_l, Lw.bin_add, Lw.bin_sub, Lw.cmp_Eq, Lw.cmp_NotEq, Lw.cmp_Lt, Lw.cmp_LtE, Lw.cmp_Gt, Lw.cmp_GtE, Lw.cmp_In, Lw.cmp_NotIn, Lw.cmp_Is, Lw.cmp_IsNot, Lw.notNone_none, Lw.notNone_bool, Lw.notNone_int, Lw.notNone_str, Lw.notNone_list, Lw.notNone_tuple, Lw.ltD_int, Lw.leD_int, Lw.gtD_int, Lw.geD_int, Lw.idx_t, Lw.idx_l, Lw.items_l, Lw.items_t, Lw.slice_t, Lw.slice_dl, Lw.slice_scr, Lw.zsel_l, Lw.zsel_t, Lw.zsel_lt, Lw.zsel_tl, Lw.outF_ret, Lw.outF_nx, Lw.outF_exc, Lw.asgT_var, Lw.asgT_tup, Lw.asgTs_nil, Lw.asgTs_cons, Lw.wipe_nil, Lw.wipe_cons, Lw.quiet_nil, Lw.quiet_cons, Lw.quiet_none, Lw.quiet_d, Lw.quiet_jd, Lw.aug_add2, Lw.aug_sub2, Lw.q_neg2, Lw.revO_t, Lw.revO_l, Lw.q_rev2, Lw.listOf_l, Lw.q_sset2, Lw.qI_rng1', Lw.rgsel_2, Lw.qI_rng2', Lw.bin_mul1, Lw.bin_mul3, Lw.bin_fdiv1, Lw.bin_fdiv2, Lw.bin_mod1, Lw.aug_mul1, Lw.bin_addT1, Lw.bin_addL1, Lw.bin_mulL1, Lw.bin_mulT1, Lw.ix_pos, Lw.ix_neg, Lw.lenOk_ok, Lw.rgD_ok', Lw.eqD_ints, Lw.eqD_tints, Lw.sliceD_from, Lw.sliceD_to, Lw.ltD_tints, Lw.leD_tints, Lw.ol_nil', Lw.ol_one', Lw.ol_two', Lw.ol_three', Lw.ol_four', Lw.ol_five', Lw.bin_pow1, Lw.lsel_ol, Lw.q_mth, Lw.appS_ok, Lw.mth_app, Lw.mth_ext, Lw.mth_extd, Lw.T.exm_BadColour_BadColour, Lw.T.exm_BadColour_BadColours, Lw.T.exm_BadColour_BadLight, Lw.T.exm_BadColour_BadStock, Lw.T.exm_BadColour_TooGreat, Lw.T.exm_BadColours_BadColour, Lw.T.exm_BadColours_BadColours, Lw.T.exm_BadColours_BadLight, Lw.T.exm_BadColours_BadStock, Lw.T.exm_BadColours_TooGreat, Lw.T.exm_BadLight_BadColour, Lw.T.exm_BadLight_BadColours, Lw.T.exm_BadLight_BadLight, Lw.T.exm_BadLight_BadStock, Lw.T.exm_BadLight_TooGreat, Lw.T.exm_BadStock_BadColour, Lw.T.exm_BadStock_BadColours, Lw.T.exm_BadStock_BadLight, Lw.T.exm_BadStock_BadStock, Lw.T.exm_BadStock_TooGreat, Lw.T.exm_TooGreat_BadColour, Lw.T.exm_TooGreat_BadColours, Lw.T.exm_TooGreat_BadLight, Lw.T.exm_TooGreat_BadStock, Lw.T.exm_TooGreat_TooGreat, Lw.T.gl_KINDS, Lw.T.gl_MOST_LEAST, Lw.T.gl_MOST_NUMBER, Lw.T.gl_MOST_ROW, Lw.T.gl_MOST_STOCK, Lw.T.gl_PARTS, Lw.T.sp_is_whole, O.walk, O.toD, O.toDs, O.flats, qt, List.getElem?_cons_zero, List.getElem?_cons_succ, List.set_cons_zero, List.set_cons_succ, List.map_cons, List.map_nil, List.cons_append, List.nil_append, List.append_nil, List.length_cons, List.length_nil, List.length_append, List.length_map, List.length_zip,  List.replicate, Option.bind_some, Option.bind_none, Option.map_some, Option.map_none, if_true, if_false, Bool.not_true, Bool.not_false, Bool.true_and, Bool.and_true, Bool.false_and, Bool.and_false, Bool.true_or, Bool.or_true, Bool.false_or, Bool.or_false, Bool.false_eq_true, Bool.and_self, and_self, true_and, and_true, decide_true, decide_false, Nat.zero_add, Nat.reduceAdd, Nat.reduceSub, Nat.reduceLeDiff, reduceCtorEq, Int.natCast_zero, Int.natCast_one, Int.cast_ofNat_Int, Int.reduceLT, Int.reduceLE, Int.reduceToNat, Int.reduceNeg, Int.reduceAdd, Int.reduceSub, Int.reducePow, Nat.reducePow, Int.reduceMul, Nat.reduceMul, List.reduceReplicate, List.flatten_cons, List.flatten_nil, ne_eq, not_false_eq_true, not_true_eq_false, List.cons_ne_nil])
local macro_rules | `(tactic| walk_at "ev!") => `(tactic| try simp (disch := first | assumption | omega | (simp only [List.length_cons, List.length_nil, List.length_append, List.length_map, List.length_zip] <;> omega)) only [seval, Lw.ol_toD, Lw.ol_flat, Lw.ol_slice, Lw.ge_call, Lw.ge_glob, Lw.ge_wf, Lw.ge_exm, Lw.bsel_some, Lw.osel_some, Lw.osel_none, Lw.q_var, Lw.q_int, Lw.q_bl, Lw.q_non, Lw.q_str, Lw.q_glob, Lw.q_bin, Lw.q_not, Lw.q_and, Lw.q_or, Lw.q_one, Lw.q_cmp, Lw.q_chain, Lw.q_ifx, Lw.q_tup, Lw.q_lst, Lw.q_idx, Lw.q_slc, Lw.fsel_ok, Lw.fsel_exc, Lw.q_call, Lw.q_prim, Lw.q_isi, Lw.q_nox, Lw.noxE_ok, Lw.q_nil, Lw.q_cons, Lw.qB_nil, Lw.qB_one, Lw.qI_seqT, Lw.qI_seqF, Lw.qI_enumT, Lw.qI_enumF, Lw.qI_zipT, Lw.qI_zipF, Lw.ssel_nx, Lw.ssel_ret, Lw.ssel_exc, Lw.ssel_brk, Lw.ssel_ct, Lw.s_nil', Lw.s_seq', Lw.s_ret', Lw.s_retN', Lw.s_set', Lw.s_setc', Lw.s_unp', Lw.s_par2', Lw.s_par3', Lw.dsel_d, Lw.s_aug', Lw.s_exp', Lw.s_ife', Lw.s_rai', Lw.s_pass', Lw.s_doc', Lw.s_brk', Lw.s_cnt', Lw.xsel_exc, Lw.xsel_nx, Lw.xsel_ret, Lw.s_try', Lw.nox_nx, Lw.nox_ret, Lw.s_hd', Lw.s_hnil', Lw.tst_eq, Lw.cBody_eq, Lw.bind_ok2, Lw.bind_exc2, Lw.bind_stuck2, Lw.then_ok2, Lw.then_exc2, Lw.then_stuck2, Lw.ofOpt_some2, Lw.ofOpt_none2, Lw.ite_okh, Lw.ite_tm, Lw.ite_od, Lw.ite_bool, Lw.ite_int, Lw.isiD_eq, Lw.flat_lst, Lw.whole_int, Lw.ite_else_false, Lw.ite_then_true, Lw.ite_not_false, Lw.flat_d, Lw.eqD_int, Lw.eqD_str, Lw.boolsD_map, Lw.look_tm2, Lw.look_sl2, Lw.join_some2, Lw.lookD_eq, Lw.lookF_eq, Lw.opd_tm, Lw.opd_sl, Lw.boolOf_bool, Lw.bool_eq, Lw.sto_tm, Lw.sto_sl, Lw.esc_tm, Lw.esc_sl, Lw.esel_d, Lw.esel_ol, Lw.arg_eq, Lw.asel_scr, Lw.asel_d, Lw.asel_ol, Lw.asel_lst, Lw.argsO_nil, Lw.argsO_cons, Lw.escs_nil, Lw.escs_cons, Lw.stos_nil, Lw.stos_cons, Lw.looksD_nil, Lw.looksD_cons, Lw.looksF_nil, Lw.looksF_cons, Lw.partD_nil, Lw.intOf_int, Lw.partD_one, Lw.okD_eq, Lw.deep_tm, Lw.deep_sl, Lw.isB_int_none, Lw.isB_int_bool, Lw.isB_int_int, Lw.isB_int_str, Lw.isB_int_list, Lw.isB_int_tuple, Lw.isB_bool_none, Lw.isB_bool_bool, Lw.isB_bool_int, Lw.isB_bool_str, Lw.isB_bool_list, Lw.isB_bool_tuple, Lw.isB_str_none, Lw.isB_str_bool, Lw.isB_str_int, Lw.isB_str_str, Lw.isB_str_list, Lw.isB_str_tuple, Lw.isB_tuple_none, Lw.isB_tuple_bool, Lw.isB_tuple_int, Lw.isB_tuple_str, Lw.isB_tuple_list, Lw.isB_tuple_tuple, Lw.isB_list_none, Lw.isB_list_bool, Lw.isB_list_int, Lw.isB_list_str, Lw.isB_list_list, Lw.isB_list_tuple, Lw.whole_none, Lw.whole_bool, Lw.whole_str, Lw.whole_list, Lw.whole_tuple, Lw.primO_len, Lw.primO_int, Lw.primO_abs, Lw.primO_max, Lw.primO_min, Lw.primO_sum, Lw.primO_all, Lw.primO_any, Lw.primO_tuple, Lw.primO_list, Lw.primO_sorted, Lw.lenO_l, Lw.lenO_t, Lw.intO_i, Lw.absO_i, Lw.maxO_2, Lw.minO_2, Lw.sumO_l, Lw.sumO_t, Lw.allO_l, Lw.anyO_l, Lw.tupleO_l, Lw.tupleO_t, Lw.listO_l, Lw.listO_t, Lw.sortedO_l, Lw.bin_add, Lw.bin_sub, Lw.cmp_Eq, Lw.cmp_NotEq, Lw.cmp_Lt, Lw.cmp_LtE, Lw.cmp_Gt, Lw.cmp_GtE, Lw.cmp_In, Lw.cmp_NotIn, Lw.cmp_Is, Lw.cmp_IsNot, Lw.notNone_none, Lw.notNone_bool, Lw.notNone_int, Lw.notNone_str, Lw.notNone_list, Lw.notNone_tuple, Lw.ltD_int, Lw.leD_int, Lw.gtD_int, Lw.geD_int, Lw.idx_t, Lw.idx_l, Lw.items_l, Lw.items_t, Lw.slice_t, Lw.slice_dl, Lw.slice_scr, Lw.zsel_l, Lw.zsel_t, Lw.zsel_lt, Lw.zsel_tl, Lw.outF_ret, Lw.outF_nx, Lw.outF_exc, Lw.asgT_var, Lw.asgT_tup, Lw.asgTs_nil, Lw.asgTs_cons, Lw.wipe_nil, Lw.wipe_cons, Lw.quiet_nil, Lw.quiet_cons, Lw.quiet_none, Lw.quiet_d, Lw.quiet_jd, Lw.aug_add2, Lw.aug_sub2, Lw.q_neg2, Lw.revO_t, Lw.revO_l, Lw.q_rev2, Lw.listOf_l, Lw.q_sset2, Lw.qI_rng1', Lw.rgsel_2, Lw.qI_rng2', Lw.bin_mul1, Lw.bin_mul3, Lw.bin_fdiv1, Lw.bin_fdiv2, Lw.bin_mod1, Lw.aug_mul1, Lw.bin_addT1, Lw.bin_addL1, Lw.bin_mulL1, Lw.bin_mulT1, Lw.ix_pos, Lw.ix_neg, Lw.lenOk_ok, Lw.rgD_ok', Lw.eqD_ints, Lw.eqD_tints, Lw.sliceD_from, Lw.sliceD_to, Lw.ltD_tints, Lw.leD_tints, Lw.ol_nil', Lw.ol_one', Lw.ol_two', Lw.ol_three', Lw.ol_four', Lw.ol_five', Lw.bin_pow1, Lw.lsel_ol, Lw.q_mth, Lw.appS_ok, Lw.mth_app, Lw.mth_ext, Lw.mth_extd, Lw.T.exm_BadColour_BadColour, Lw.T.exm_BadColour_BadColours, Lw.T.exm_BadColour_BadLight, Lw.T.exm_BadColour_BadStock, Lw.T.exm_BadColour_TooGreat, Lw.T.exm_BadColours_BadColour, Lw.T.exm_BadColours_BadColours, Lw.T.exm_BadColours_BadLight, Lw.T.exm_BadColours_BadStock, Lw.T.exm_BadColours_TooGreat, Lw.T.exm_BadLight_BadColour, Lw.T.exm_BadLight_BadColours, Lw.T.exm_BadLight_BadLight, Lw.T.exm_BadLight_BadStock, Lw.T.exm_BadLight_TooGreat, Lw.T.exm_BadStock_BadColour, Lw.T.exm_BadStock_BadColours, Lw.T.exm_BadStock_BadLight, Lw.T.exm_BadStock_BadStock, Lw.T.exm_BadStock_TooGreat, Lw.T.exm_TooGreat_BadColour, Lw.T.exm_TooGreat_BadColours, Lw.T.exm_TooGreat_BadLight, Lw.T.exm_TooGreat_BadStock, Lw.T.exm_TooGreat_TooGreat, Lw.T.gl_KINDS, Lw.T.gl_MOST_LEAST, Lw.T.gl_MOST_NUMBER, Lw.T.gl_MOST_ROW, Lw.T.gl_MOST_STOCK, Lw.T.gl_PARTS, Lw.T.sp_is_whole, *, O.walk, O.toD, O.toDs, O.flats, qt, List.getElem?_cons_zero, List.getElem?_cons_succ, List.set_cons_zero, List.set_cons_succ, List.map_cons, List.map_nil, List.cons_append, List.nil_append, List.append_nil, List.length_cons, List.length_nil, List.length_append, List.length_map, List.length_zip,  List.replicate, Option.bind_some, Option.bind_none, Option.map_some, Option.map_none, if_true, if_false, Bool.not_true, Bool.not_false, Bool.true_and, Bool.and_true, Bool.false_and, Bool.and_false, Bool.true_or, Bool.or_true, Bool.false_or, Bool.or_false, Bool.false_eq_true, Bool.and_self, and_self, true_and, and_true, decide_true, decide_false, Nat.zero_add, Nat.reduceAdd, Nat.reduceSub, Nat.reduceLeDiff, reduceCtorEq, Int.natCast_zero, Int.natCast_one, Int.cast_ofNat_Int, Int.reduceLT, Int.reduceLE, Int.reduceToNat, Int.reduceNeg, Int.reduceAdd, Int.reduceSub, Int.reducePow, Nat.reducePow, Int.reduceMul, Nat.reduceMul, List.reduceReplicate, List.flatten_cons, List.flatten_nil, ne_eq, not_false_eq_true, not_true_eq_false, List.cons_ne_nil])
local macro_rules | `(tactic| walk_at "evd") => `(tactic| try simp (disch := first | assumption | omega | (simp only [List.length_cons, List.length_nil, List.length_append, List.length_map, List.length_zip] <;> omega)) only [seval, Lw.ol_toD, Lw.ol_flat, Lw.ol_slice, Lw.ge_call, Lw.ge_glob, Lw.ge_wf, Lw.ge_exm, Lw.bsel_some, Lw.osel_some, Lw.osel_none, Lw.q_var, Lw.q_int, Lw.q_bl, Lw.q_non, Lw.q_str, Lw.q_glob, Lw.q_bin, Lw.q_not, Lw.q_and, Lw.q_or, Lw.q_one, Lw.q_cmp, Lw.q_chain, Lw.q_ifx, Lw.q_tup, Lw.q_lst, Lw.q_idx, Lw.q_slc, Lw.fsel_ok, Lw.fsel_exc, Lw.q_call, Lw.q_prim, Lw.q_isi, Lw.q_nox, Lw.noxE_ok, Lw.q_nil, Lw.q_cons, Lw.qB_nil, Lw.qB_one, Lw.qI_seqT, Lw.qI_seqF, Lw.qI_enumT, Lw.qI_enumF, Lw.qI_zipT, Lw.qI_zipF, Lw.ssel_nx, Lw.ssel_ret, Lw.ssel_exc, Lw.ssel_brk, Lw.ssel_ct, Lw.s_nil', Lw.s_seq', Lw.s_ret', Lw.s_retN', Lw.s_set', Lw.s_setc', Lw.s_unp', Lw.s_par2', Lw.s_par3', Lw.dsel_d, Lw.s_aug', Lw.s_exp', Lw.s_ife', Lw.s_rai', Lw.s_pass', Lw.s_doc', Lw.s_brk', Lw.s_cnt', Lw.xsel_exc, Lw.xsel_nx, Lw.xsel_ret, Lw.s_try', Lw.nox_nx, Lw.nox_ret, Lw.s_hd', Lw.s_hnil', Lw.tst_eq, Lw.cBody_eq, Lw.bind_ok2, Lw.bind_exc2, Lw.bind_stuck2, Lw.then_ok2, Lw.then_exc2, Lw.then_stuck2, Lw.ofOpt_some2, Lw.ofOpt_none2, Lw.ite_okh, Lw.ite_tm, Lw.ite_od, Lw.ite_bool, Lw.ite_int, Lw.isiD_eq, Lw.flat_lst, Lw.whole_int, Lw.ite_else_false, Lw.ite_then_true, Lw.ite_not_false, Lw.flat_d, Lw.eqD_int, Lw.eqD_str, Lw.boolsD_map, Lw.look_tm2, Lw.look_sl2, Lw.join_some2, Lw.lookD_eq, Lw.lookF_eq, Lw.opd_tm, Lw.opd_sl, Lw.boolOf_bool, Lw.bool_eq, Lw.sto_tm, Lw.sto_sl, Lw.esc_tm, Lw.esc_sl, Lw.esel_d, Lw.esel_ol, Lw.arg_eq, Lw.asel_scr, Lw.asel_d, Lw.asel_ol, Lw.asel_lst, Lw.argsO_nil, Lw.argsO_cons, Lw.escs_nil, Lw.escs_cons, Lw.stos_nil, Lw.stos_cons, Lw.looksD_nil, Lw.looksD_cons, Lw.looksF_nil, Lw.looksF_cons, Lw.partD_nil, Lw.intOf_int, Lw.partD_one, Lw.okD_eq, Lw.deep_tm, Lw.deep_sl, Lw.isB_int_none, Lw.isB_int_bool, Lw.isB_int_int, Lw.isB_int_str, Lw.isB_int_list, Lw.isB_int_tuple, Lw.isB_bool_none, Lw.isB_bool_bool, Lw.isB_bool_int, Lw.isB_bool_str, Lw.isB_bool_list, Lw.isB_bool_tuple, Lw.isB_str_none, Lw.isB_str_bool, Lw.isB_str_int, Lw.isB_str_str, Lw.isB_str_list, Lw.isB_str_tuple, Lw.isB_tuple_none, Lw.isB_tuple_bool, Lw.isB_tuple_int, Lw.isB_tuple_str, Lw.isB_tuple_list, Lw.isB_tuple_tuple, Lw.isB_list_none, Lw.isB_list_bool, Lw.isB_list_int, Lw.isB_list_str, Lw.isB_list_list, Lw.isB_list_tuple, Lw.whole_none, Lw.whole_bool, Lw.whole_str, Lw.whole_list, Lw.whole_tuple, Lw.primO_len, Lw.primO_int, Lw.primO_abs, Lw.primO_max, Lw.primO_min, Lw.primO_sum, Lw.primO_all, Lw.primO_any, Lw.primO_tuple, Lw.primO_list, Lw.primO_sorted, Lw.lenO_l, Lw.lenO_t, Lw.intO_i, Lw.absO_i, Lw.maxO_2, Lw.minO_2, Lw.sumO_l, Lw.sumO_t, Lw.allO_l, Lw.anyO_l, Lw.tupleO_l, Lw.tupleO_t, Lw.listO_l, Lw.listO_t, Lw.sortedO_l, Lw.bin_add, Lw.bin_sub, Lw.cmp_Eq, Lw.cmp_NotEq, Lw.cmp_Lt, Lw.cmp_LtE, Lw.cmp_Gt, Lw.cmp_GtE, Lw.cmp_In, Lw.cmp_NotIn, Lw.cmp_Is, Lw.cmp_IsNot, Lw.notNone_none, Lw.notNone_bool, Lw.notNone_int, Lw.notNone_str, Lw.notNone_list, Lw.notNone_tuple, Lw.ltD_int, Lw.leD_int, Lw.gtD_int, Lw.geD_int, Lw.idx_t, Lw.idx_l, Lw.items_l, Lw.items_t, Lw.slice_t, Lw.slice_dl, Lw.slice_scr, Lw.zsel_l, Lw.zsel_t, Lw.zsel_lt, Lw.zsel_tl, Lw.outF_ret, Lw.outF_nx, Lw.outF_exc, Lw.asgT_var, Lw.asgT_tup, Lw.asgTs_nil, Lw.asgTs_cons, Lw.wipe_nil, Lw.wipe_cons, Lw.quiet_nil, Lw.quiet_cons, Lw.quiet_none, Lw.quiet_d, Lw.quiet_jd, Lw.aug_add2, Lw.aug_sub2, Lw.q_neg2, Lw.revO_t, Lw.revO_l, Lw.q_rev2, Lw.listOf_l, Lw.q_sset2, Lw.qI_rng1', Lw.rgsel_2, Lw.qI_rng2', Lw.bin_mul1, Lw.bin_mul3, Lw.bin_fdiv1, Lw.bin_fdiv2, Lw.bin_mod1, Lw.aug_mul1, Lw.bin_addT1, Lw.bin_addL1, Lw.bin_mulL1, Lw.bin_mulT1, Lw.ix_pos, Lw.ix_neg, Lw.lenOk_ok, Lw.rgD_ok', Lw.eqD_ints, Lw.eqD_tints, Lw.sliceD_from, Lw.sliceD_to, Lw.ltD_tints, Lw.leD_tints, Lw.ol_nil', Lw.ol_one', Lw.ol_two', Lw.ol_three', Lw.ol_four', Lw.ol_five', Lw.bin_pow1, Lw.lsel_ol, Lw.q_mth, Lw.appS_ok, Lw.mth_app, Lw.mth_ext, Lw.mth_extd, Lw.T.exm_BadColour_BadColour, Lw.T.exm_BadColour_BadColours, Lw.T.exm_BadColour_BadLight, Lw.T.exm_BadColour_BadStock, Lw.T.exm_BadColour_TooGreat, Lw.T.exm_BadColours_BadColour, Lw.T.exm_BadColours_BadColours, Lw.T.exm_BadColours_BadLight, Lw.T.exm_BadColours_BadStock, Lw.T.exm_BadColours_TooGreat, Lw.T.exm_BadLight_BadColour, Lw.T.exm_BadLight_BadColours, Lw.T.exm_BadLight_BadLight, Lw.T.exm_BadLight_BadStock, Lw.T.exm_BadLight_TooGreat, Lw.T.exm_BadStock_BadColour, Lw.T.exm_BadStock_BadColours, Lw.T.exm_BadStock_BadLight, Lw.T.exm_BadStock_BadStock, Lw.T.exm_BadStock_TooGreat, Lw.T.exm_TooGreat_BadColour, Lw.T.exm_TooGreat_BadColours, Lw.T.exm_TooGreat_BadLight, Lw.T.exm_TooGreat_BadStock, Lw.T.exm_TooGreat_TooGreat, Lw.T.gl_KINDS, Lw.T.gl_MOST_LEAST, Lw.T.gl_MOST_NUMBER, Lw.T.gl_MOST_ROW, Lw.T.gl_MOST_STOCK, Lw.T.gl_PARTS, Lw.T.sp_is_whole, dec_yes, dec_no, O.walk, O.toD, O.toDs, O.flats, qt, List.getElem?_cons_zero, List.getElem?_cons_succ, List.set_cons_zero, List.set_cons_succ, List.map_cons, List.map_nil, List.cons_append, List.nil_append, List.append_nil, List.length_cons, List.length_nil, List.length_append, List.length_map, List.length_zip,  List.replicate, Option.bind_some, Option.bind_none, Option.map_some, Option.map_none, if_true, if_false, Bool.not_true, Bool.not_false, Bool.true_and, Bool.and_true, Bool.false_and, Bool.and_false, Bool.true_or, Bool.or_true, Bool.false_or, Bool.or_false, Bool.false_eq_true, Bool.and_self, and_self, true_and, and_true, decide_true, decide_false, Nat.zero_add, Nat.reduceAdd, Nat.reduceSub, Nat.reduceLeDiff, reduceCtorEq, Int.natCast_zero, Int.natCast_one, Int.cast_ofNat_Int, Int.reduceLT, Int.reduceLE, Int.reduceToNat, Int.reduceNeg, Int.reduceAdd, Int.reduceSub, Int.reducePow, Nat.reducePow, Int.reduceMul, Nat.reduceMul, List.reduceReplicate, List.flatten_cons, List.flatten_nil, ne_eq, not_false_eq_true, not_true_eq_false, List.cons_ne_nil])
def isColour (x : PyData) : Bool := match x with
  | .tuple xs => decide (xs.length = 3) && xs.all (fun y => whole y 0 16)
  | _ => false
theorem sp_is_colour (l : Nat) (x : PyData) : callN base (l + 2) 3 [.d x] = .ok (.d (.bool (isColour x))) [] := by
  rw [callN_eq t_is_colour rfl]
  cases x <;> (unfold r3 b3; walk_at "ev"; try rfl)
  rename_i xs
  by_cases h : xs.length = 3
  · have hc : ev (base.ge (l + 1)) e_is_colour_0 [some (.d (.tuple xs)), none] = .ok (.tm (ol (xs.map fun y => .bool (whole y 0 16)))) [some (.d (.tuple xs)), none] := by
      refine ev_map id xs _ ?_ rfl rfl (by omega) fun a ha => ?_
      · rw [List.map_id]; walk_at "ev"
      · unfold id; walk_at "ev"; skip
    walk_at "ev"
    simp only [hc]; walk_at "ev"
    simp [isColour, h]
  · walk_at "ev"
    have h' : ¬ ((xs.length : Int) = 3) := by omega
    simp only [h', decide_false]; walk_at "ev"
    simp [isColour, h]

local macro_rules | `(tactic| walk_at "ev") => `(tactic| try simp (disch := first | assumption | omega | (simp only [List.length_cons, List.length_nil, List.length_append, List.length_map, List.length_zip] <;> omega)) only [seval, Lw.ol_toD, Lw.ol_flat, Lw.ol_slice, Lw.ge_call, Lw.ge_glob, Lw.ge_wf, Lw.ge_exm, Lw.bsel_some, Lw.osel_some, Lw.osel_none, Lw.q_var, Lw.q_int, Lw.q_bl, Lw.q_non, Lw.q_str, Lw.q_glob, Lw.q_bin, Lw.q_not, Lw.q_and, Lw.q_or, Lw.q_one, Lw.q_cmp, Lw.q_chain, Lw.q_ifx, Lw.q_tup, Lw.q_lst, Lw.q_idx, Lw.q_slc, Lw.fsel_ok, Lw.fsel_exc, Lw.q_call, Lw.q_prim, Lw.q_isi, Lw.q_nox, Lw.noxE_ok, Lw.q_nil, Lw.q_cons, Lw.qB_nil, Lw.qB_one, Lw.qI_seqT, Lw.qI_seqF, Lw.qI_enumT, Lw.qI_enumF, Lw.qI_zipT, Lw.qI_zipF, Lw.ssel_nx, Lw.ssel_ret, Lw.ssel_exc, Lw.ssel_brk, Lw.ssel_ct, Lw.s_nil', Lw.s_seq', Lw.s_ret', Lw.s_retN', Lw.s_set', Lw.s_setc', Lw.s_unp', Lw.s_par2', Lw.s_par3', Lw.dsel_d, Lw.s_aug', Lw.s_exp', Lw.s_ife', Lw.s_rai', Lw.s_pass', Lw.s_doc', Lw.s_brk', Lw.s_cnt', Lw.xsel_exc, Lw.xsel_nx, Lw.xsel_ret, Lw.s_try', Lw.nox_nx, Lw.nox_ret, Lw.s_hd', Lw.s_hnil', Lw.tst_eq, Lw.cBody_eq, Lw.bind_ok2, Lw.bind_exc2, Lw.bind_stuck2, Lw.then_ok2, Lw.then_exc2, Lw.then_stuck2, Lw.ofOpt_some2, Lw.ofOpt_none2, Lw.ite_okh, Lw.ite_tm, Lw.ite_od, Lw.ite_bool, Lw.ite_int, Lw.isiD_eq, Lw.flat_lst, Lw.whole_int, Lw.ite_else_false, Lw.ite_then_true, Lw.ite_not_false, Lw.flat_d, Lw.eqD_int, Lw.eqD_str, Lw.boolsD_map, Lw.look_tm2, Lw.look_sl2, Lw.join_some2, Lw.lookD_eq, Lw.lookF_eq, Lw.opd_tm, Lw.opd_sl, Lw.boolOf_bool, Lw.bool_eq, Lw.sto_tm, Lw.sto_sl, Lw.esc_tm, Lw.esc_sl, Lw.esel_d, Lw.esel_ol, Lw.arg_eq, Lw.asel_scr, Lw.asel_d, Lw.asel_ol, Lw.asel_lst, Lw.argsO_nil, Lw.argsO_cons, Lw.escs_nil, Lw.escs_cons, Lw.stos_nil, Lw.stos_cons, Lw.looksD_nil, Lw.looksD_cons, Lw.looksF_nil, Lw.looksF_cons, Lw.partD_nil, Lw.intOf_int, Lw.partD_one, Lw.okD_eq, Lw.deep_tm, Lw.deep_sl, Lw.isB_int_none, Lw.isB_int_bool, Lw.isB_int_int, Lw.isB_int_str, Lw.isB_int_list, Lw.isB_int_tuple, Lw.isB_bool_none, Lw.isB_bool_bool, Lw.isB_bool_int, Lw.isB_bool_str, Lw.isB_bool_list, Lw.isB_bool_tuple, Lw.isB_str_none, Lw.isB_str_bool, Lw.isB_str_int, Lw.isB_str_str, Lw.isB_str_list, Lw.isB_str_tuple, Lw.isB_tuple_none, Lw.isB_tuple_bool, Lw.isB_tuple_int, Lw.isB_tuple_str, Lw.isB_tuple_list, Lw.isB_tuple_tuple, Lw.isB_list_none, Lw.isB_list_bool, Lw.isB_list_int, Lw.isB_list_str, Lw.isB_list_list, Lw.isB_list_tuple, Lw.whole_none, Lw.whole_bool, Lw.whole_str, Lw.whole_list, Lw.whole_tuple, Lw.primO_len, Lw.primO_int, Lw.primO_abs, Lw.primO_max, Lw.primO_min, Lw.primO_sum, Lw.primO_all, Lw.primO_any, Lw.primO_tuple, Lw.primO_list, Lw.primO_sorted, Lw.lenO_l, Lw.lenO_t, Lw.intO_i, Lw.absO_i, Lw.maxO_2, Lw.minO_2, Lw.sumO_l, Lw.sumO_t, Lw.allO_l, Lw.anyO_l, Lw.tupleO_l, Lw.tupleO_t, Lw.listO_l, Lw.listO_t, Lw.sortedO_l, Lw.bin_add, Lw.bin_sub, Lw.cmp_Eq, Lw.cmp_NotEq, Lw.cmp_Lt, Lw.cmp_LtE, Lw.cmp_Gt, Lw.cmp_GtE, Lw.cmp_In, Lw.cmp_NotIn, Lw.cmp_Is, Lw.cmp_IsNot, Lw.notNone_none, Lw.notNone_bool, Lw.notNone_int, Lw.notNone_str, Lw.notNone_list, Lw.notNone_tuple, Lw.ltD_int, Lw.leD_int, Lw.gtD_int, Lw.geD_int, Lw.idx_t, Lw.idx_l, Lw.items_l, Lw.items_t, Lw.slice_t, Lw.slice_dl, Lw.slice_scr, Lw.zsel_l, Lw.zsel_t, Lw.zsel_lt, Lw.zsel_tl, Lw.outF_ret, Lw.outF_nx, Lw.outF_exc, Lw.asgT_var, Lw.asgT_tup, Lw.asgTs_nil, Lw.asgTs_cons, Lw.wipe_nil, Lw.wipe_cons, Lw.quiet_nil, Lw.quiet_cons, Lw.quiet_none, Lw.quiet_d, Lw.quiet_jd, Lw.aug_add2, Lw.aug_sub2, Lw.q_neg2, Lw.revO_t, Lw.revO_l, Lw.q_rev2, Lw.listOf_l, Lw.q_sset2, Lw.qI_rng1', Lw.rgsel_2, Lw.qI_rng2', Lw.bin_mul1, Lw.bin_mul3, Lw.bin_fdiv1, Lw.bin_fdiv2, Lw.bin_mod1, Lw.aug_mul1, Lw.bin_addT1, Lw.bin_addL1, Lw.bin_mulL1, Lw.bin_mulT1, Lw.ix_pos, Lw.ix_neg, Lw.lenOk_ok, Lw.rgD_ok', Lw.eqD_ints, Lw.eqD_tints, Lw.sliceD_from, Lw.sliceD_to, Lw.ltD_tints, Lw.leD_tints, Lw.ol_nil', Lw.ol_one', Lw.ol_two', Lw.ol_three', Lw.ol_four', Lw.ol_five', Lw.bin_pow1, Lw.lsel_ol, Lw.q_mth, Lw.appS_ok, Lw.mth_app, Lw.mth_ext, Lw.mth_extd, Lw.T.exm_BadColour_BadColour, Lw.T.exm_BadColour_BadColours, Lw.T.exm_BadColour_BadLight, Lw.T.exm_BadColour_BadStock, Lw.T.exm_BadColour_TooGreat, Lw.T.exm_BadColours_BadColour, Lw.T.exm_BadColours_BadColours, Lw.T.exm_BadColours_BadLight, Lw.T.exm_BadColours_BadStock, Lw.T.exm_BadColours_TooGreat, Lw.T.exm_BadLight_BadColour, Lw.T.exm_BadLight_BadColours, Lw.T.exm_BadLight_BadLight, Lw.T.exm_BadLight_BadStock, Lw.T.exm_BadLight_TooGreat, Lw.T.exm_BadStock_BadColour, Lw.T.exm_BadStock_BadColours, Lw.T.exm_BadStock_BadLight, Lw.T.exm_BadStock_BadStock, Lw.T.exm_BadStock_TooGreat, Lw.T.exm_TooGreat_BadColour, Lw.T.exm_TooGreat_BadColours, Lw.T.exm_TooGreat_BadLight, Lw.T.exm_TooGreat_BadStock, Lw.T.exm_TooGreat_TooGreat, Lw.T.gl_KINDS, Lw.T.gl_MOST_LEAST, Lw.T.gl_MOST_NUMBER, Lw.T.gl_MOST_ROW, Lw.T.gl_MOST_STOCK, Lw.T.gl_PARTS, Lw.T.sp_is_whole, Lw.T.sp_is_colour, O.walk, O.toD, O.toDs, O.flats, qt, List.getElem?_cons_zero, List.getElem?_cons_succ, List.set_cons_zero, List.set_cons_succ, List.map_cons, List.map_nil, List.cons_append, List.nil_append, List.append_nil, List.length_cons, List.length_nil, List.length_append, List.length_map, List.length_zip,  List.replicate, Option.bind_some, Option.bind_none, Option.map_some, Option.map_none, if_true, if_false, Bool.not_true, Bool.not_false, Bool.true_and, Bool.and_true, Bool.false_and, Bool.and_false, Bool.true_or, Bool.or_true, Bool.false_or, Bool.or_false, Bool.false_eq_true, Bool.and_self, and_self, true_and, and_true, decide_true, decide_false, Nat.zero_add, Nat.reduceAdd, Nat.reduceSub, Nat.reduceLeDiff, reduceCtorEq, Int.natCast_zero, Int.natCast_one, Int.cast_ofNat_Int, Int.reduceLT, Int.reduceLE, Int.reduceToNat, Int.reduceNeg, Int.reduceAdd, Int.reduceSub, Int.reducePow, Nat.reducePow, Int.reduceMul, Nat.reduceMul, List.reduceReplicate, List.flatten_cons, List.flatten_nil, ne_eq, not_false_eq_true, not_true_eq_false, List.cons_ne_nil])
local macro_rules | `(tactic| walk_at "ev!") => `(tactic| try simp (disch := first | assumption | omega | (simp only [List.length_cons, List.length_nil, List.length_append, List.length_map, List.length_zip] <;> omega)) only [seval, Lw.ol_toD, Lw.ol_flat, Lw.ol_slice, Lw.ge_call, Lw.ge_glob, Lw.ge_wf, Lw.ge_exm, Lw.bsel_some, Lw.osel_some, Lw.osel_none, Lw.q_var, Lw.q_int, Lw.q_bl, Lw.q_non, Lw.q_str, Lw.q_glob, Lw.q_bin, Lw.q_not, Lw.q_and, Lw.q_or, Lw.q_one, Lw.q_cmp, Lw.q_chain, Lw.q_ifx, Lw.q_tup, Lw.q_lst, Lw.q_idx, Lw.q_slc, Lw.fsel_ok, Lw.fsel_exc, Lw.q_call, Lw.q_prim, Lw.q_isi, Lw.q_nox, Lw.noxE_ok, Lw.q_nil, Lw.q_cons, Lw.qB_nil, Lw.qB_one, Lw.qI_seqT, Lw.qI_seqF, Lw.qI_enumT, Lw.qI_enumF, Lw.qI_zipT, Lw.qI_zipF, Lw.ssel_nx, Lw.ssel_ret, Lw.ssel_exc, Lw.ssel_brk, Lw.ssel_ct, Lw.s_nil', Lw.s_seq', Lw.s_ret', Lw.s_retN', Lw.s_set', Lw.s_setc', Lw.s_unp', Lw.s_par2', Lw.s_par3', Lw.dsel_d, Lw.s_aug', Lw.s_exp', Lw.s_ife', Lw.s_rai', Lw.s_pass', Lw.s_doc', Lw.s_brk', Lw.s_cnt', Lw.xsel_exc, Lw.xsel_nx, Lw.xsel_ret, Lw.s_try', Lw.nox_nx, Lw.nox_ret, Lw.s_hd', Lw.s_hnil', Lw.tst_eq, Lw.cBody_eq, Lw.bind_ok2, Lw.bind_exc2, Lw.bind_stuck2, Lw.then_ok2, Lw.then_exc2, Lw.then_stuck2, Lw.ofOpt_some2, Lw.ofOpt_none2, Lw.ite_okh, Lw.ite_tm, Lw.ite_od, Lw.ite_bool, Lw.ite_int, Lw.isiD_eq, Lw.flat_lst, Lw.whole_int, Lw.ite_else_false, Lw.ite_then_true, Lw.ite_not_false, Lw.flat_d, Lw.eqD_int, Lw.eqD_str, Lw.boolsD_map, Lw.look_tm2, Lw.look_sl2, Lw.join_some2, Lw.lookD_eq, Lw.lookF_eq, Lw.opd_tm, Lw.opd_sl, Lw.boolOf_bool, Lw.bool_eq, Lw.sto_tm, Lw.sto_sl, Lw.esc_tm, Lw.esc_sl, Lw.esel_d, Lw.esel_ol, Lw.arg_eq, Lw.asel_scr, Lw.asel_d, Lw.asel_ol, Lw.asel_lst, Lw.argsO_nil, Lw.argsO_cons, Lw.escs_nil, Lw.escs_cons, Lw.stos_nil, Lw.stos_cons, Lw.looksD_nil, Lw.looksD_cons, Lw.looksF_nil, Lw.looksF_cons, Lw.partD_nil, Lw.intOf_int, Lw.partD_one, Lw.okD_eq, Lw.deep_tm, Lw.deep_sl, Lw.isB_int_none, Lw.isB_int_bool, Lw.isB_int_int, Lw.isB_int_str, Lw.isB_int_list, Lw.isB_int_tuple, Lw.isB_bool_none, Lw.isB_bool_bool, Lw.isB_bool_int, Lw.isB_bool_str, Lw.isB_bool_list, Lw.isB_bool_tuple, Lw.isB_str_none, Lw.isB_str_bool, Lw.isB_str_int, Lw.isB_str_str, Lw.isB_str_list, Lw.isB_str_tuple, Lw.isB_tuple_none, Lw.isB_tuple_bool, Lw.isB_tuple_int, Lw.isB_tuple_str, Lw.isB_tuple_list, Lw.isB_tuple_tuple, Lw.isB_list_none, Lw.isB_list_bool, Lw.isB_list_int, Lw.isB_list_str, Lw.isB_list_list, Lw.isB_list_tuple, Lw.whole_none, Lw.whole_bool, Lw.whole_str, Lw.whole_list, Lw.whole_tuple, Lw.primO_len, Lw.primO_int, Lw.primO_abs, Lw.primO_max, Lw.primO_min, Lw.primO_sum, Lw.primO_all, Lw.primO_any, Lw.primO_tuple, Lw.primO_list, Lw.primO_sorted, Lw.lenO_l, Lw.lenO_t, Lw.intO_i, Lw.absO_i, Lw.maxO_2, Lw.minO_2, Lw.sumO_l, Lw.sumO_t, Lw.allO_l, Lw.anyO_l, Lw.tupleO_l, Lw.tupleO_t, Lw.listO_l, Lw.listO_t, Lw.sortedO_l, Lw.bin_add, Lw.bin_sub, Lw.cmp_Eq, Lw.cmp_NotEq, Lw.cmp_Lt, Lw.cmp_LtE, Lw.cmp_Gt, Lw.cmp_GtE, Lw.cmp_In, Lw.cmp_NotIn, Lw.cmp_Is, Lw.cmp_IsNot, Lw.notNone_none, Lw.notNone_bool, Lw.notNone_int, Lw.notNone_str, Lw.notNone_list, Lw.notNone_tuple, Lw.ltD_int, Lw.leD_int, Lw.gtD_int, Lw.geD_int, Lw.idx_t, Lw.idx_l, Lw.items_l, Lw.items_t, Lw.slice_t, Lw.slice_dl, Lw.slice_scr, Lw.zsel_l, Lw.zsel_t, Lw.zsel_lt, Lw.zsel_tl, Lw.outF_ret, Lw.outF_nx, Lw.outF_exc, Lw.asgT_var, Lw.asgT_tup, Lw.asgTs_nil, Lw.asgTs_cons, Lw.wipe_nil, Lw.wipe_cons, Lw.quiet_nil, Lw.quiet_cons, Lw.quiet_none, Lw.quiet_d, Lw.quiet_jd, Lw.aug_add2, Lw.aug_sub2, Lw.q_neg2, Lw.revO_t, Lw.revO_l, Lw.q_rev2, Lw.listOf_l, Lw.q_sset2, Lw.qI_rng1', Lw.rgsel_2, Lw.qI_rng2', Lw.bin_mul1, Lw.bin_mul3, Lw.bin_fdiv1, Lw.bin_fdiv2, Lw.bin_mod1, Lw.aug_mul1, Lw.bin_addT1, Lw.bin_addL1, Lw.bin_mulL1, Lw.bin_mulT1, Lw.ix_pos, Lw.ix_neg, Lw.lenOk_ok, Lw.rgD_ok', Lw.eqD_ints, Lw.eqD_tints, Lw.sliceD_from, Lw.sliceD_to, Lw.ltD_tints, Lw.leD_tints, Lw.ol_nil', Lw.ol_one', Lw.ol_two', Lw.ol_three', Lw.ol_four', Lw.ol_five', Lw.bin_pow1, Lw.lsel_ol, Lw.q_mth, Lw.appS_ok, Lw.mth_app, Lw.mth_ext, Lw.mth_extd, Lw.T.exm_BadColour_BadColour, Lw.T.exm_BadColour_BadColours, Lw.T.exm_BadColour_BadLight, Lw.T.exm_BadColour_BadStock, Lw.T.exm_BadColour_TooGreat, Lw.T.exm_BadColours_BadColour, Lw.T.exm_BadColours_BadColours, Lw.T.exm_BadColours_BadLight, Lw.T.exm_BadColours_BadStock, Lw.T.exm_BadColours_TooGreat, Lw.T.exm_BadLight_BadColour, Lw.T.exm_BadLight_BadColours, Lw.T.exm_BadLight_BadLight, Lw.T.exm_BadLight_BadStock, Lw.T.exm_BadLight_TooGreat, Lw.T.exm_BadStock_BadColour, Lw.T.exm_BadStock_BadColours, Lw.T.exm_BadStock_BadLight, Lw.T.exm_BadStock_BadStock, Lw.T.exm_BadStock_TooGreat, Lw.T.exm_TooGreat_BadColour, Lw.T.exm_TooGreat_BadColours, Lw.T.exm_TooGreat_BadLight, Lw.T.exm_TooGreat_BadStock, Lw.T.exm_TooGreat_TooGreat, Lw.T.gl_KINDS, Lw.T.gl_MOST_LEAST, Lw.T.gl_MOST_NUMBER, Lw.T.gl_MOST_ROW, Lw.T.gl_MOST_STOCK, Lw.T.gl_PARTS, Lw.T.sp_is_whole, Lw.T.sp_is_colour, *, O.walk, O.toD, O.toDs, O.flats, qt, List.getElem?_cons_zero, List.getElem?_cons_succ, List.set_cons_zero, List.set_cons_succ, List.map_cons, List.map_nil, List.cons_append, List.nil_append, List.append_nil, List.length_cons, List.length_nil, List.length_append, List.length_map, List.length_zip,  List.replicate, Option.bind_some, Option.bind_none, Option.map_some, Option.map_none, if_true, if_false, Bool.not_true, Bool.not_false, Bool.true_and, Bool.and_true, Bool.false_and, Bool.and_false, Bool.true_or, Bool.or_true, Bool.false_or, Bool.or_false, Bool.false_eq_true, Bool.and_self, and_self, true_and, and_true, decide_true, decide_false, Nat.zero_add, Nat.reduceAdd, Nat.reduceSub, Nat.reduceLeDiff, reduceCtorEq, Int.natCast_zero, Int.natCast_one, Int.cast_ofNat_Int, Int.reduceLT, Int.reduceLE, Int.reduceToNat, Int.reduceNeg, Int.reduceAdd, Int.reduceSub, Int.reducePow, Nat.reducePow, Int.reduceMul, Nat.reduceMul, List.reduceReplicate, List.flatten_cons, List.flatten_nil, ne_eq, not_false_eq_true, not_true_eq_false, List.cons_ne_nil])
local macro_rules | `(tactic| walk_at "evd") => `(tactic| try simp (disch := first | assumption | omega | (simp only [List.length_cons, List.length_nil, List.length_append, List.length_map, List.length_zip] <;> omega)) only [seval, Lw.ol_toD, Lw.ol_flat, Lw.ol_slice, Lw.ge_call, Lw.ge_glob, Lw.ge_wf, Lw.ge_exm, Lw.bsel_some, Lw.osel_some, Lw.osel_none, Lw.q_var, Lw.q_int, Lw.q_bl, Lw.q_non, Lw.q_str, Lw.q_glob, Lw.q_bin, Lw.q_not, Lw.q_and, Lw.q_or, Lw.q_one, Lw.q_cmp, Lw.q_chain, Lw.q_ifx, Lw.q_tup, Lw.q_lst, Lw.q_idx, Lw.q_slc, Lw.fsel_ok, Lw.fsel_exc, Lw.q_call, Lw.q_prim, Lw.q_isi, Lw.q_nox, Lw.noxE_ok, Lw.q_nil, Lw.q_cons, Lw.qB_nil, Lw.qB_one, Lw.qI_seqT, Lw.qI_seqF, Lw.qI_enumT, Lw.qI_enumF, Lw.qI_zipT, Lw.qI_zipF, Lw.ssel_nx, Lw.ssel_ret, Lw.ssel_exc, Lw.ssel_brk, Lw.ssel_ct, Lw.s_nil', Lw.s_seq', Lw.s_ret', Lw.s_retN', Lw.s_set', Lw.s_setc', Lw.s_unp', Lw.s_par2', Lw.s_par3', Lw.dsel_d, Lw.s_aug', Lw.s_exp', Lw.s_ife', Lw.s_rai', Lw.s_pass', Lw.s_doc', Lw.s_brk', Lw.s_cnt', Lw.xsel_exc, Lw.xsel_nx, Lw.xsel_ret, Lw.s_try', Lw.nox_nx, Lw.nox_ret, Lw.s_hd', Lw.s_hnil', Lw.tst_eq, Lw.cBody_eq, Lw.bind_ok2, Lw.bind_exc2, Lw.bind_stuck2, Lw.then_ok2, Lw.then_exc2, Lw.then_stuck2, Lw.ofOpt_some2, Lw.ofOpt_none2, Lw.ite_okh, Lw.ite_tm, Lw.ite_od, Lw.ite_bool, Lw.ite_int, Lw.isiD_eq, Lw.flat_lst, Lw.whole_int, Lw.ite_else_false, Lw.ite_then_true, Lw.ite_not_false, Lw.flat_d, Lw.eqD_int, Lw.eqD_str, Lw.boolsD_map, Lw.look_tm2, Lw.look_sl2, Lw.join_some2, Lw.lookD_eq, Lw.lookF_eq, Lw.opd_tm, Lw.opd_sl, Lw.boolOf_bool, Lw.bool_eq, Lw.sto_tm, Lw.sto_sl, Lw.esc_tm, Lw.esc_sl, Lw.esel_d, Lw.esel_ol, Lw.arg_eq, Lw.asel_scr, Lw.asel_d, Lw.asel_ol, Lw.asel_lst, Lw.argsO_nil, Lw.argsO_cons, Lw.escs_nil, Lw.escs_cons, Lw.stos_nil, Lw.stos_cons, Lw.looksD_nil, Lw.looksD_cons, Lw.looksF_nil, Lw.looksF_cons, Lw.partD_nil, Lw.intOf_int, Lw.partD_one, Lw.okD_eq, Lw.deep_tm, Lw.deep_sl, Lw.isB_int_none, Lw.isB_int_bool, Lw.isB_int_int, Lw.isB_int_str, Lw.isB_int_list, Lw.isB_int_tuple, Lw.isB_bool_none, Lw.isB_bool_bool, Lw.isB_bool_int, Lw.isB_bool_str, Lw.isB_bool_list, Lw.isB_bool_tuple, Lw.isB_str_none, Lw.isB_str_bool, Lw.isB_str_int, Lw.isB_str_str, Lw.isB_str_list, Lw.isB_str_tuple, Lw.isB_tuple_none, Lw.isB_tuple_bool, Lw.isB_tuple_int, Lw.isB_tuple_str, Lw.isB_tuple_list, Lw.isB_tuple_tuple, Lw.isB_list_none, Lw.isB_list_bool, Lw.isB_list_int, Lw.isB_list_str, Lw.isB_list_list, Lw.isB_list_tuple, Lw.whole_none, Lw.whole_bool, Lw.whole_str, Lw.whole_list, Lw.whole_tuple, Lw.primO_len, Lw.primO_int, Lw.primO_abs, Lw.primO_max, Lw.primO_min, Lw.primO_sum, Lw.primO_all, Lw.primO_any, Lw.primO_tuple, Lw.primO_list, Lw.primO_sorted, Lw.lenO_l, Lw.lenO_t, Lw.intO_i, Lw.absO_i, Lw.maxO_2, Lw.minO_2, Lw.sumO_l, Lw.sumO_t, Lw.allO_l, Lw.anyO_l, Lw.tupleO_l, Lw.tupleO_t, Lw.listO_l, Lw.listO_t, Lw.sortedO_l, Lw.bin_add, Lw.bin_sub, Lw.cmp_Eq, Lw.cmp_NotEq, Lw.cmp_Lt, Lw.cmp_LtE, Lw.cmp_Gt, Lw.cmp_GtE, Lw.cmp_In, Lw.cmp_NotIn, Lw.cmp_Is, Lw.cmp_IsNot, Lw.notNone_none, Lw.notNone_bool, Lw.notNone_int, Lw.notNone_str, Lw.notNone_list, Lw.notNone_tuple, Lw.ltD_int, Lw.leD_int, Lw.gtD_int, Lw.geD_int, Lw.idx_t, Lw.idx_l, Lw.items_l, Lw.items_t, Lw.slice_t, Lw.slice_dl, Lw.slice_scr, Lw.zsel_l, Lw.zsel_t, Lw.zsel_lt, Lw.zsel_tl, Lw.outF_ret, Lw.outF_nx, Lw.outF_exc, Lw.asgT_var, Lw.asgT_tup, Lw.asgTs_nil, Lw.asgTs_cons, Lw.wipe_nil, Lw.wipe_cons, Lw.quiet_nil, Lw.quiet_cons, Lw.quiet_none, Lw.quiet_d, Lw.quiet_jd, Lw.aug_add2, Lw.aug_sub2, Lw.q_neg2, Lw.revO_t, Lw.revO_l, Lw.q_rev2, Lw.listOf_l, Lw.q_sset2, Lw.qI_rng1', Lw.rgsel_2, Lw.qI_rng2', Lw.bin_mul1, Lw.bin_mul3, Lw.bin_fdiv1, Lw.bin_fdiv2, Lw.bin_mod1, Lw.aug_mul1, Lw.bin_addT1, Lw.bin_addL1, Lw.bin_mulL1, Lw.bin_mulT1, Lw.ix_pos, Lw.ix_neg, Lw.lenOk_ok, Lw.rgD_ok', Lw.eqD_ints, Lw.eqD_tints, Lw.sliceD_from, Lw.sliceD_to, Lw.ltD_tints, Lw.leD_tints, Lw.ol_nil', Lw.ol_one', Lw.ol_two', Lw.ol_three', Lw.ol_four', Lw.ol_five', Lw.bin_pow1, Lw.lsel_ol, Lw.q_mth, Lw.appS_ok, Lw.mth_app, Lw.mth_ext, Lw.mth_extd, Lw.T.exm_BadColour_BadColour, Lw.T.exm_BadColour_BadColours, Lw.T.exm_BadColour_BadLight, Lw.T.exm_BadColour_BadStock, Lw.T.exm_BadColour_TooGreat, Lw.T.exm_BadColours_BadColour, Lw.T.exm_BadColours_BadColours, Lw.T.exm_BadColours_BadLight, Lw.T.exm_BadColours_BadStock, Lw.T.exm_BadColours_TooGreat, Lw.T.exm_BadLight_BadColour, Lw.T.exm_BadLight_BadColours, Lw.T.exm_BadLight_BadLight, Lw.T.exm_BadLight_BadStock, Lw.T.exm_BadLight_TooGreat, Lw.T.exm_BadStock_BadColour, Lw.T.exm_BadStock_BadColours, Lw.T.exm_BadStock_BadLight, Lw.T.exm_BadStock_BadStock, Lw.T.exm_BadStock_TooGreat, Lw.T.exm_TooGreat_BadColour, Lw.T.exm_TooGreat_BadColours, Lw.T.exm_TooGreat_BadLight, Lw.T.exm_TooGreat_BadStock, Lw.T.exm_TooGreat_TooGreat, Lw.T.gl_KINDS, Lw.T.gl_MOST_LEAST, Lw.T.gl_MOST_NUMBER, Lw.T.gl_MOST_ROW, Lw.T.gl_MOST_STOCK, Lw.T.gl_PARTS, Lw.T.sp_is_whole, Lw.T.sp_is_colour, dec_yes, dec_no, O.walk, O.toD, O.toDs, O.flats, qt, List.getElem?_cons_zero, List.getElem?_cons_succ, List.set_cons_zero, List.set_cons_succ, List.map_cons, List.map_nil, List.cons_append, List.nil_append, List.append_nil, List.length_cons, List.length_nil, List.length_append, List.length_map, List.length_zip,  List.replicate, Option.bind_some, Option.bind_none, Option.map_some, Option.map_none, if_true, if_false, Bool.not_true, Bool.not_false, Bool.true_and, Bool.and_true, Bool.false_and, Bool.and_false, Bool.true_or, Bool.or_true, Bool.false_or, Bool.or_false, Bool.false_eq_true, Bool.and_self, and_self, true_and, and_true, decide_true, decide_false, Nat.zero_add, Nat.reduceAdd, Nat.reduceSub, Nat.reduceLeDiff, reduceCtorEq, Int.natCast_zero, Int.natCast_one, Int.cast_ofNat_Int, Int.reduceLT, Int.reduceLE, Int.reduceToNat, Int.reduceNeg, Int.reduceAdd, Int.reduceSub, Int.reducePow, Nat.reducePow, Int.reduceMul, Nat.reduceMul, List.reduceReplicate, List.flatten_cons, List.flatten_nil, ne_eq, not_false_eq_true, not_true_eq_false, List.cons_ne_nil])
theorem sp_divisor (l : Nat) (a b : Int) (ha : 0 ≤ a) (hb : 0 ≤ b) (hw : b < 10 ^ 300) : callN base (l + 1) 2 [.d (.int a), .d (.int b)] = .ok (.d (.int (Int.gcd a b))) [] := by
  rw [callN_eq t_divisor rfl]
  unfold r2 b2
  have hl : ∃ ro', ex (base.ge l) w_divisor_0 [some (.d (.int a)), some (.d (.int b))] = .nx ro' ∧ ∃ y, ro' = [some (.d (.int (Int.gcd a b))), y] := by
    unfold w_divisor_0
    rw [s_whl', ge_wf, base_wf]
    refine wLoop_ind (fun m ro => ∃ x y : Int, 0 ≤ x ∧ 0 ≤ y ∧ y.toNat = m ∧ Int.gcd x y = Int.gcd a b ∧ ro = [some (.d (.int x)), some (.d (.int y))]) ?_ _ b.toNat _ (wf_int hw) ⟨a, b, ha, hb, rfl, rfl, rfl⟩
    rintro m ro ⟨x, y, hx, hy, hm, hg, rfl⟩
    by_cases h : 0 < y
    · refine .inr ⟨?_, [some (.d (.int y)), some (.d (.int (x % y)))], (x % y).toNat, ?_, ?_, y, x % y, hy, Int.emod_nonneg _ (by omega), rfl, ?_, rfl⟩
      · walk_at "ev"; try simp [h]
      · walk_at "ev"
      · have := Int.emod_lt_of_pos x h; omega
      · rw [gcd_step hx h, hg]
    · refine .inl ⟨?_, some (.d (.int y)), ?_⟩
      · walk_at "ev"; try simp [h]
      · have : y = 0 := by omega
        subst this
        have e : ((x.natAbs : Nat) : Int) = x := by omega
        rw [← hg, Int.gcd_zero_right, e]
  obtain ⟨ro', h1, y, rfl⟩ := hl
  walk_at "ev"
  simp only [h1]; walk_at "ev"
def MN : Int := 1000000000000000000000000000000000000000000000000000000000000
def gcdOne : PyData → PyData → Bool
  | .int a, .int b => decide (Int.gcd a b = 1)
  | _, _ => false
def isFrac (x : PyData) : Bool := match x with
  | .tuple [a, b] => whole a 0 (MN - 1) && whole b 1 (MN - 1) && gcdOne a b
  | _ => false
theorem whole_cases {x : PyData} {a b : Int} (h : whole x a b = true) : ∃ n, x = .int n ∧ a ≤ n ∧ n ≤ b := by
  cases x <;> simp [whole] at h
  exact ⟨_, rfl, h⟩
theorem isFrac_len {xs : List PyData} (h : xs.length ≠ 2) : isFrac (.tuple xs) = false := by
  rcases xs with _ | ⟨a, _ | ⟨b, _ | ⟨c, t⟩⟩⟩ <;> first | rfl | exact absurd rfl h
theorem sp_is_fraction (l : Nat) (x : PyData) : callN base (l + 2) 4 [.d x] = .ok (.d (.bool (isFrac x))) [] := by
  rw [callN_eq t__is_fraction rfl]
  cases x <;> (unfold r4 b4; walk_at "ev"; try rfl)
  rename_i xs
  by_cases h : xs.length = 2
  · match xs, h with
    | [a, b], _ =>
      walk_at "ev"
      cases h1 : whole a 0 999999999999999999999999999999999999999999999999999999999999 with
      | false => walk_at "ev"; simp [isFrac, MN, h1]
      | true =>
        walk_at "ev"
        cases h2 : whole b 1 999999999999999999999999999999999999999999999999999999999999 with
        | false => walk_at "ev"; simp [isFrac, MN, h1, h2]
        | true =>
          walk_at "ev"
          obtain ⟨n, rfl, n1, n2⟩ := whole_cases h1
          obtain ⟨m, rfl, m1, m2⟩ := whole_cases h2
          simp only [sp_divisor l n m n1 (by omega) (by refine Int.lt_of_le_of_lt m2 (by decide +kernel))]
          walk_at "ev"
          simp [isFrac, MN, h1, h2, gcdOne]
          omega
  · have h' : ¬ ((xs.length : Int) = 2) := by omega
    simp only [h', decide_false]; walk_at "ev"
    rw [isFrac_len h]
local macro_rules | `(tactic| walk_at "ev") => `(tactic| try simp (disch := first | assumption | omega | (simp only [List.length_cons, List.length_nil, List.length_append, List.length_map, List.length_zip] <;> omega)) only [seval, Lw.ol_toD, Lw.ol_flat, Lw.ol_slice, Lw.ge_call, Lw.ge_glob, Lw.ge_wf, Lw.ge_exm, Lw.bsel_some, Lw.osel_some, Lw.osel_none, Lw.q_var, Lw.q_int, Lw.q_bl, Lw.q_non, Lw.q_str, Lw.q_glob, Lw.q_bin, Lw.q_not, Lw.q_and, Lw.q_or, Lw.q_one, Lw.q_cmp, Lw.q_chain, Lw.q_ifx, Lw.q_tup, Lw.q_lst, Lw.q_idx, Lw.q_slc, Lw.fsel_ok, Lw.fsel_exc, Lw.q_call, Lw.q_prim, Lw.q_isi, Lw.q_nox, Lw.noxE_ok, Lw.q_nil, Lw.q_cons, Lw.qB_nil, Lw.qB_one, Lw.qI_seqT, Lw.qI_seqF, Lw.qI_enumT, Lw.qI_enumF, Lw.qI_zipT, Lw.qI_zipF, Lw.ssel_nx, Lw.ssel_ret, Lw.ssel_exc, Lw.ssel_brk, Lw.ssel_ct, Lw.s_nil', Lw.s_seq', Lw.s_ret', Lw.s_retN', Lw.s_set', Lw.s_setc', Lw.s_unp', Lw.s_par2', Lw.s_par3', Lw.dsel_d, Lw.s_aug', Lw.s_exp', Lw.s_ife', Lw.s_rai', Lw.s_pass', Lw.s_doc', Lw.s_brk', Lw.s_cnt', Lw.xsel_exc, Lw.xsel_nx, Lw.xsel_ret, Lw.s_try', Lw.nox_nx, Lw.nox_ret, Lw.s_hd', Lw.s_hnil', Lw.tst_eq, Lw.cBody_eq, Lw.bind_ok2, Lw.bind_exc2, Lw.bind_stuck2, Lw.then_ok2, Lw.then_exc2, Lw.then_stuck2, Lw.ofOpt_some2, Lw.ofOpt_none2, Lw.ite_okh, Lw.ite_tm, Lw.ite_od, Lw.ite_bool, Lw.ite_int, Lw.isiD_eq, Lw.flat_lst, Lw.whole_int, Lw.ite_else_false, Lw.ite_then_true, Lw.ite_not_false, Lw.flat_d, Lw.eqD_int, Lw.eqD_str, Lw.boolsD_map, Lw.look_tm2, Lw.look_sl2, Lw.join_some2, Lw.lookD_eq, Lw.lookF_eq, Lw.opd_tm, Lw.opd_sl, Lw.boolOf_bool, Lw.bool_eq, Lw.sto_tm, Lw.sto_sl, Lw.esc_tm, Lw.esc_sl, Lw.esel_d, Lw.esel_ol, Lw.arg_eq, Lw.asel_scr, Lw.asel_d, Lw.asel_ol, Lw.asel_lst, Lw.argsO_nil, Lw.argsO_cons, Lw.escs_nil, Lw.escs_cons, Lw.stos_nil, Lw.stos_cons, Lw.looksD_nil, Lw.looksD_cons, Lw.looksF_nil, Lw.looksF_cons, Lw.partD_nil, Lw.intOf_int, Lw.partD_one, Lw.okD_eq, Lw.deep_tm, Lw.deep_sl, Lw.isB_int_none, Lw.isB_int_bool, Lw.isB_int_int, Lw.isB_int_str, Lw.isB_int_list, Lw.isB_int_tuple, Lw.isB_bool_none, Lw.isB_bool_bool, Lw.isB_bool_int, Lw.isB_bool_str, Lw.isB_bool_list, Lw.isB_bool_tuple, Lw.isB_str_none, Lw.isB_str_bool, Lw.isB_str_int, Lw.isB_str_str, Lw.isB_str_list, Lw.isB_str_tuple, Lw.isB_tuple_none, Lw.isB_tuple_bool, Lw.isB_tuple_int, Lw.isB_tuple_str, Lw.isB_tuple_list, Lw.isB_tuple_tuple, Lw.isB_list_none, Lw.isB_list_bool, Lw.isB_list_int, Lw.isB_list_str, Lw.isB_list_list, Lw.isB_list_tuple, Lw.whole_none, Lw.whole_bool, Lw.whole_str, Lw.whole_list, Lw.whole_tuple, Lw.primO_len, Lw.primO_int, Lw.primO_abs, Lw.primO_max, Lw.primO_min, Lw.primO_sum, Lw.primO_all, Lw.primO_any, Lw.primO_tuple, Lw.primO_list, Lw.primO_sorted, Lw.lenO_l, Lw.lenO_t, Lw.intO_i, Lw.absO_i, Lw.maxO_2, Lw.minO_2, Lw.sumO_l, Lw.sumO_t, Lw.allO_l, Lw.anyO_l, Lw.tupleO_l, Lw.tupleO_t, Lw.listO_l, Lw.listO_t, Lw.sortedO_l, Lw.bin_add, Lw.bin_sub, Lw.cmp_Eq, Lw.cmp_NotEq, Lw.cmp_Lt, Lw.cmp_LtE, Lw.cmp_Gt, Lw.cmp_GtE, Lw.cmp_In, Lw.cmp_NotIn, Lw.cmp_Is, Lw.cmp_IsNot, Lw.notNone_none, Lw.notNone_bool, Lw.notNone_int, Lw.notNone_str, Lw.notNone_list, Lw.notNone_tuple, Lw.ltD_int, Lw.leD_int, Lw.gtD_int, Lw.geD_int, Lw.idx_t, Lw.idx_l, Lw.items_l, Lw.items_t, Lw.slice_t, Lw.slice_dl, Lw.slice_scr, Lw.zsel_l, Lw.zsel_t, Lw.zsel_lt, Lw.zsel_tl, Lw.outF_ret, Lw.outF_nx, Lw.outF_exc, Lw.asgT_var, Lw.asgT_tup, Lw.asgTs_nil, Lw.asgTs_cons, Lw.wipe_nil, Lw.wipe_cons, Lw.quiet_nil, Lw.quiet_cons, Lw.quiet_none, Lw.quiet_d, Lw.quiet_jd, Lw.aug_add2, Lw.aug_sub2, Lw.q_neg2, Lw.revO_t, Lw.revO_l, Lw.q_rev2, Lw.listOf_l, Lw.q_sset2, Lw.qI_rng1', Lw.rgsel_2, Lw.qI_rng2', Lw.bin_mul1, Lw.bin_mul3, Lw.bin_fdiv1, Lw.bin_fdiv2, Lw.bin_mod1, Lw.aug_mul1, Lw.bin_addT1, Lw.bin_addL1, Lw.bin_mulL1, Lw.bin_mulT1, Lw.ix_pos, Lw.ix_neg, Lw.lenOk_ok, Lw.rgD_ok', Lw.eqD_ints, Lw.eqD_tints, Lw.sliceD_from, Lw.sliceD_to, Lw.ltD_tints, Lw.leD_tints, Lw.ol_nil', Lw.ol_one', Lw.ol_two', Lw.ol_three', Lw.ol_four', Lw.ol_five', Lw.bin_pow1, Lw.lsel_ol, Lw.q_mth, Lw.appS_ok, Lw.mth_app, Lw.mth_ext, Lw.mth_extd, Lw.T.exm_BadColour_BadColour, Lw.T.exm_BadColour_BadColours, Lw.T.exm_BadColour_BadLight, Lw.T.exm_BadColour_BadStock, Lw.T.exm_BadColour_TooGreat, Lw.T.exm_BadColours_BadColour, Lw.T.exm_BadColours_BadColours, Lw.T.exm_BadColours_BadLight, Lw.T.exm_BadColours_BadStock, Lw.T.exm_BadColours_TooGreat, Lw.T.exm_BadLight_BadColour, Lw.T.exm_BadLight_BadColours, Lw.T.exm_BadLight_BadLight, Lw.T.exm_BadLight_BadStock, Lw.T.exm_BadLight_TooGreat, Lw.T.exm_BadStock_BadColour, Lw.T.exm_BadStock_BadColours, Lw.T.exm_BadStock_BadLight, Lw.T.exm_BadStock_BadStock, Lw.T.exm_BadStock_TooGreat, Lw.T.exm_TooGreat_BadColour, Lw.T.exm_TooGreat_BadColours, Lw.T.exm_TooGreat_BadLight, Lw.T.exm_TooGreat_BadStock, Lw.T.exm_TooGreat_TooGreat, Lw.T.gl_KINDS, Lw.T.gl_MOST_LEAST, Lw.T.gl_MOST_NUMBER, Lw.T.gl_MOST_ROW, Lw.T.gl_MOST_STOCK, Lw.T.gl_PARTS, Lw.T.sp_is_whole, Lw.T.sp_is_colour, Lw.T.sp_is_fraction, O.walk, O.toD, O.toDs, O.flats, qt, List.getElem?_cons_zero, List.getElem?_cons_succ, List.set_cons_zero, List.set_cons_succ, List.map_cons, List.map_nil, List.cons_append, List.nil_append, List.append_nil, List.length_cons, List.length_nil, List.length_append, List.length_map, List.length_zip,  List.replicate, Option.bind_some, Option.bind_none, Option.map_some, Option.map_none, if_true, if_false, Bool.not_true, Bool.not_false, Bool.true_and, Bool.and_true, Bool.false_and, Bool.and_false, Bool.true_or, Bool.or_true, Bool.false_or, Bool.or_false, Bool.false_eq_true, Bool.and_self, and_self, true_and, and_true, decide_true, decide_false, Nat.zero_add, Nat.reduceAdd, Nat.reduceSub, Nat.reduceLeDiff, reduceCtorEq, Int.natCast_zero, Int.natCast_one, Int.cast_ofNat_Int, Int.reduceLT, Int.reduceLE, Int.reduceToNat, Int.reduceNeg, Int.reduceAdd, Int.reduceSub, Int.reducePow, Nat.reducePow, Int.reduceMul, Nat.reduceMul, List.reduceReplicate, List.flatten_cons, List.flatten_nil, ne_eq, not_false_eq_true, not_true_eq_false, List.cons_ne_nil])
local macro_rules | `(tactic| walk_at "ev!") => `(tactic| try simp (disch := first | assumption | omega | (simp only [List.length_cons, List.length_nil, List.length_append, List.length_map, List.length_zip] <;> omega)) only [seval, Lw.ol_toD, Lw.ol_flat, Lw.ol_slice, Lw.ge_call, Lw.ge_glob, Lw.ge_wf, Lw.ge_exm, Lw.bsel_some, Lw.osel_some, Lw.osel_none, Lw.q_var, Lw.q_int, Lw.q_bl, Lw.q_non, Lw.q_str, Lw.q_glob, Lw.q_bin, Lw.q_not, Lw.q_and, Lw.q_or, Lw.q_one, Lw.q_cmp, Lw.q_chain, Lw.q_ifx, Lw.q_tup, Lw.q_lst, Lw.q_idx, Lw.q_slc, Lw.fsel_ok, Lw.fsel_exc, Lw.q_call, Lw.q_prim, Lw.q_isi, Lw.q_nox, Lw.noxE_ok, Lw.q_nil, Lw.q_cons, Lw.qB_nil, Lw.qB_one, Lw.qI_seqT, Lw.qI_seqF, Lw.qI_enumT, Lw.qI_enumF, Lw.qI_zipT, Lw.qI_zipF, Lw.ssel_nx, Lw.ssel_ret, Lw.ssel_exc, Lw.ssel_brk, Lw.ssel_ct, Lw.s_nil', Lw.s_seq', Lw.s_ret', Lw.s_retN', Lw.s_set', Lw.s_setc', Lw.s_unp', Lw.s_par2', Lw.s_par3', Lw.dsel_d, Lw.s_aug', Lw.s_exp', Lw.s_ife', Lw.s_rai', Lw.s_pass', Lw.s_doc', Lw.s_brk', Lw.s_cnt', Lw.xsel_exc, Lw.xsel_nx, Lw.xsel_ret, Lw.s_try', Lw.nox_nx, Lw.nox_ret, Lw.s_hd', Lw.s_hnil', Lw.tst_eq, Lw.cBody_eq, Lw.bind_ok2, Lw.bind_exc2, Lw.bind_stuck2, Lw.then_ok2, Lw.then_exc2, Lw.then_stuck2, Lw.ofOpt_some2, Lw.ofOpt_none2, Lw.ite_okh, Lw.ite_tm, Lw.ite_od, Lw.ite_bool, Lw.ite_int, Lw.isiD_eq, Lw.flat_lst, Lw.whole_int, Lw.ite_else_false, Lw.ite_then_true, Lw.ite_not_false, Lw.flat_d, Lw.eqD_int, Lw.eqD_str, Lw.boolsD_map, Lw.look_tm2, Lw.look_sl2, Lw.join_some2, Lw.lookD_eq, Lw.lookF_eq, Lw.opd_tm, Lw.opd_sl, Lw.boolOf_bool, Lw.bool_eq, Lw.sto_tm, Lw.sto_sl, Lw.esc_tm, Lw.esc_sl, Lw.esel_d, Lw.esel_ol, Lw.arg_eq, Lw.asel_scr, Lw.asel_d, Lw.asel_ol, Lw.asel_lst, Lw.argsO_nil, Lw.argsO_cons, Lw.escs_nil, Lw.escs_cons, Lw.stos_nil, Lw.stos_cons, Lw.looksD_nil, Lw.looksD_cons, Lw.looksF_nil, Lw.looksF_cons, Lw.partD_nil, Lw.intOf_int, Lw.partD_one, Lw.okD_eq, Lw.deep_tm, Lw.deep_sl, Lw.isB_int_none, Lw.isB_int_bool, Lw.isB_int_int, Lw.isB_int_str, Lw.isB_int_list, Lw.isB_int_tuple, Lw.isB_bool_none, Lw.isB_bool_bool, Lw.isB_bool_int, Lw.isB_bool_str, Lw.isB_bool_list, Lw.isB_bool_tuple, Lw.isB_str_none, Lw.isB_str_bool, Lw.isB_str_int, Lw.isB_str_str, Lw.isB_str_list, Lw.isB_str_tuple, Lw.isB_tuple_none, Lw.isB_tuple_bool, Lw.isB_tuple_int, Lw.isB_tuple_str, Lw.isB_tuple_list, Lw.isB_tuple_tuple, Lw.isB_list_none, Lw.isB_list_bool, Lw.isB_list_int, Lw.isB_list_str, Lw.isB_list_list, Lw.isB_list_tuple, Lw.whole_none, Lw.whole_bool, Lw.whole_str, Lw.whole_list, Lw.whole_tuple, Lw.primO_len, Lw.primO_int, Lw.primO_abs, Lw.primO_max, Lw.primO_min, Lw.primO_sum, Lw.primO_all, Lw.primO_any, Lw.primO_tuple, Lw.primO_list, Lw.primO_sorted, Lw.lenO_l, Lw.lenO_t, Lw.intO_i, Lw.absO_i, Lw.maxO_2, Lw.minO_2, Lw.sumO_l, Lw.sumO_t, Lw.allO_l, Lw.anyO_l, Lw.tupleO_l, Lw.tupleO_t, Lw.listO_l, Lw.listO_t, Lw.sortedO_l, Lw.bin_add, Lw.bin_sub, Lw.cmp_Eq, Lw.cmp_NotEq, Lw.cmp_Lt, Lw.cmp_LtE, Lw.cmp_Gt, Lw.cmp_GtE, Lw.cmp_In, Lw.cmp_NotIn, Lw.cmp_Is, Lw.cmp_IsNot, Lw.notNone_none, Lw.notNone_bool, Lw.notNone_int, Lw.notNone_str, Lw.notNone_list, Lw.notNone_tuple, Lw.ltD_int, Lw.leD_int, Lw.gtD_int, Lw.geD_int, Lw.idx_t, Lw.idx_l, Lw.items_l, Lw.items_t, Lw.slice_t, Lw.slice_dl, Lw.slice_scr, Lw.zsel_l, Lw.zsel_t, Lw.zsel_lt, Lw.zsel_tl, Lw.outF_ret, Lw.outF_nx, Lw.outF_exc, Lw.asgT_var, Lw.asgT_tup, Lw.asgTs_nil, Lw.asgTs_cons, Lw.wipe_nil, Lw.wipe_cons, Lw.quiet_nil, Lw.quiet_cons, Lw.quiet_none, Lw.quiet_d, Lw.quiet_jd, Lw.aug_add2, Lw.aug_sub2, Lw.q_neg2, Lw.revO_t, Lw.revO_l, Lw.q_rev2, Lw.listOf_l, Lw.q_sset2, Lw.qI_rng1', Lw.rgsel_2, Lw.qI_rng2', Lw.bin_mul1, Lw.bin_mul3, Lw.bin_fdiv1, Lw.bin_fdiv2, Lw.bin_mod1, Lw.aug_mul1, Lw.bin_addT1, Lw.bin_addL1, Lw.bin_mulL1, Lw.bin_mulT1, Lw.ix_pos, Lw.ix_neg, Lw.lenOk_ok, Lw.rgD_ok', Lw.eqD_ints, Lw.eqD_tints, Lw.sliceD_from, Lw.sliceD_to, Lw.ltD_tints, Lw.leD_tints, Lw.ol_nil', Lw.ol_one', Lw.ol_two', Lw.ol_three', Lw.ol_four', Lw.ol_five', Lw.bin_pow1, Lw.lsel_ol, Lw.q_mth, Lw.appS_ok, Lw.mth_app, Lw.mth_ext, Lw.mth_extd, Lw.T.exm_BadColour_BadColour, Lw.T.exm_BadColour_BadColours, Lw.T.exm_BadColour_BadLight, Lw.T.exm_BadColour_BadStock, Lw.T.exm_BadColour_TooGreat, Lw.T.exm_BadColours_BadColour, Lw.T.exm_BadColours_BadColours, Lw.T.exm_BadColours_BadLight, Lw.T.exm_BadColours_BadStock, Lw.T.exm_BadColours_TooGreat, Lw.T.exm_BadLight_BadColour, Lw.T.exm_BadLight_BadColours, Lw.T.exm_BadLight_BadLight, Lw.T.exm_BadLight_BadStock, Lw.T.exm_BadLight_TooGreat, Lw.T.exm_BadStock_BadColour, Lw.T.exm_BadStock_BadColours, Lw.T.exm_BadStock_BadLight, Lw.T.exm_BadStock_BadStock, Lw.T.exm_BadStock_TooGreat, Lw.T.exm_TooGreat_BadColour, Lw.T.exm_TooGreat_BadColours, Lw.T.exm_TooGreat_BadLight, Lw.T.exm_TooGreat_BadStock, Lw.T.exm_TooGreat_TooGreat, Lw.T.gl_KINDS, Lw.T.gl_MOST_LEAST, Lw.T.gl_MOST_NUMBER, Lw.T.gl_MOST_ROW, Lw.T.gl_MOST_STOCK, Lw.T.gl_PARTS, Lw.T.sp_is_whole, Lw.T.sp_is_colour, Lw.T.sp_is_fraction, *, O.walk, O.toD, O.toDs, O.flats, qt, List.getElem?_cons_zero, List.getElem?_cons_succ, List.set_cons_zero, List.set_cons_succ, List.map_cons, List.map_nil, List.cons_append, List.nil_append, List.append_nil, List.length_cons, List.length_nil, List.length_append, List.length_map, List.length_zip,  List.replicate, Option.bind_some, Option.bind_none, Option.map_some, Option.map_none, if_true, if_false, Bool.not_true, Bool.not_false, Bool.true_and, Bool.and_true, Bool.false_and, Bool.and_false, Bool.true_or, Bool.or_true, Bool.false_or, Bool.or_false, Bool.false_eq_true, Bool.and_self, and_self, true_and, and_true, decide_true, decide_false, Nat.zero_add, Nat.reduceAdd, Nat.reduceSub, Nat.reduceLeDiff, reduceCtorEq, Int.natCast_zero, Int.natCast_one, Int.cast_ofNat_Int, Int.reduceLT, Int.reduceLE, Int.reduceToNat, Int.reduceNeg, Int.reduceAdd, Int.reduceSub, Int.reducePow, Nat.reducePow, Int.reduceMul, Nat.reduceMul, List.reduceReplicate, List.flatten_cons, List.flatten_nil, ne_eq, not_false_eq_true, not_true_eq_false, List.cons_ne_nil])
local macro_rules | `(tactic| walk_at "evd") => `(tactic| try simp (disch := first | assumption | omega | (simp only [List.length_cons, List.length_nil, List.length_append, List.length_map, List.length_zip] <;> omega)) only [seval, Lw.ol_toD, Lw.ol_flat, Lw.ol_slice, Lw.ge_call, Lw.ge_glob, Lw.ge_wf, Lw.ge_exm, Lw.bsel_some, Lw.osel_some, Lw.osel_none, Lw.q_var, Lw.q_int, Lw.q_bl, Lw.q_non, Lw.q_str, Lw.q_glob, Lw.q_bin, Lw.q_not, Lw.q_and, Lw.q_or, Lw.q_one, Lw.q_cmp, Lw.q_chain, Lw.q_ifx, Lw.q_tup, Lw.q_lst, Lw.q_idx, Lw.q_slc, Lw.fsel_ok, Lw.fsel_exc, Lw.q_call, Lw.q_prim, Lw.q_isi, Lw.q_nox, Lw.noxE_ok, Lw.q_nil, Lw.q_cons, Lw.qB_nil, Lw.qB_one, Lw.qI_seqT, Lw.qI_seqF, Lw.qI_enumT, Lw.qI_enumF, Lw.qI_zipT, Lw.qI_zipF, Lw.ssel_nx, Lw.ssel_ret, Lw.ssel_exc, Lw.ssel_brk, Lw.ssel_ct, Lw.s_nil', Lw.s_seq', Lw.s_ret', Lw.s_retN', Lw.s_set', Lw.s_setc', Lw.s_unp', Lw.s_par2', Lw.s_par3', Lw.dsel_d, Lw.s_aug', Lw.s_exp', Lw.s_ife', Lw.s_rai', Lw.s_pass', Lw.s_doc', Lw.s_brk', Lw.s_cnt', Lw.xsel_exc, Lw.xsel_nx, Lw.xsel_ret, Lw.s_try', Lw.nox_nx, Lw.nox_ret, Lw.s_hd', Lw.s_hnil', Lw.tst_eq, Lw.cBody_eq, Lw.bind_ok2, Lw.bind_exc2, Lw.bind_stuck2, Lw.then_ok2, Lw.then_exc2, Lw.then_stuck2, Lw.ofOpt_some2, Lw.ofOpt_none2, Lw.ite_okh, Lw.ite_tm, Lw.ite_od, Lw.ite_bool, Lw.ite_int, Lw.isiD_eq, Lw.flat_lst, Lw.whole_int, Lw.ite_else_false, Lw.ite_then_true, Lw.ite_not_false, Lw.flat_d, Lw.eqD_int, Lw.eqD_str, Lw.boolsD_map, Lw.look_tm2, Lw.look_sl2, Lw.join_some2, Lw.lookD_eq, Lw.lookF_eq, Lw.opd_tm, Lw.opd_sl, Lw.boolOf_bool, Lw.bool_eq, Lw.sto_tm, Lw.sto_sl, Lw.esc_tm, Lw.esc_sl, Lw.esel_d, Lw.esel_ol, Lw.arg_eq, Lw.asel_scr, Lw.asel_d, Lw.asel_ol, Lw.asel_lst, Lw.argsO_nil, Lw.argsO_cons, Lw.escs_nil, Lw.escs_cons, Lw.stos_nil, Lw.stos_cons, Lw.looksD_nil, Lw.looksD_cons, Lw.looksF_nil, Lw.looksF_cons, Lw.partD_nil, Lw.intOf_int, Lw.partD_one, Lw.okD_eq, Lw.deep_tm, Lw.deep_sl, Lw.isB_int_none, Lw.isB_int_bool, Lw.isB_int_int, Lw.isB_int_str, Lw.isB_int_list, Lw.isB_int_tuple, Lw.isB_bool_none, Lw.isB_bool_bool, Lw.isB_bool_int, Lw.isB_bool_str, Lw.isB_bool_list, Lw.isB_bool_tuple, Lw.isB_str_none, Lw.isB_str_bool, Lw.isB_str_int, Lw.isB_str_str, Lw.isB_str_list, Lw.isB_str_tuple, Lw.isB_tuple_none, Lw.isB_tuple_bool, Lw.isB_tuple_int, Lw.isB_tuple_str, Lw.isB_tuple_list, Lw.isB_tuple_tuple, Lw.isB_list_none, Lw.isB_list_bool, Lw.isB_list_int, Lw.isB_list_str, Lw.isB_list_list, Lw.isB_list_tuple, Lw.whole_none, Lw.whole_bool, Lw.whole_str, Lw.whole_list, Lw.whole_tuple, Lw.primO_len, Lw.primO_int, Lw.primO_abs, Lw.primO_max, Lw.primO_min, Lw.primO_sum, Lw.primO_all, Lw.primO_any, Lw.primO_tuple, Lw.primO_list, Lw.primO_sorted, Lw.lenO_l, Lw.lenO_t, Lw.intO_i, Lw.absO_i, Lw.maxO_2, Lw.minO_2, Lw.sumO_l, Lw.sumO_t, Lw.allO_l, Lw.anyO_l, Lw.tupleO_l, Lw.tupleO_t, Lw.listO_l, Lw.listO_t, Lw.sortedO_l, Lw.bin_add, Lw.bin_sub, Lw.cmp_Eq, Lw.cmp_NotEq, Lw.cmp_Lt, Lw.cmp_LtE, Lw.cmp_Gt, Lw.cmp_GtE, Lw.cmp_In, Lw.cmp_NotIn, Lw.cmp_Is, Lw.cmp_IsNot, Lw.notNone_none, Lw.notNone_bool, Lw.notNone_int, Lw.notNone_str, Lw.notNone_list, Lw.notNone_tuple, Lw.ltD_int, Lw.leD_int, Lw.gtD_int, Lw.geD_int, Lw.idx_t, Lw.idx_l, Lw.items_l, Lw.items_t, Lw.slice_t, Lw.slice_dl, Lw.slice_scr, Lw.zsel_l, Lw.zsel_t, Lw.zsel_lt, Lw.zsel_tl, Lw.outF_ret, Lw.outF_nx, Lw.outF_exc, Lw.asgT_var, Lw.asgT_tup, Lw.asgTs_nil, Lw.asgTs_cons, Lw.wipe_nil, Lw.wipe_cons, Lw.quiet_nil, Lw.quiet_cons, Lw.quiet_none, Lw.quiet_d, Lw.quiet_jd, Lw.aug_add2, Lw.aug_sub2, Lw.q_neg2, Lw.revO_t, Lw.revO_l, Lw.q_rev2, Lw.listOf_l, Lw.q_sset2, Lw.qI_rng1', Lw.rgsel_2, Lw.qI_rng2', Lw.bin_mul1, Lw.bin_mul3, Lw.bin_fdiv1, Lw.bin_fdiv2, Lw.bin_mod1, Lw.aug_mul1, Lw.bin_addT1, Lw.bin_addL1, Lw.bin_mulL1, Lw.bin_mulT1, Lw.ix_pos, Lw.ix_neg, Lw.lenOk_ok, Lw.rgD_ok', Lw.eqD_ints, Lw.eqD_tints, Lw.sliceD_from, Lw.sliceD_to, Lw.ltD_tints, Lw.leD_tints, Lw.ol_nil', Lw.ol_one', Lw.ol_two', Lw.ol_three', Lw.ol_four', Lw.ol_five', Lw.bin_pow1, Lw.lsel_ol, Lw.q_mth, Lw.appS_ok, Lw.mth_app, Lw.mth_ext, Lw.mth_extd, Lw.T.exm_BadColour_BadColour, Lw.T.exm_BadColour_BadColours, Lw.T.exm_BadColour_BadLight, Lw.T.exm_BadColour_BadStock, Lw.T.exm_BadColour_TooGreat, Lw.T.exm_BadColours_BadColour, Lw.T.exm_BadColours_BadColours, Lw.T.exm_BadColours_BadLight, Lw.T.exm_BadColours_BadStock, Lw.T.exm_BadColours_TooGreat, Lw.T.exm_BadLight_BadColour, Lw.T.exm_BadLight_BadColours, Lw.T.exm_BadLight_BadLight, Lw.T.exm_BadLight_BadStock, Lw.T.exm_BadLight_TooGreat, Lw.T.exm_BadStock_BadColour, Lw.T.exm_BadStock_BadColours, Lw.T.exm_BadStock_BadLight, Lw.T.exm_BadStock_BadStock, Lw.T.exm_BadStock_TooGreat, Lw.T.exm_TooGreat_BadColour, Lw.T.exm_TooGreat_BadColours, Lw.T.exm_TooGreat_BadLight, Lw.T.exm_TooGreat_BadStock, Lw.T.exm_TooGreat_TooGreat, Lw.T.gl_KINDS, Lw.T.gl_MOST_LEAST, Lw.T.gl_MOST_NUMBER, Lw.T.gl_MOST_ROW, Lw.T.gl_MOST_STOCK, Lw.T.gl_PARTS, Lw.T.sp_is_whole, Lw.T.sp_is_colour, Lw.T.sp_is_fraction, dec_yes, dec_no, O.walk, O.toD, O.toDs, O.flats, qt, List.getElem?_cons_zero, List.getElem?_cons_succ, List.set_cons_zero, List.set_cons_succ, List.map_cons, List.map_nil, List.cons_append, List.nil_append, List.append_nil, List.length_cons, List.length_nil, List.length_append, List.length_map, List.length_zip,  List.replicate, Option.bind_some, Option.bind_none, Option.map_some, Option.map_none, if_true, if_false, Bool.not_true, Bool.not_false, Bool.true_and, Bool.and_true, Bool.false_and, Bool.and_false, Bool.true_or, Bool.or_true, Bool.false_or, Bool.or_false, Bool.false_eq_true, Bool.and_self, and_self, true_and, and_true, decide_true, decide_false, Nat.zero_add, Nat.reduceAdd, Nat.reduceSub, Nat.reduceLeDiff, reduceCtorEq, Int.natCast_zero, Int.natCast_one, Int.cast_ofNat_Int, Int.reduceLT, Int.reduceLE, Int.reduceToNat, Int.reduceNeg, Int.reduceAdd, Int.reduceSub, Int.reducePow, Nat.reducePow, Int.reduceMul, Nat.reduceMul, List.reduceReplicate, List.flatten_cons, List.flatten_nil, ne_eq, not_false_eq_true, not_true_eq_false, List.cons_ne_nil])
def isLight (x : PyData) : Bool := match x with
  | .tuple xs => decide (xs.length = 3) && xs.all isFrac
  | _ => false
theorem sp_check_light (l : Nat) (x : PyData) : callN base (l + 3) 5 [.d x] = if isLight x then .ok (.d .none) [] else .exc ⟨"BadLight"⟩ [] := by
  rw [callN_eq t__check_light rfl]
  cases x <;> (unfold r5 b5; walk_at "ev"; try rfl)
  rename_i xs
  by_cases h : xs.length = 3
  · have hc : ev (base.ge (l + 2)) e__check_light_0 [some (.d (.tuple xs)), none] = .ok (.tm (ol (xs.map fun y => .bool (isFrac y)))) [some (.d (.tuple xs)), none] := by
      refine ev_map id xs _ ?_ rfl rfl (by omega) fun a ha => ?_
      · rw [List.map_id]; walk_at "ev"
      · unfold id; walk_at "ev"
    have h' : (xs.length : Int) = 3 := by omega
    simp only [h', hc]; walk_at "ev"
    cases h2 : xs.all isFrac <;> simp [isLight, h, h2] <;> walk_at "ev"
  · have h' : ¬ ((xs.length : Int) = 3) := by omega
    simp only [h', decide_false]; walk_at "ev"
    simp [isLight, h]
theorem sp_check_colour (l : Nat) (x : PyData) : callN base (l + 3) 6 [.d x] = if isColour x then .ok (.d .none) [] else .exc ⟨"BadColour"⟩ [] := by
  rw [callN_eq t_check_colour rfl]
  unfold r6 b6; walk_at "ev"
  cases h : isColour x <;> walk_at "ev"
def areColours (x : PyData) (n : Int) : Bool := match x with
  | .tuple xs => decide ((xs.length : Int) ≤ n) && xs.all isColour
  | _ => false
theorem sp_are_colours (l : Nat) (x : PyData) (n : Int) (hn : n ≤ 100) : callN base (l + 3) 7 [.d x, .d (.int n)] = .ok (.d (.bool (areColours x n))) [] := by
  rw [callN_eq t__are_colours rfl]
  cases x <;> (unfold r7 b7; walk_at "ev"; try rfl)
  rename_i xs
  by_cases h : (xs.length : Int) ≤ n
  · have hc : ev (base.ge (l + 2)) e__are_colours_0 [some (.d (.tuple xs)), some (.d (.int n)), none] = .ok (.tm (ol (xs.map fun y => .bool (isColour y)))) [some (.d (.tuple xs)), some (.d (.int n)), none] := by
      refine ev_map id xs _ ?_ rfl rfl (by omega) fun a ha => ?_
      · rw [List.map_id]; walk_at "ev"
      · unfold id; walk_at "ev"
    simp only [h, hc]; walk_at "ev"
    simp [areColours, h]
  · simp only [h, decide_false]; walk_at "ev"
    simp [areColours, h]
local macro_rules | `(tactic| walk_at "ev") => `(tactic| try simp (disch := first | assumption | omega | (simp only [List.length_cons, List.length_nil, List.length_append, List.length_map, List.length_zip] <;> omega)) only [seval, Lw.ol_toD, Lw.ol_flat, Lw.ol_slice, Lw.ge_call, Lw.ge_glob, Lw.ge_wf, Lw.ge_exm, Lw.bsel_some, Lw.osel_some, Lw.osel_none, Lw.q_var, Lw.q_int, Lw.q_bl, Lw.q_non, Lw.q_str, Lw.q_glob, Lw.q_bin, Lw.q_not, Lw.q_and, Lw.q_or, Lw.q_one, Lw.q_cmp, Lw.q_chain, Lw.q_ifx, Lw.q_tup, Lw.q_lst, Lw.q_idx, Lw.q_slc, Lw.fsel_ok, Lw.fsel_exc, Lw.q_call, Lw.q_prim, Lw.q_isi, Lw.q_nox, Lw.noxE_ok, Lw.q_nil, Lw.q_cons, Lw.qB_nil, Lw.qB_one, Lw.qI_seqT, Lw.qI_seqF, Lw.qI_enumT, Lw.qI_enumF, Lw.qI_zipT, Lw.qI_zipF, Lw.ssel_nx, Lw.ssel_ret, Lw.ssel_exc, Lw.ssel_brk, Lw.ssel_ct, Lw.s_nil', Lw.s_seq', Lw.s_ret', Lw.s_retN', Lw.s_set', Lw.s_setc', Lw.s_unp', Lw.s_par2', Lw.s_par3', Lw.dsel_d, Lw.s_aug', Lw.s_exp', Lw.s_ife', Lw.s_rai', Lw.s_pass', Lw.s_doc', Lw.s_brk', Lw.s_cnt', Lw.xsel_exc, Lw.xsel_nx, Lw.xsel_ret, Lw.s_try', Lw.nox_nx, Lw.nox_ret, Lw.s_hd', Lw.s_hnil', Lw.tst_eq, Lw.cBody_eq, Lw.bind_ok2, Lw.bind_exc2, Lw.bind_stuck2, Lw.then_ok2, Lw.then_exc2, Lw.then_stuck2, Lw.ofOpt_some2, Lw.ofOpt_none2, Lw.ite_okh, Lw.ite_tm, Lw.ite_od, Lw.ite_bool, Lw.ite_int, Lw.isiD_eq, Lw.flat_lst, Lw.whole_int, Lw.ite_else_false, Lw.ite_then_true, Lw.ite_not_false, Lw.flat_d, Lw.eqD_int, Lw.eqD_str, Lw.boolsD_map, Lw.look_tm2, Lw.look_sl2, Lw.join_some2, Lw.lookD_eq, Lw.lookF_eq, Lw.opd_tm, Lw.opd_sl, Lw.boolOf_bool, Lw.bool_eq, Lw.sto_tm, Lw.sto_sl, Lw.esc_tm, Lw.esc_sl, Lw.esel_d, Lw.esel_ol, Lw.arg_eq, Lw.asel_scr, Lw.asel_d, Lw.asel_ol, Lw.asel_lst, Lw.argsO_nil, Lw.argsO_cons, Lw.escs_nil, Lw.escs_cons, Lw.stos_nil, Lw.stos_cons, Lw.looksD_nil, Lw.looksD_cons, Lw.looksF_nil, Lw.looksF_cons, Lw.partD_nil, Lw.intOf_int, Lw.partD_one, Lw.okD_eq, Lw.deep_tm, Lw.deep_sl, Lw.isB_int_none, Lw.isB_int_bool, Lw.isB_int_int, Lw.isB_int_str, Lw.isB_int_list, Lw.isB_int_tuple, Lw.isB_bool_none, Lw.isB_bool_bool, Lw.isB_bool_int, Lw.isB_bool_str, Lw.isB_bool_list, Lw.isB_bool_tuple, Lw.isB_str_none, Lw.isB_str_bool, Lw.isB_str_int, Lw.isB_str_str, Lw.isB_str_list, Lw.isB_str_tuple, Lw.isB_tuple_none, Lw.isB_tuple_bool, Lw.isB_tuple_int, Lw.isB_tuple_str, Lw.isB_tuple_list, Lw.isB_tuple_tuple, Lw.isB_list_none, Lw.isB_list_bool, Lw.isB_list_int, Lw.isB_list_str, Lw.isB_list_list, Lw.isB_list_tuple, Lw.whole_none, Lw.whole_bool, Lw.whole_str, Lw.whole_list, Lw.whole_tuple, Lw.primO_len, Lw.primO_int, Lw.primO_abs, Lw.primO_max, Lw.primO_min, Lw.primO_sum, Lw.primO_all, Lw.primO_any, Lw.primO_tuple, Lw.primO_list, Lw.primO_sorted, Lw.lenO_l, Lw.lenO_t, Lw.intO_i, Lw.absO_i, Lw.maxO_2, Lw.minO_2, Lw.sumO_l, Lw.sumO_t, Lw.allO_l, Lw.anyO_l, Lw.tupleO_l, Lw.tupleO_t, Lw.listO_l, Lw.listO_t, Lw.sortedO_l, Lw.bin_add, Lw.bin_sub, Lw.cmp_Eq, Lw.cmp_NotEq, Lw.cmp_Lt, Lw.cmp_LtE, Lw.cmp_Gt, Lw.cmp_GtE, Lw.cmp_In, Lw.cmp_NotIn, Lw.cmp_Is, Lw.cmp_IsNot, Lw.notNone_none, Lw.notNone_bool, Lw.notNone_int, Lw.notNone_str, Lw.notNone_list, Lw.notNone_tuple, Lw.ltD_int, Lw.leD_int, Lw.gtD_int, Lw.geD_int, Lw.idx_t, Lw.idx_l, Lw.items_l, Lw.items_t, Lw.slice_t, Lw.slice_dl, Lw.slice_scr, Lw.zsel_l, Lw.zsel_t, Lw.zsel_lt, Lw.zsel_tl, Lw.outF_ret, Lw.outF_nx, Lw.outF_exc, Lw.asgT_var, Lw.asgT_tup, Lw.asgTs_nil, Lw.asgTs_cons, Lw.wipe_nil, Lw.wipe_cons, Lw.quiet_nil, Lw.quiet_cons, Lw.quiet_none, Lw.quiet_d, Lw.quiet_jd, Lw.aug_add2, Lw.aug_sub2, Lw.q_neg2, Lw.revO_t, Lw.revO_l, Lw.q_rev2, Lw.listOf_l, Lw.q_sset2, Lw.qI_rng1', Lw.rgsel_2, Lw.qI_rng2', Lw.bin_mul1, Lw.bin_mul3, Lw.bin_fdiv1, Lw.bin_fdiv2, Lw.bin_mod1, Lw.aug_mul1, Lw.bin_addT1, Lw.bin_addL1, Lw.bin_mulL1, Lw.bin_mulT1, Lw.ix_pos, Lw.ix_neg, Lw.lenOk_ok, Lw.rgD_ok', Lw.eqD_ints, Lw.eqD_tints, Lw.sliceD_from, Lw.sliceD_to, Lw.ltD_tints, Lw.leD_tints, Lw.ol_nil', Lw.ol_one', Lw.ol_two', Lw.ol_three', Lw.ol_four', Lw.ol_five', Lw.bin_pow1, Lw.lsel_ol, Lw.q_mth, Lw.appS_ok, Lw.mth_app, Lw.mth_ext, Lw.mth_extd, Lw.T.exm_BadColour_BadColour, Lw.T.exm_BadColour_BadColours, Lw.T.exm_BadColour_BadLight, Lw.T.exm_BadColour_BadStock, Lw.T.exm_BadColour_TooGreat, Lw.T.exm_BadColours_BadColour, Lw.T.exm_BadColours_BadColours, Lw.T.exm_BadColours_BadLight, Lw.T.exm_BadColours_BadStock, Lw.T.exm_BadColours_TooGreat, Lw.T.exm_BadLight_BadColour, Lw.T.exm_BadLight_BadColours, Lw.T.exm_BadLight_BadLight, Lw.T.exm_BadLight_BadStock, Lw.T.exm_BadLight_TooGreat, Lw.T.exm_BadStock_BadColour, Lw.T.exm_BadStock_BadColours, Lw.T.exm_BadStock_BadLight, Lw.T.exm_BadStock_BadStock, Lw.T.exm_BadStock_TooGreat, Lw.T.exm_TooGreat_BadColour, Lw.T.exm_TooGreat_BadColours, Lw.T.exm_TooGreat_BadLight, Lw.T.exm_TooGreat_BadStock, Lw.T.exm_TooGreat_TooGreat, Lw.T.gl_KINDS, Lw.T.gl_MOST_LEAST, Lw.T.gl_MOST_NUMBER, Lw.T.gl_MOST_ROW, Lw.T.gl_MOST_STOCK, Lw.T.gl_PARTS, Lw.T.sp_is_whole, Lw.T.sp_is_colour, Lw.T.sp_is_fraction, Lw.T.sp_are_colours, O.walk, O.toD, O.toDs, O.flats, qt, List.getElem?_cons_zero, List.getElem?_cons_succ, List.set_cons_zero, List.set_cons_succ, List.map_cons, List.map_nil, List.cons_append, List.nil_append, List.append_nil, List.length_cons, List.length_nil, List.length_append, List.length_map, List.length_zip,  List.replicate, Option.bind_some, Option.bind_none, Option.map_some, Option.map_none, if_true, if_false, Bool.not_true, Bool.not_false, Bool.true_and, Bool.and_true, Bool.false_and, Bool.and_false, Bool.true_or, Bool.or_true, Bool.false_or, Bool.or_false, Bool.false_eq_true, Bool.and_self, and_self, true_and, and_true, decide_true, decide_false, Nat.zero_add, Nat.reduceAdd, Nat.reduceSub, Nat.reduceLeDiff, reduceCtorEq, Int.natCast_zero, Int.natCast_one, Int.cast_ofNat_Int, Int.reduceLT, Int.reduceLE, Int.reduceToNat, Int.reduceNeg, Int.reduceAdd, Int.reduceSub, Int.reducePow, Nat.reducePow, Int.reduceMul, Nat.reduceMul, List.reduceReplicate, List.flatten_cons, List.flatten_nil, ne_eq, not_false_eq_true, not_true_eq_false, List.cons_ne_nil])
local macro_rules | `(tactic| walk_at "ev!") => `(tactic| try simp (disch := first | assumption | omega | (simp only [List.length_cons, List.length_nil, List.length_append, List.length_map, List.length_zip] <;> omega)) only [seval, Lw.ol_toD, Lw.ol_flat, Lw.ol_slice, Lw.ge_call, Lw.ge_glob, Lw.ge_wf, Lw.ge_exm, Lw.bsel_some, Lw.osel_some, Lw.osel_none, Lw.q_var, Lw.q_int, Lw.q_bl, Lw.q_non, Lw.q_str, Lw.q_glob, Lw.q_bin, Lw.q_not, Lw.q_and, Lw.q_or, Lw.q_one, Lw.q_cmp, Lw.q_chain, Lw.q_ifx, Lw.q_tup, Lw.q_lst, Lw.q_idx, Lw.q_slc, Lw.fsel_ok, Lw.fsel_exc, Lw.q_call, Lw.q_prim, Lw.q_isi, Lw.q_nox, Lw.noxE_ok, Lw.q_nil, Lw.q_cons, Lw.qB_nil, Lw.qB_one, Lw.qI_seqT, Lw.qI_seqF, Lw.qI_enumT, Lw.qI_enumF, Lw.qI_zipT, Lw.qI_zipF, Lw.ssel_nx, Lw.ssel_ret, Lw.ssel_exc, Lw.ssel_brk, Lw.ssel_ct, Lw.s_nil', Lw.s_seq', Lw.s_ret', Lw.s_retN', Lw.s_set', Lw.s_setc', Lw.s_unp', Lw.s_par2', Lw.s_par3', Lw.dsel_d, Lw.s_aug', Lw.s_exp', Lw.s_ife', Lw.s_rai', Lw.s_pass', Lw.s_doc', Lw.s_brk', Lw.s_cnt', Lw.xsel_exc, Lw.xsel_nx, Lw.xsel_ret, Lw.s_try', Lw.nox_nx, Lw.nox_ret, Lw.s_hd', Lw.s_hnil', Lw.tst_eq, Lw.cBody_eq, Lw.bind_ok2, Lw.bind_exc2, Lw.bind_stuck2, Lw.then_ok2, Lw.then_exc2, Lw.then_stuck2, Lw.ofOpt_some2, Lw.ofOpt_none2, Lw.ite_okh, Lw.ite_tm, Lw.ite_od, Lw.ite_bool, Lw.ite_int, Lw.isiD_eq, Lw.flat_lst, Lw.whole_int, Lw.ite_else_false, Lw.ite_then_true, Lw.ite_not_false, Lw.flat_d, Lw.eqD_int, Lw.eqD_str, Lw.boolsD_map, Lw.look_tm2, Lw.look_sl2, Lw.join_some2, Lw.lookD_eq, Lw.lookF_eq, Lw.opd_tm, Lw.opd_sl, Lw.boolOf_bool, Lw.bool_eq, Lw.sto_tm, Lw.sto_sl, Lw.esc_tm, Lw.esc_sl, Lw.esel_d, Lw.esel_ol, Lw.arg_eq, Lw.asel_scr, Lw.asel_d, Lw.asel_ol, Lw.asel_lst, Lw.argsO_nil, Lw.argsO_cons, Lw.escs_nil, Lw.escs_cons, Lw.stos_nil, Lw.stos_cons, Lw.looksD_nil, Lw.looksD_cons, Lw.looksF_nil, Lw.looksF_cons, Lw.partD_nil, Lw.intOf_int, Lw.partD_one, Lw.okD_eq, Lw.deep_tm, Lw.deep_sl, Lw.isB_int_none, Lw.isB_int_bool, Lw.isB_int_int, Lw.isB_int_str, Lw.isB_int_list, Lw.isB_int_tuple, Lw.isB_bool_none, Lw.isB_bool_bool, Lw.isB_bool_int, Lw.isB_bool_str, Lw.isB_bool_list, Lw.isB_bool_tuple, Lw.isB_str_none, Lw.isB_str_bool, Lw.isB_str_int, Lw.isB_str_str, Lw.isB_str_list, Lw.isB_str_tuple, Lw.isB_tuple_none, Lw.isB_tuple_bool, Lw.isB_tuple_int, Lw.isB_tuple_str, Lw.isB_tuple_list, Lw.isB_tuple_tuple, Lw.isB_list_none, Lw.isB_list_bool, Lw.isB_list_int, Lw.isB_list_str, Lw.isB_list_list, Lw.isB_list_tuple, Lw.whole_none, Lw.whole_bool, Lw.whole_str, Lw.whole_list, Lw.whole_tuple, Lw.primO_len, Lw.primO_int, Lw.primO_abs, Lw.primO_max, Lw.primO_min, Lw.primO_sum, Lw.primO_all, Lw.primO_any, Lw.primO_tuple, Lw.primO_list, Lw.primO_sorted, Lw.lenO_l, Lw.lenO_t, Lw.intO_i, Lw.absO_i, Lw.maxO_2, Lw.minO_2, Lw.sumO_l, Lw.sumO_t, Lw.allO_l, Lw.anyO_l, Lw.tupleO_l, Lw.tupleO_t, Lw.listO_l, Lw.listO_t, Lw.sortedO_l, Lw.bin_add, Lw.bin_sub, Lw.cmp_Eq, Lw.cmp_NotEq, Lw.cmp_Lt, Lw.cmp_LtE, Lw.cmp_Gt, Lw.cmp_GtE, Lw.cmp_In, Lw.cmp_NotIn, Lw.cmp_Is, Lw.cmp_IsNot, Lw.notNone_none, Lw.notNone_bool, Lw.notNone_int, Lw.notNone_str, Lw.notNone_list, Lw.notNone_tuple, Lw.ltD_int, Lw.leD_int, Lw.gtD_int, Lw.geD_int, Lw.idx_t, Lw.idx_l, Lw.items_l, Lw.items_t, Lw.slice_t, Lw.slice_dl, Lw.slice_scr, Lw.zsel_l, Lw.zsel_t, Lw.zsel_lt, Lw.zsel_tl, Lw.outF_ret, Lw.outF_nx, Lw.outF_exc, Lw.asgT_var, Lw.asgT_tup, Lw.asgTs_nil, Lw.asgTs_cons, Lw.wipe_nil, Lw.wipe_cons, Lw.quiet_nil, Lw.quiet_cons, Lw.quiet_none, Lw.quiet_d, Lw.quiet_jd, Lw.aug_add2, Lw.aug_sub2, Lw.q_neg2, Lw.revO_t, Lw.revO_l, Lw.q_rev2, Lw.listOf_l, Lw.q_sset2, Lw.qI_rng1', Lw.rgsel_2, Lw.qI_rng2', Lw.bin_mul1, Lw.bin_mul3, Lw.bin_fdiv1, Lw.bin_fdiv2, Lw.bin_mod1, Lw.aug_mul1, Lw.bin_addT1, Lw.bin_addL1, Lw.bin_mulL1, Lw.bin_mulT1, Lw.ix_pos, Lw.ix_neg, Lw.lenOk_ok, Lw.rgD_ok', Lw.eqD_ints, Lw.eqD_tints, Lw.sliceD_from, Lw.sliceD_to, Lw.ltD_tints, Lw.leD_tints, Lw.ol_nil', Lw.ol_one', Lw.ol_two', Lw.ol_three', Lw.ol_four', Lw.ol_five', Lw.bin_pow1, Lw.lsel_ol, Lw.q_mth, Lw.appS_ok, Lw.mth_app, Lw.mth_ext, Lw.mth_extd, Lw.T.exm_BadColour_BadColour, Lw.T.exm_BadColour_BadColours, Lw.T.exm_BadColour_BadLight, Lw.T.exm_BadColour_BadStock, Lw.T.exm_BadColour_TooGreat, Lw.T.exm_BadColours_BadColour, Lw.T.exm_BadColours_BadColours, Lw.T.exm_BadColours_BadLight, Lw.T.exm_BadColours_BadStock, Lw.T.exm_BadColours_TooGreat, Lw.T.exm_BadLight_BadColour, Lw.T.exm_BadLight_BadColours, Lw.T.exm_BadLight_BadLight, Lw.T.exm_BadLight_BadStock, Lw.T.exm_BadLight_TooGreat, Lw.T.exm_BadStock_BadColour, Lw.T.exm_BadStock_BadColours, Lw.T.exm_BadStock_BadLight, Lw.T.exm_BadStock_BadStock, Lw.T.exm_BadStock_TooGreat, Lw.T.exm_TooGreat_BadColour, Lw.T.exm_TooGreat_BadColours, Lw.T.exm_TooGreat_BadLight, Lw.T.exm_TooGreat_BadStock, Lw.T.exm_TooGreat_TooGreat, Lw.T.gl_KINDS, Lw.T.gl_MOST_LEAST, Lw.T.gl_MOST_NUMBER, Lw.T.gl_MOST_ROW, Lw.T.gl_MOST_STOCK, Lw.T.gl_PARTS, Lw.T.sp_is_whole, Lw.T.sp_is_colour, Lw.T.sp_is_fraction, Lw.T.sp_are_colours, *, O.walk, O.toD, O.toDs, O.flats, qt, List.getElem?_cons_zero, List.getElem?_cons_succ, List.set_cons_zero, List.set_cons_succ, List.map_cons, List.map_nil, List.cons_append, List.nil_append, List.append_nil, List.length_cons, List.length_nil, List.length_append, List.length_map, List.length_zip,  List.replicate, Option.bind_some, Option.bind_none, Option.map_some, Option.map_none, if_true, if_false, Bool.not_true, Bool.not_false, Bool.true_and, Bool.and_true, Bool.false_and, Bool.and_false, Bool.true_or, Bool.or_true, Bool.false_or, Bool.or_false, Bool.false_eq_true, Bool.and_self, and_self, true_and, and_true, decide_true, decide_false, Nat.zero_add, Nat.reduceAdd, Nat.reduceSub, Nat.reduceLeDiff, reduceCtorEq, Int.natCast_zero, Int.natCast_one, Int.cast_ofNat_Int, Int.reduceLT, Int.reduceLE, Int.reduceToNat, Int.reduceNeg, Int.reduceAdd, Int.reduceSub, Int.reducePow, Nat.reducePow, Int.reduceMul, Nat.reduceMul, List.reduceReplicate, List.flatten_cons, List.flatten_nil, ne_eq, not_false_eq_true, not_true_eq_false, List.cons_ne_nil])
local macro_rules | `(tactic| walk_at "evd") => `(tactic| try simp (disch := first | assumption | omega | (simp only [List.length_cons, List.length_nil, List.length_append, List.length_map, List.length_zip] <;> omega)) only [seval, Lw.ol_toD, Lw.ol_flat, Lw.ol_slice, Lw.ge_call, Lw.ge_glob, Lw.ge_wf, Lw.ge_exm, Lw.bsel_some, Lw.osel_some, Lw.osel_none, Lw.q_var, Lw.q_int, Lw.q_bl, Lw.q_non, Lw.q_str, Lw.q_glob, Lw.q_bin, Lw.q_not, Lw.q_and, Lw.q_or, Lw.q_one, Lw.q_cmp, Lw.q_chain, Lw.q_ifx, Lw.q_tup, Lw.q_lst, Lw.q_idx, Lw.q_slc, Lw.fsel_ok, Lw.fsel_exc, Lw.q_call, Lw.q_prim, Lw.q_isi, Lw.q_nox, Lw.noxE_ok, Lw.q_nil, Lw.q_cons, Lw.qB_nil, Lw.qB_one, Lw.qI_seqT, Lw.qI_seqF, Lw.qI_enumT, Lw.qI_enumF, Lw.qI_zipT, Lw.qI_zipF, Lw.ssel_nx, Lw.ssel_ret, Lw.ssel_exc, Lw.ssel_brk, Lw.ssel_ct, Lw.s_nil', Lw.s_seq', Lw.s_ret', Lw.s_retN', Lw.s_set', Lw.s_setc', Lw.s_unp', Lw.s_par2', Lw.s_par3', Lw.dsel_d, Lw.s_aug', Lw.s_exp', Lw.s_ife', Lw.s_rai', Lw.s_pass', Lw.s_doc', Lw.s_brk', Lw.s_cnt', Lw.xsel_exc, Lw.xsel_nx, Lw.xsel_ret, Lw.s_try', Lw.nox_nx, Lw.nox_ret, Lw.s_hd', Lw.s_hnil', Lw.tst_eq, Lw.cBody_eq, Lw.bind_ok2, Lw.bind_exc2, Lw.bind_stuck2, Lw.then_ok2, Lw.then_exc2, Lw.then_stuck2, Lw.ofOpt_some2, Lw.ofOpt_none2, Lw.ite_okh, Lw.ite_tm, Lw.ite_od, Lw.ite_bool, Lw.ite_int, Lw.isiD_eq, Lw.flat_lst, Lw.whole_int, Lw.ite_else_false, Lw.ite_then_true, Lw.ite_not_false, Lw.flat_d, Lw.eqD_int, Lw.eqD_str, Lw.boolsD_map, Lw.look_tm2, Lw.look_sl2, Lw.join_some2, Lw.lookD_eq, Lw.lookF_eq, Lw.opd_tm, Lw.opd_sl, Lw.boolOf_bool, Lw.bool_eq, Lw.sto_tm, Lw.sto_sl, Lw.esc_tm, Lw.esc_sl, Lw.esel_d, Lw.esel_ol, Lw.arg_eq, Lw.asel_scr, Lw.asel_d, Lw.asel_ol, Lw.asel_lst, Lw.argsO_nil, Lw.argsO_cons, Lw.escs_nil, Lw.escs_cons, Lw.stos_nil, Lw.stos_cons, Lw.looksD_nil, Lw.looksD_cons, Lw.looksF_nil, Lw.looksF_cons, Lw.partD_nil, Lw.intOf_int, Lw.partD_one, Lw.okD_eq, Lw.deep_tm, Lw.deep_sl, Lw.isB_int_none, Lw.isB_int_bool, Lw.isB_int_int, Lw.isB_int_str, Lw.isB_int_list, Lw.isB_int_tuple, Lw.isB_bool_none, Lw.isB_bool_bool, Lw.isB_bool_int, Lw.isB_bool_str, Lw.isB_bool_list, Lw.isB_bool_tuple, Lw.isB_str_none, Lw.isB_str_bool, Lw.isB_str_int, Lw.isB_str_str, Lw.isB_str_list, Lw.isB_str_tuple, Lw.isB_tuple_none, Lw.isB_tuple_bool, Lw.isB_tuple_int, Lw.isB_tuple_str, Lw.isB_tuple_list, Lw.isB_tuple_tuple, Lw.isB_list_none, Lw.isB_list_bool, Lw.isB_list_int, Lw.isB_list_str, Lw.isB_list_list, Lw.isB_list_tuple, Lw.whole_none, Lw.whole_bool, Lw.whole_str, Lw.whole_list, Lw.whole_tuple, Lw.primO_len, Lw.primO_int, Lw.primO_abs, Lw.primO_max, Lw.primO_min, Lw.primO_sum, Lw.primO_all, Lw.primO_any, Lw.primO_tuple, Lw.primO_list, Lw.primO_sorted, Lw.lenO_l, Lw.lenO_t, Lw.intO_i, Lw.absO_i, Lw.maxO_2, Lw.minO_2, Lw.sumO_l, Lw.sumO_t, Lw.allO_l, Lw.anyO_l, Lw.tupleO_l, Lw.tupleO_t, Lw.listO_l, Lw.listO_t, Lw.sortedO_l, Lw.bin_add, Lw.bin_sub, Lw.cmp_Eq, Lw.cmp_NotEq, Lw.cmp_Lt, Lw.cmp_LtE, Lw.cmp_Gt, Lw.cmp_GtE, Lw.cmp_In, Lw.cmp_NotIn, Lw.cmp_Is, Lw.cmp_IsNot, Lw.notNone_none, Lw.notNone_bool, Lw.notNone_int, Lw.notNone_str, Lw.notNone_list, Lw.notNone_tuple, Lw.ltD_int, Lw.leD_int, Lw.gtD_int, Lw.geD_int, Lw.idx_t, Lw.idx_l, Lw.items_l, Lw.items_t, Lw.slice_t, Lw.slice_dl, Lw.slice_scr, Lw.zsel_l, Lw.zsel_t, Lw.zsel_lt, Lw.zsel_tl, Lw.outF_ret, Lw.outF_nx, Lw.outF_exc, Lw.asgT_var, Lw.asgT_tup, Lw.asgTs_nil, Lw.asgTs_cons, Lw.wipe_nil, Lw.wipe_cons, Lw.quiet_nil, Lw.quiet_cons, Lw.quiet_none, Lw.quiet_d, Lw.quiet_jd, Lw.aug_add2, Lw.aug_sub2, Lw.q_neg2, Lw.revO_t, Lw.revO_l, Lw.q_rev2, Lw.listOf_l, Lw.q_sset2, Lw.qI_rng1', Lw.rgsel_2, Lw.qI_rng2', Lw.bin_mul1, Lw.bin_mul3, Lw.bin_fdiv1, Lw.bin_fdiv2, Lw.bin_mod1, Lw.aug_mul1, Lw.bin_addT1, Lw.bin_addL1, Lw.bin_mulL1, Lw.bin_mulT1, Lw.ix_pos, Lw.ix_neg, Lw.lenOk_ok, Lw.rgD_ok', Lw.eqD_ints, Lw.eqD_tints, Lw.sliceD_from, Lw.sliceD_to, Lw.ltD_tints, Lw.leD_tints, Lw.ol_nil', Lw.ol_one', Lw.ol_two', Lw.ol_three', Lw.ol_four', Lw.ol_five', Lw.bin_pow1, Lw.lsel_ol, Lw.q_mth, Lw.appS_ok, Lw.mth_app, Lw.mth_ext, Lw.mth_extd, Lw.T.exm_BadColour_BadColour, Lw.T.exm_BadColour_BadColours, Lw.T.exm_BadColour_BadLight, Lw.T.exm_BadColour_BadStock, Lw.T.exm_BadColour_TooGreat, Lw.T.exm_BadColours_BadColour, Lw.T.exm_BadColours_BadColours, Lw.T.exm_BadColours_BadLight, Lw.T.exm_BadColours_BadStock, Lw.T.exm_BadColours_TooGreat, Lw.T.exm_BadLight_BadColour, Lw.T.exm_BadLight_BadColours, Lw.T.exm_BadLight_BadLight, Lw.T.exm_BadLight_BadStock, Lw.T.exm_BadLight_TooGreat, Lw.T.exm_BadStock_BadColour, Lw.T.exm_BadStock_BadColours, Lw.T.exm_BadStock_BadLight, Lw.T.exm_BadStock_BadStock, Lw.T.exm_BadStock_TooGreat, Lw.T.exm_TooGreat_BadColour, Lw.T.exm_TooGreat_BadColours, Lw.T.exm_TooGreat_BadLight, Lw.T.exm_TooGreat_BadStock, Lw.T.exm_TooGreat_TooGreat, Lw.T.gl_KINDS, Lw.T.gl_MOST_LEAST, Lw.T.gl_MOST_NUMBER, Lw.T.gl_MOST_ROW, Lw.T.gl_MOST_STOCK, Lw.T.gl_PARTS, Lw.T.sp_is_whole, Lw.T.sp_is_colour, Lw.T.sp_is_fraction, Lw.T.sp_are_colours, dec_yes, dec_no, O.walk, O.toD, O.toDs, O.flats, qt, List.getElem?_cons_zero, List.getElem?_cons_succ, List.set_cons_zero, List.set_cons_succ, List.map_cons, List.map_nil, List.cons_append, List.nil_append, List.append_nil, List.length_cons, List.length_nil, List.length_append, List.length_map, List.length_zip,  List.replicate, Option.bind_some, Option.bind_none, Option.map_some, Option.map_none, if_true, if_false, Bool.not_true, Bool.not_false, Bool.true_and, Bool.and_true, Bool.false_and, Bool.and_false, Bool.true_or, Bool.or_true, Bool.false_or, Bool.or_false, Bool.false_eq_true, Bool.and_self, and_self, true_and, and_true, decide_true, decide_false, Nat.zero_add, Nat.reduceAdd, Nat.reduceSub, Nat.reduceLeDiff, reduceCtorEq, Int.natCast_zero, Int.natCast_one, Int.cast_ofNat_Int, Int.reduceLT, Int.reduceLE, Int.reduceToNat, Int.reduceNeg, Int.reduceAdd, Int.reduceSub, Int.reducePow, Nat.reducePow, Int.reduceMul, Nat.reduceMul, List.reduceReplicate, List.flatten_cons, List.flatten_nil, ne_eq, not_false_eq_true, not_true_eq_false, List.cons_ne_nil])
theorem sp_check_colours (l : Nat) (x : PyData) : callN base (l + 4) 8 [.d x] = if areColours x 20 then .ok (.d .none) [] else .exc ⟨"BadColours"⟩ [] := by
  rw [callN_eq t__check_colours rfl]
  unfold r8 b8; walk_at "ev"
  cases h : areColours x 20 <;> walk_at "ev"
/-! fractions -/
theorem log_small {g : Nat} (h : g < 2 ^ 1000) : g.log2 < 9000 := by
  by_cases h0 : g = 0
  · subst h0; decide
  · have := (Nat.log2_lt h0).mpr h
    omega
/-- numbers that all divisions here can do -/
def BIG : Int := 10 ^ 250
theorem big_lt {b : Int} (h : b < BIG) : b < 10 ^ 300 := Int.lt_trans h (by decide +kernel)
theorem log_big {g : Nat} (h : (g : Int) < BIG) : g.log2 < 9000 := log_small (by
  have : (g : Int) < ((2 ^ 1000 : Nat) : Int) := Int.lt_trans h (by decide +kernel)
  exact Int.ofNat_lt.mp this)
theorem sp_lowest (l : Nat) (a b : Int) (ha : 0 ≤ a) (hb : 0 < b) (hB : b < BIG) : callN base (l + 2) 9 [.d (.int a), .d (.int b)] =
    if max (low a b).1 (low a b).2 ≥ MN then .exc ⟨"TooGreat"⟩ [] else .ok (.d (frac (low a b))) [] := by
  rw [callN_eq t__lowest rfl]
  unfold r9 b9; walk_at "ev"
  simp only [sp_divisor l a b ha (by omega) (big_lt hB)]; walk_at "ev"
  have g0 := gcd_pos (a := a) hb
  have g1 : (0 : Int) < (Int.gcd a b : Int) := by omega
  have g2 := gcd_le_right (a := a) hb
  have g3 : ((Int.gcd a b : Int)).natAbs.log2 < 9000 := log_big (by rw [Int.natAbs_natCast]; omega)
  walk_at "ev!"
  have e : (if b / (Int.gcd a b : Int) > a / (Int.gcd a b : Int) then b / (Int.gcd a b : Int) else a / (Int.gcd a b : Int)) = max (low a b).1 (low a b).2 := by
    unfold low; omega
  simp only [e]
  by_cases h : MN ≤ max (low a b).1 (low a b).2
  · rw [if_pos h]
    unfold MN at h
    simp only [h, decide_true]; walk_at "ev"
  · rw [if_neg h]
    unfold MN at h
    simp only [h, decide_false]; walk_at "ev"
    rfl

def eL (l : List (Int × Int)) : PyData := .tuple (l.map frac)
def eC (c : List Int) : PyData := .tuple (c.map .int)
def eR (r : List (List Int)) : PyData := .tuple (r.map eC)
/-- fractions below a bound -/
def Fr (B : Int) (p : Int × Int) : Prop := 0 ≤ p.1 ∧ p.1 < B ∧ 0 < p.2 ∧ p.2 < B ∧ Int.gcd p.1 p.2 = 1
def Cl (c : List Int) : Prop := c.length = 3 ∧ ∀ n ∈ c, 0 ≤ n ∧ n ≤ 16
def Lt (B : Int) (l : List (Int × Int)) : Prop := l.length = 3 ∧ ∀ p ∈ l, Fr B p
theorem low_fr {a b B : Int} (ha : 0 ≤ a) (hb : 0 < b) (h1 : a < B) (h2 : b < B) : Fr B (low a b) := by
  obtain ⟨q1, q2, q3, q4⟩ := low_pos ha hb
  exact ⟨q1, by omega, q3, by omega, low_gcd hb⟩
theorem isFrac_fr {p : Int × Int} (h : Fr MN p) : isFrac (frac p) = true := by
  obtain ⟨h1, h2, h3, h4, h5⟩ := h
  unfold MN at h2 h4
  have e1 : whole (.int p.1) 0 (MN - 1) = true := by unfold MN; simp [whole]; omega
  have e2 : whole (.int p.2) 1 (MN - 1) = true := by unfold MN; simp [whole]; omega
  have e3 : gcdOne (.int p.1) (.int p.2) = true := by simp only [gcdOne, decide_eq_true_eq]; exact h5
  show (whole (.int p.1) 0 (MN - 1) && whole (.int p.2) 1 (MN - 1) && gcdOne (.int p.1) (.int p.2)) = true
  rw [e1, e2, e3]; rfl
theorem isLight_lt {l : List (Int × Int)} (h : Lt MN l) : isLight (eL l) = true := by
  simp [isLight, eL, h.1]
  exact fun a b hab => isFrac_fr (h.2 _ hab)
theorem isColour_cl {c : List Int} (h : Cl c) : isColour (eC c) = true := by
  simp [isColour, eC, h.1, whole]
  exact h.2
theorem areColours_cl {r : List (List Int)} {n : Int} (h : ∀ c ∈ r, Cl c) (hn : (r.length : Int) ≤ n) : areColours (eR r) n = true := by
  simp [areColours, eR, hn]
  exact fun a ha => isColour_cl (h a ha)
theorem small_low {a b : Int} (ha : 0 ≤ a) (hb : 0 < b) (h1 : a < MN) (h2 : b < MN) : ¬ max (low a b).1 (low a b).2 ≥ MN := by
  obtain ⟨q1, q2, q3, q4⟩ := low_pos ha hb
  omega
theorem sp_low (l : Nat) (a b : Int) (ha : 0 ≤ a) (hb : 0 < b) (h1 : a < MN) (h2 : b < MN) : callN base (l + 2) 9 [.d (.int a), .d (.int b)] = .ok (.d (frac (low a b))) [] := by
  rw [sp_lowest l a b ha hb (Int.lt_trans h2 (by decide +kernel)), if_neg (small_low ha hb h1 h2)]
/-- what a glass lets through -/
def letF (p : Int × Int) (n : Int) : Int × Int := low (p.1 * n) (p.2 * 16)
def letL (l : List (Int × Int)) (c : List Int) : List (Int × Int) := (l.zip c).map fun q => letF q.1 q.2
def B1 : Int := 10 ^ 58
theorem MN_B1 : B1 * 16 < MN := by decide +kernel
theorem sp__lets (l : Nat) (ls : List (Int × Int)) (c : List Int) (h1 : Lt B1 ls) (h2 : Cl c) : callN base (l + 3) 10 [.d (eL ls), .d (eC c)] = .ok (.d (eL (letL ls c))) [] := by
  rw [callN_eq t__lets rfl]
  unfold r10 b10
  have hc : ev (base.ge (l + 2)) e__lets_0 [some (.d (eL ls)), some (.d (eC c)), none, none, none] = .ok (.tm (ol ((ls.zip c).map fun q => frac (letF q.1 q.2)))) [some (.d (eL ls)), some (.d (eC c)), none, none, none] := by
    refine ev_map (fun q : (Int × Int) × Int => .tuple [frac q.1, .int q.2]) (ls.zip c) _ ?_ rfl rfl (by rw [List.length_zip, h1.1, h2.1]; decide) fun q hq => ?_
    · unfold eL eC; walk_at "ev"; rw [zipD_map]
    · obtain ⟨⟨a, b⟩, n⟩ := q
      have m1 := (h1.2 _ (List.of_mem_zip hq).1)
      have m2 := (h2.2 _ (List.of_mem_zip hq).2)
      unfold Fr at m1
      simp only at m1
      have k := MN_B1
      have x1 : a * n ≤ B1 * 16 := by
        have := Int.mul_le_mul (a := a) (b := n) (c := B1) (d := 16) (by omega) (by omega) (by omega) (by decide +kernel)
        omega
      have y1 : mulOk a n = true := mulOk_big m1.1 (by unfold B1 at m1; exact Int.lt_trans m1.2.1 (by decide +kernel)) m2.1 (by omega)
      have y2 : mulOk b 16 = true := mulOk_big (by omega) (by unfold B1 at m1; exact Int.lt_trans m1.2.2.2.1 (by decide +kernel)) (by decide) (by decide)
      have z := sp_low l (a * n) (b * 16) (Int.mul_nonneg m1.1 m2.1) (by omega) (by omega) (by omega)
      unfold frac; walk_at "ev!"
      unfold letF frac; rfl
  walk_at "ev"
  simp only [hc]; walk_at "ev"
  simp [eL, letL]
theorem sp_lets (l : Nat) (ls : List (Int × Int)) (c : List Int) (h1 : Lt B1 ls) (h2 : Cl c) : callN base (l + 4) 11 [.d (eL ls), .d (eC c)] = .ok (.d (eL (letL ls c))) [] := by
  rw [callN_eq t_lets rfl]
  unfold r11 b11
  have a1 := sp_check_light l (eL ls)
  have hM : Lt MN ls := ⟨h1.1, fun p hp => by
    have := h1.2 p hp
    have k := MN_B1
    unfold Fr at *
    have : (0 : Int) ≤ B1 := by decide +kernel
    omega⟩
  rw [isLight_lt hM, if_pos rfl] at a1
  have a2 := sp_check_colour l (eC c)
  rw [isColour_cl h2, if_pos rfl] at a2
  have a3 := sp__lets l ls c h1 h2
  walk_at "ev"
  simp only [a1]; walk_at "ev"
  simp only [a2]; walk_at "ev"
  simp only [a3]; walk_at "ev"

/-- the products, kind by kind -/
def mulL (a b : List Int) : List Int := (a.zip b).map fun q => q.1 * q.2
def prodL (r : List (List Int)) : List Int := r.foldl mulL [1, 1, 1]
theorem prodL_snoc (r : List (List Int)) (c : List Int) : prodL (r ++ [c]) = mulL (prodL r) c := by
  unfold prodL; rw [List.foldl_append]; rfl
theorem prodL_ok : ∀ (r : List (List Int)), (∀ c ∈ r, Cl c) → (prodL r).length = 3 ∧ ∀ n ∈ prodL r, 0 ≤ n ∧ n ≤ 16 ^ r.length := by
  refine snocInd (fun _ => ⟨rfl, by decide⟩) fun r c ih h => ?_
  · 
    obtain ⟨h1, h2⟩ := ih fun c hc => h c (by simp [hc])
    have hc := h c (by simp)
    rw [prodL_snoc]
    unfold mulL
    refine ⟨by rw [List.length_map, List.length_zip, h1, hc.1]; decide, fun n hn => ?_⟩
    obtain ⟨⟨x, y⟩, hq, rfl⟩ := List.mem_map.mp hn
    have hx := h2 _ (List.of_mem_zip hq).1
    have hy := hc.2 _ (List.of_mem_zip hq).2
    simp only at hx hy ⊢
    refine ⟨Int.mul_nonneg hx.1 hy.1, ?_⟩
    rw [List.length_append, List.length_singleton, Int.pow_succ]
    exact Int.mul_le_mul hx.2 hy.2 hy.1 (Int.pow_nonneg (by decide))
theorem pow_le {m n : Nat} (h : m ≤ n) : (16 : Int) ^ m ≤ 16 ^ n := by
  have := Nat.pow_le_pow_right (n := 16) (by decide) h
  have e : ∀ k : Nat, ((16 ^ k : Nat) : Int) = (16 : Int) ^ k := fun k => by rw [Int.natCast_pow]; rfl
  rw [← e m, ← e n]
  exact Int.ofNat_le.mpr this
theorem sp_product (l : Nat) (r : List (List Int)) (h : ∀ c ∈ r, Cl c) (hl : r.length ≤ 24) : callN base (l + 1) 12 [.d (eR r)] = .ok (.d (.list ((prodL r).map .int))) [] := by
  rw [callN_eq t__product rfl]
  unfold r12 b12
  have hf : ∃ ro', ex (base.ge l) f__product_0 [some (.d (eR r)), some (ol [.int 1, .int 1, .int 1]), none, none, none] = .nx ro' ∧ ∃ j, ro' = [some (.d (eR r)), some (ol ((prodL r).map .int)), jd j, none, none] := by
    unfold f__product_0
    rw [s_for']
    have e : evI (base.ge l) true (.seq (.var 0)) [some (.d (eR r)), some (ol [.int 1, .int 1, .int 1]), none, none, none] = .ok (r.map eC) [some (.d (eR r)), some (ol [.int 1, .int 1, .int 1]), none, none, none] := by
      unfold eR; walk_at "ev"
    rw [e, Out.then_ok]
    refine fLoop_ind eC r (fun pre ro => ∃ j, ro = [some (.d (eR r)), some (ol ((prodL pre).map .int)), jd j, none, none]) ?_ r [] _ rfl ⟨none, rfl⟩
    rintro pre c post ro hr ⟨j, rfl⟩
    have hpre := prodL_ok pre fun c hc => h c (by rw [hr]; simp [hc])
    have hcc := h c (by rw [hr]; simp)
    have hlen : pre.length ≤ 24 := by
      have := congrArg List.length hr
      simp at this
      omega
    refine ⟨_, _, rfl, .inl ?_, some (eC c), rfl⟩
    have hcp : ev (base.ge l) e__product_0 [some (.d (eR r)), some (ol ((prodL pre).map .int)), some (.d (eC c)), none, none] = .ok (.tm (ol ((((prodL pre).zip c).map fun q => q.1 * q.2).map .int))) [some (.d (eR r)), some (ol ((prodL pre).map .int)), some (.d (eC c)), none, none] := by
      rw [List.map_map]
      refine ev_map (fun q : Int × Int => .tuple [.int q.1, .int q.2]) ((prodL pre).zip c) _ ?_ rfl rfl (by rw [List.length_zip, hpre.1, hcc.1]; decide) fun q hq => ?_
      · unfold eC; walk_at "ev"; rw [zipD_map]
      · obtain ⟨x, y⟩ := q
        have hx := hpre.2 _ (List.of_mem_zip hq).1
        have hy := hcc.2 _ (List.of_mem_zip hq).2
        have y1 : mulOk x y = true := mulOk_big hx.1 (Int.lt_of_le_of_lt (Int.le_trans hx.2 (pow_le hlen)) (by decide +kernel)) hy.1 (by omega)
        walk_at "ev!"
        rfl
    simp only [asgT_var, List.set_cons_succ, List.set_cons_zero, prodL_snoc, mulL]
    walk_at "ev"
    simp only [hcp]; walk_at "ev"
    rfl
  obtain ⟨ro', h1, j, rfl⟩ := hf
  walk_at "ev"
  simp only [h1]; walk_at "ev"

def B2 : Int := 10 ^ 20
theorem Lt.mono {A B : Int} {l : List (Int × Int)} (h : Lt A l) (hab : A ≤ B) : Lt B l := ⟨h.1, fun p hp => by
  have := h.2 p hp
  unfold Fr at *
  omega⟩
theorem Lt.ok {B : Int} {l : List (Int × Int)} (h : Lt B l) (hb : B ≤ MN) : isLight (eL l) = true := isLight_lt (h.mono hb)
theorem ok_light (l : Nat) {B : Int} {ls : List (Int × Int)} (h : Lt B ls) (hb : B ≤ MN) : callN base (l + 3) 5 [.d (eL ls)] = .ok (.d .none) [] := by
  rw [sp_check_light, h.ok hb, if_pos rfl]
theorem ok_colour (l : Nat) {c : List Int} (h : Cl c) : callN base (l + 3) 6 [.d (eC c)] = .ok (.d .none) [] := by
  rw [sp_check_colour, isColour_cl h, if_pos rfl]
theorem ok_colours (l : Nat) {r : List (List Int)} (h : ∀ c ∈ r, Cl c) (hn : r.length ≤ 20) : callN base (l + 4) 8 [.d (eR r)] = .ok (.d .none) [] := by
  rw [sp_check_colours, areColours_cl h (by omega), if_pos rfl]
def thrL (ls : List (Int × Int)) (r : List (List Int)) : List (Int × Int) := (ls.zip (prodL r)).map fun q => low (q.1.1 * q.2) (q.1.2 * 16 ^ r.length)
theorem sp_through (l : Nat) (ls : List (Int × Int)) (r : List (List Int)) (h1 : Lt B2 ls) (h : ∀ c ∈ r, Cl c) (hl : r.length ≤ 6) : callN base (l + 5) 13 [.d (eL ls), .d (eR r)] = .ok (.d (eL (thrL ls r))) [] := by
  rw [callN_eq t_through rfl]
  unfold r13 b13
  have a1 := ok_light (l + 1) h1 (by decide +kernel)
  have a2 := ok_colours l h (by omega)
  have a3 := sp_product (l + 3) r h (by omega)
  have hp := prodL_ok r h
  have hf : ∃ ro', ex (base.ge (l + 4)) f_through_0 [some (.d (eL ls)), some (.d (eR r)), some (.d (.int 1)), none, none, none] = .nx ro' ∧ ∃ j, ro' = [some (.d (eL ls)), some (.d (eR r)), some (.d (.int (16 ^ r.length))), jd j, none, none] := by
    unfold f_through_0
    rw [s_for']
    have e : evI (base.ge (l + 4)) true (.seq (.var 1)) [some (.d (eL ls)), some (.d (eR r)), some (.d (.int 1)), none, none, none] = .ok (r.map eC) [some (.d (eL ls)), some (.d (eR r)), some (.d (.int 1)), none, none, none] := by
      unfold eR; walk_at "ev"
    rw [e, Out.then_ok]
    refine fLoop_ind eC r (fun pre ro => ∃ j, ro = [some (.d (eL ls)), some (.d (eR r)), some (.d (.int (16 ^ pre.length))), jd j, none, none]) ?_ r [] _ rfl ⟨none, rfl⟩
    rintro pre c post ro hr ⟨j, rfl⟩
    refine ⟨_, _, rfl, .inl ?_, some (eC c), rfl⟩
    simp only [List.set_cons_succ, List.set_cons_zero, List.length_append, List.length_singleton, Int.pow_succ]
    walk_at "ev"
    rfl
  obtain ⟨ro', f1, j, rfl⟩ := hf
  have hc : ev (base.ge (l + 4)) e_through_0 [some (.d (eL ls)), some (.d (eR r)), some (.d (.int (16 ^ r.length))), jd j, none, none] = .ok (.tm (ol ((thrL ls r).map frac))) [some (.d (eL ls)), some (.d (eR r)), some (.d (.int (16 ^ r.length))), jd j, none, none] := by
    unfold thrL
    rw [List.map_map]
    refine ev_map (fun q : (Int × Int) × Int => .tuple [frac q.1, .int q.2]) (ls.zip (prodL r)) _ ?_ rfl rfl (by rw [List.length_zip, h1.1, hp.1]; decide) fun q hq => ?_
    · walk_at "ev"
      simp only [a3]; unfold eL; walk_at "ev"; rw [zipD_map]
    · obtain ⟨⟨a, b⟩, n⟩ := q
      have m1 := (h1.2 _ (List.of_mem_zip hq).1)
      have m2 := (hp.2 _ (List.of_mem_zip hq).2)
      unfold Fr at m1
      simp only at m1
      have p6 : (16 : Int) ^ r.length ≤ 16 ^ 6 := pow_le hl
      have p0 : (0 : Int) < 16 ^ r.length := Int.pow_pos (by decide)
      have k : B2 * 16 ^ 6 < MN := by decide +kernel
      generalize (16 : Int) ^ r.length = P at *
      have x1 : a * n ≤ B2 * 16 ^ 6 := by
        have := Int.mul_le_mul (a := a) (b := n) (c := B2) (d := 16 ^ 6) (by omega) (by omega) (by omega) (by decide +kernel)
        omega
      have x2 : b * P ≤ B2 * 16 ^ 6 := by
        have := Int.mul_le_mul (a := b) (b := P) (c := B2) (d := 16 ^ 6) (by omega) (by omega) (by omega) (by decide +kernel)
        omega
      have bb : B2 < 10 ^ 250 := by decide +kernel
      have b6 : (16 : Int) ^ 6 < 10 ^ 250 := by decide +kernel
      have y1 : mulOk a n = true := mulOk_big m1.1 (by omega) m2.1 (by omega)
      have y2 : mulOk b P = true := mulOk_big (by omega) (by omega) (by omega) (by omega)
      have z := sp_low (l + 2) (a * n) (b * P) (Int.mul_nonneg m1.1 m2.1) (Int.mul_pos m1.2.2.1 p0) (by omega) (by omega)
      unfold frac; walk_at "ev!"
      unfold frac; rfl
  walk_at "ev"
  simp only [a1]; walk_at "ev"
  simp only [a2]; walk_at "ev"
  simp only [f1]; walk_at "ev"
  simp only [hc]; walk_at "ev"
  rfl
def meetF (p q : Int × Int) : Int × Int := low (p.1 * q.2 + q.1 * p.2) (p.2 * q.2)
def meetL (a b : List (Int × Int)) : List (Int × Int) := (a.zip b).map fun q => meetF q.1 q.2
theorem sp_meets (l : Nat) (a b : List (Int × Int)) (h1 : Lt B2 a) (h2 : Lt B2 b) : callN base (l + 4) 14 [.d (eL a), .d (eL b)] = .ok (.d (eL (meetL a b))) [] := by
  rw [callN_eq t_meets rfl]
  unfold r14 b14
  have a1 := ok_light l h1 (by decide +kernel)
  have a2 := ok_light l h2 (by decide +kernel)
  have hf : ∃ ro', ex (base.ge (l + 3)) f_meets_0 [some (.d (eL a)), some (.d (eL b)), some (ol []), none, none, none, none] = .nx ro' ∧ ∃ j1 j2 j3 j4, ro' = [some (.d (eL a)), some (.d (eL b)), some (ol ((meetL a b).map frac)), j1, j2, j3, j4] := by
    unfold f_meets_0
    rw [s_for']
    have e : evI (base.ge (l + 3)) true (.zip (.cons (.var 0) (.cons (.var 1) .nil))) [some (.d (eL a)), some (.d (eL b)), some (ol []), none, none, none, none] = .ok ((a.zip b).map fun q => .tuple [frac q.1, frac q.2]) [some (.d (eL a)), some (.d (eL b)), some (ol []), none, none, none, none] := by
      unfold eL; walk_at "ev"; rw [zipD_map]
    rw [e, Out.then_ok]
    refine fLoop_ind (fun q : (Int × Int) × (Int × Int) => .tuple [frac q.1, frac q.2]) (a.zip b) (fun pre ro => ∃ j1 j2 j3 j4, ro = [some (.d (eL a)), some (.d (eL b)), some (ol ((pre.map fun q => meetF q.1 q.2).map frac)), j1, j2, j3, j4]) ?_ (a.zip b) [] _ rfl ⟨_, _, _, _, rfl⟩
    rintro pre ⟨⟨u, d⟩, ⟨m, w⟩⟩ post ro hr ⟨j1, j2, j3, j4, rfl⟩
    have hq : ((u, d), (m, w)) ∈ a.zip b := by rw [hr]; simp
    have hlen : pre.length ≤ 3 := by
      have := congrArg List.length hr
      rw [List.length_zip, h1.1, h2.1] at this
      simp at this
      omega
    have m1 := (h1.2 _ (List.of_mem_zip hq).1)
    have m2 := (h2.2 _ (List.of_mem_zip hq).2)
    unfold Fr at m1 m2
    simp only at m1 m2
    have bb : B2 < 10 ^ 250 := by decide +kernel
    have k : B2 * B2 + B2 * B2 < MN := by decide +kernel
    have b0 : (0 : Int) ≤ B2 := by decide +kernel
    have mm : ∀ x y : Int, 0 ≤ x → x < B2 → 0 ≤ y → y < B2 → x * y ≤ B2 * B2 := fun x y _ _ _ _ => Int.mul_le_mul (by omega) (by omega) (by omega) b0
    have x1 := mm u w m1.1 m1.2.1 (by omega) m2.2.2.2.1
    have x2 := mm m d m2.1 m2.2.1 (by omega) m1.2.2.2.1
    have x3 := mm d w (by omega) m1.2.2.2.1 (by omega) m2.2.2.2.1
    have n1 := Int.mul_nonneg m1.1 (show 0 ≤ w by omega)
    have n2 := Int.mul_nonneg m2.1 (show 0 ≤ d by omega)
    have n3 := Int.mul_pos m1.2.2.1 m2.2.2.1
    have y1 : mulOk u w = true := mulOk_big m1.1 (by omega) (by omega) (by omega)
    have y2 : mulOk m d = true := mulOk_big m2.1 (by omega) (by omega) (by omega)
    have y3 : mulOk d w = true := mulOk_big (by omega) (by omega) (by omega) (by omega)
    have z := sp_low (l + 1) (u * w + m * d) (d * w) (by omega) n3 (by omega) (by omega)
    refine ⟨[some (.d (eL a)), some (.d (eL b)), some (ol ((pre.map fun q => meetF q.1 q.2).map frac)), some (.d (.int u)), some (.d (.int d)), some (.d (.int m)), some (.d (.int w))],
      [some (.d (eL a)), some (.d (eL b)), some (ol (((pre ++ [((u, d), (m, w))]).map fun q => meetF q.1 q.2).map frac)), some (.d (.int u)), some (.d (.int d)), some (.d (.int m)), some (.d (.int w))],
      by unfold frac; walk_at "ev", .inl ?_, _, _, _, _, rfl⟩
    have hl2 : pre.length + 1 ≤ 16777216 := by omega
    walk_at "ev!"
    simp [meetF]
  obtain ⟨ro', f1, j1, j2, j3, j4, rfl⟩ := hf
  walk_at "ev"
  simp only [a1]; walk_at "ev"
  simp only [a2]; walk_at "ev"
  simp only [f1]; walk_at "ev"
  rfl
/-- rows that let through alike -/
def scaleL (k : Nat) (xs : List Int) : List Int := xs.map fun n => n * 16 ^ k
def sameB (a b : List (List Int)) : Bool := decide (scaleL (b.length - a.length) (prodL a) = scaleL (a.length - b.length) (prodL b))
theorem scale_step (k : Nat) (xs : List Int) : ((scaleL k xs).map fun n => n * 16) = scaleL (k + 1) xs := by
  unfold scaleL
  rw [List.map_map]
  refine List.map_congr_left fun x _ => ?_
  simp only [Function.comp]
  rw [Int.pow_succ, Int.mul_assoc]

theorem scale_ok {r : List (List Int)} (h : ∀ c ∈ r, Cl c) (k : Nat) : (scaleL k (prodL r)).length = 3 ∧ ∀ n ∈ scaleL k (prodL r), 0 ≤ n ∧ n ≤ 16 ^ (r.length + k) := by
  obtain ⟨h1, h2⟩ := prodL_ok r h
  refine ⟨by unfold scaleL; rw [List.length_map, h1], fun n hn => ?_⟩
  obtain ⟨m, hm, rfl⟩ := List.mem_map.mp hn
  obtain ⟨a1, a2⟩ := h2 m hm
  have p0 : (0 : Int) ≤ 16 ^ k := Int.pow_nonneg (by decide)
  refine ⟨Int.mul_nonneg a1 p0, ?_⟩
  rw [Int.pow_add]
  exact Int.mul_le_mul_of_nonneg_right a2 p0
theorem scale_zero (xs : List Int) : scaleL 0 xs = xs := by
  unfold scaleL
  conv => rhs; rw [← List.map_id xs]
  exact List.map_congr_left fun x _ => by simp
theorem same_loop (l : Nat) (r : List (List Int)) (h : ∀ c ∈ r, Cl c) (hr : r.length ≤ 6) (k : Nat) (hk : k ≤ 6) (e : CE) (i : Nat) (mk : Option O → Option O → Ro)
    (hi : ∀ o j, evI (base.ge l) false (.seq (.var i)) (mk o j) = match o with | some o => osel (o.flat.bind itemsD) (fun xs => .ok xs (mk (some o) j)) .stuck | none => .stuck) : True := trivial
theorem sp_same (l : Nat) (a b : List (List Int)) (ha : ∀ c ∈ a, Cl c) (hb : ∀ c ∈ b, Cl c) (la : a.length ≤ 6) (lb : b.length ≤ 6) : callN base (l + 2) 15 [.d (eR a), .d (eR b)] = .ok (.d (.bool (sameB a b))) [] := by
  rw [callN_eq t__same rfl]
  unfold r15 b15
  have a1 := sp_product l a ha (by omega)
  have a2 := sp_product l b hb (by omega)
  have bd : ∀ m : Nat, m ≤ 12 → (16 : Int) ^ m ≤ 10 ^ 90 := fun m hm => Int.le_trans (pow_le hm) (by decide +kernel)
  have f1 : ∃ ro', ex (base.ge (l + 1)) f__same_1 [some (.d (eR a)), some (.d (eR b)), none, some (.d (.list ((prodL a).map .int))), some (.d (.list ((prodL b).map .int))), none] = .nx ro' ∧
      ∃ j x, ro' = [some (.d (eR a)), some (.d (eR b)), jd j, some x, some (.d (.list ((prodL b).map .int))), none] ∧ x.toD = some (.list ((scaleL (b.length - a.length) (prodL a)).map .int)) := by
    unfold f__same_1
    rw [s_for']
    have e : evI (base.ge (l + 1)) true (.rng (.cons (.prim .max (.cons (.int 0) (.cons (.bin .Sub (.prim .len (.cons (.var 1) .nil)) (.prim .len (.cons (.var 0) .nil))) .nil))) .nil)) [some (.d (eR a)), some (.d (eR b)), none, some (.d (.list ((prodL a).map .int))), some (.d (.list ((prodL b).map .int))), none] =
        .ok ((List.range (b.length - a.length)).map fun (k : Nat) => .int (k : Int)) [some (.d (eR a)), some (.d (eR b)), none, some (.d (.list ((prodL a).map .int))), some (.d (.list ((prodL b).map .int))), none] := by
      unfold eR; walk_at "ev"
      rw [rangeD_nat (b.length - a.length)]
      omega
    rw [e, Out.then_ok]
    refine (fLoop_ind (fun (k : Nat) => PyData.int (k : Int)) (List.range (b.length - a.length)) (fun pre ro => ∃ j x, ro = [some (.d (eR a)), some (.d (eR b)), jd j, some x, some (.d (.list ((prodL b).map .int))), none] ∧ x.flat = some (.list ((scaleL pre.length (prodL a)).map .int)) ∧ (x = .d (.list ((scaleL pre.length (prodL a)).map .int)) ∨ x = ol ((scaleL pre.length (prodL a)).map .int))) ?_ (List.range (b.length - a.length)) [] _ rfl ⟨none, _, rfl, by rw [flat_d, List.length_nil, scale_zero], by rw [List.length_nil, scale_zero]; exact .inl rfl⟩).imp fun ro' h => ⟨h.1, ?_⟩
    · rintro pre n post ro hr ⟨j, x, rfl, hx, hx2⟩
      have hlen : pre.length + 1 ≤ b.length - a.length := by
        have := congrArg List.length hr
        simp at this
        omega
      obtain ⟨s1, s2⟩ := scale_ok ha pre.length
      refine ⟨_, _, rfl, .inl ?_, some (.int n), _, rfl, ol_flat _, .inr rfl⟩
      have hc : ev (base.ge (l + 1)) e__same_1 [some (.d (eR a)), some (.d (eR b)), some (.d (.int n)), some x, some (.d (.list ((prodL b).map .int))), none] = .ok (.tm (ol (((scaleL pre.length (prodL a)).map fun n => n * 16).map .int))) [some (.d (eR a)), some (.d (eR b)), some (.d (.int n)), some x, some (.d (.list ((prodL b).map .int))), none] := by
        rw [List.map_map]
        refine ev_map PyData.int (scaleL pre.length (prodL a)) _ ?_ rfl rfl (by rw [s1]; decide) fun q hq => ?_
        · walk_at "ev!"
        · have hq := s2 q hq
          have := bd (a.length + pre.length) (by omega)
          walk_at "ev"
          rfl
      simp only [asgT_var, List.set_cons_succ, List.set_cons_zero, List.length_append, List.length_singleton, ← scale_step]
      walk_at "ev"
      simp only [hc]; walk_at "ev"
      rfl
    · obtain ⟨j, x, e1, e2, e3⟩ := h.2
      rw [List.length_range] at e2 e3
      refine ⟨j, x, e1, ?_⟩
      rcases e3 with rfl | rfl
      · rw [toD_d]
      · rw [ol_toD]
  obtain ⟨ro', g1, j1, x1, rfl, hx1⟩ := f1
  have f2 : ∃ ro', ex (base.ge (l + 1)) f__same_0 [some (.d (eR a)), some (.d (eR b)), jd j1, some x1, some (.d (.list ((prodL b).map .int))), none] = .nx ro' ∧
      ∃ j x, ro' = [some (.d (eR a)), some (.d (eR b)), jd j, some x1, some x, none] ∧ x.toD = some (.list ((scaleL (a.length - b.length) (prodL b)).map .int)) := by
    unfold f__same_0
    rw [s_for']
    have e : evI (base.ge (l + 1)) true (.rng (.cons (.prim .max (.cons (.int 0) (.cons (.bin .Sub (.prim .len (.cons (.var 0) .nil)) (.prim .len (.cons (.var 1) .nil))) .nil))) .nil)) [some (.d (eR a)), some (.d (eR b)), jd j1, some x1, some (.d (.list ((prodL b).map .int))), none] =
        .ok ((List.range (a.length - b.length)).map fun (k : Nat) => .int (k : Int)) [some (.d (eR a)), some (.d (eR b)), jd j1, some x1, some (.d (.list ((prodL b).map .int))), none] := by
      unfold eR; walk_at "ev"
      rw [rangeD_nat (a.length - b.length)]
      omega
    rw [e, Out.then_ok]
    refine (fLoop_ind (fun (k : Nat) => PyData.int (k : Int)) (List.range (a.length - b.length)) (fun pre ro => ∃ j x, ro = [some (.d (eR a)), some (.d (eR b)), jd j, some x1, some x, none] ∧ x.flat = some (.list ((scaleL pre.length (prodL b)).map .int)) ∧ (x = .d (.list ((scaleL pre.length (prodL b)).map .int)) ∨ x = ol ((scaleL pre.length (prodL b)).map .int))) ?_ (List.range (a.length - b.length)) [] _ rfl ⟨_, _, rfl, by rw [flat_d, List.length_nil, scale_zero], by rw [List.length_nil, scale_zero]; exact .inl rfl⟩).imp fun ro' h => ⟨h.1, ?_⟩
    · rintro pre n post ro hr ⟨j, x, rfl, hx, hx2⟩
      have hlen : pre.length + 1 ≤ a.length - b.length := by
        have := congrArg List.length hr
        simp at this
        omega
      obtain ⟨s1, s2⟩ := scale_ok hb pre.length
      refine ⟨_, _, rfl, .inl ?_, some (.int n), _, rfl, ol_flat _, .inr rfl⟩
      have hc : ev (base.ge (l + 1)) e__same_0 [some (.d (eR a)), some (.d (eR b)), some (.d (.int n)), some x1, some x, none] = .ok (.tm (ol (((scaleL pre.length (prodL b)).map fun n => n * 16).map .int))) [some (.d (eR a)), some (.d (eR b)), some (.d (.int n)), some x1, some x, none] := by
        rw [List.map_map]
        refine ev_map PyData.int (scaleL pre.length (prodL b)) _ ?_ rfl rfl (by rw [s1]; decide) fun q hq => ?_
        · walk_at "ev!"
        · have hq := s2 q hq
          have := bd (b.length + pre.length) (by omega)
          walk_at "ev"
          rfl
      simp only [asgT_var, List.set_cons_succ, List.set_cons_zero, List.length_append, List.length_singleton, ← scale_step]
      walk_at "ev"
      simp only [hc]; walk_at "ev"
      rfl
    · obtain ⟨j, x, e1, e2, e3⟩ := h.2
      rw [List.length_range] at e2 e3
      refine ⟨j, x, e1, ?_⟩
      rcases e3 with rfl | rfl
      · rw [toD_d]
      · rw [ol_toD]
  obtain ⟨ro', g2, j2, x2, rfl, hx2⟩ := f2
  walk_at "ev"
  simp only [a1]; walk_at "ev"
  simp only [a2]; walk_at "ev"
  simp only [g1]; walk_at "ev"
  simp only [g2]; walk_at "ev"
  simp only [hx1, hx2]; walk_at "ev"
  rfl
theorem sp_same_colours (l : Nat) (a b : List (List Int)) (ha : ∀ c ∈ a, Cl c) (hb : ∀ c ∈ b, Cl c) (la : a.length ≤ 6) (lb : b.length ≤ 6) : callN base (l + 5) 16 [.d (eR a), .d (eR b)] = .ok (.d (.bool (sameB a b))) [] := by
  rw [callN_eq t_same_colours rfl]
  unfold r16 b16
  have a1 := ok_colours l ha (by omega)
  have a2 := ok_colours l hb (by omega)
  have a3 := sp_same (l + 2) a b ha hb la lb
  walk_at "ev"
  simp only [a1]; walk_at "ev"
  simp only [a2]; walk_at "ev"
  simp only [a3]; walk_at "ev"

def ascB (s : List (List Int)) : Bool := (s.zip (s.drop 1)).all fun q => ltC q.1 q.2
theorem sp_ascends (l : Nat) (s : List (List Int)) (h : s.length ≤ 1000) : callN base (l + 1) 1 [.d (eR s)] = .ok (.d (.bool (ascB s))) [] := by
  rw [callN_eq t_ascends rfl]
  unfold r1 b1
  have hc : ev (base.ge l) e_ascends_0 [some (.d (eR s)), none, none] = .ok (.tm (ol ((s.zip (s.drop 1)).map fun q => .bool (ltC q.1 q.2)))) [some (.d (eR s)), none, none] := by
    refine ev_map (fun q : List Int × List Int => .tuple [eC q.1, eC q.2]) (s.zip (s.drop 1)) _ ?_ rfl rfl (by rw [List.length_zip]; omega) fun q hq => ?_
    · unfold eR; walk_at "ev"
      rw [← List.map_drop, zipD_map]
    · unfold eC; walk_at "ev"
  walk_at "ev"
  simp only [hc]; walk_at "ev"
  simp [ascB]
/-- whether a colour may come next in a row -/
def okNext (row : List (List Int)) (one : List Int) : Bool := match row.getLast? with
  | none => true
  | some c => !ltC one c
def nextRows (s : List (List Int)) (rows : List (List (List Int))) : List (List (List Int)) := rows.flatMap fun row => (s.filter (okNext row)).map fun one => row ++ [one]
def lvl (s : List (List Int)) : Nat → List (List (List Int))
  | 0 => [[]]
  | k + 1 => nextRows s (lvl s k)
theorem flatMap_len {α β : Type} (f : α → List β) (n : Nat) : ∀ (xs : List α), (∀ x ∈ xs, (f x).length ≤ n) → (xs.flatMap f).length ≤ xs.length * n
  | [], _ => by simp
  | x :: xs, h => by
    rw [List.flatMap_cons, List.length_append, List.length_cons, Nat.succ_mul]
    have := h x List.mem_cons_self
    have := flatMap_len f n xs fun y hy => h y (List.mem_cons_of_mem _ hy)
    omega
theorem next_len (s : List (List Int)) (hs : s.length ≤ 8) (rows : List (List (List Int))) : (nextRows s rows).length ≤ rows.length * 8 :=
  flatMap_len _ 8 rows fun row _ => by
    rw [List.length_map]
    have := List.length_filter_le (okNext row) s
    omega
theorem lvl_len (s : List (List Int)) (hs : s.length ≤ 8) : ∀ k, (lvl s k).length ≤ 8 ^ k
  | 0 => by simp [lvl]
  | k + 1 => by
    have := next_len s hs (lvl s k)
    have := lvl_len s hs k
    rw [Nat.pow_succ]
    show (nextRows s (lvl s k)).length ≤ _
    omega
theorem lvl_rows (s : List (List Int)) : ∀ k row, row ∈ lvl s k → row.length = k ∧ ∀ c ∈ row, c ∈ s
  | 0, row, h => by
    simp [lvl] at h
    subst h
    exact ⟨rfl, fun _ z => nomatch z⟩
  | k + 1, row, h => by
    obtain ⟨r0, h0, h1⟩ := List.mem_flatMap.mp (show row ∈ nextRows s (lvl s k) from h)
    obtain ⟨one, h2, rfl⟩ := List.mem_map.mp h1
    obtain ⟨a1, a2⟩ := lvl_rows s k r0 h0
    refine ⟨by rw [List.length_append, a1]; rfl, fun c hc => ?_⟩
    rcases List.mem_append.mp hc with hc | hc
    · exact a2 c hc
    · rw [List.mem_singleton.mp hc]
      exact (List.mem_filter.mp h2).1
theorem last_eC (row : List (List Int)) (hne : row ≠ []) : ∃ c, row.getLast? = some c ∧ (row.map eC)[row.length - 1]? = some (eC c) := by
  refine ⟨row.getLast hne, List.getLast?_eq_some_getLast hne, ?_⟩
  rw [List.getElem?_map, ← List.getLast?_eq_getElem?, List.getLast?_eq_some_getLast hne]; rfl
/-- the rows that go on from one -/
theorem next_comp (G : GE) (r s : List (List Int)) (row : List (List Int)) (hs : s.length ≤ 8) (hr : row.length ≤ 10) (o2 o3 o5 : Option O) : ev G e_least_row_0 [some (.d (eR r)), some (.d (eR s)), o2, o3, some (.d (eR row)), o5, none] =
    .ok (.tm (ol (((s.filter (okNext row)).map fun one => row ++ [one]).map eR))) [some (.d (eR r)), some (.d (eR s)), o2, o3, some (.d (eR row)), o5, none] := by
  rw [List.map_map]
  refine ev_filt eC s (okNext row) _ ?_ rfl rfl (by omega) fun c hc => ?_
  · unfold eR; walk_at "ev"
  · by_cases hne : row = []
    · subst hne
      unfold eR; walk_at "ev"
      simp [okNext, eR]
    · obtain ⟨d, h1, h2⟩ := last_eC row hne
      have hl : 0 < row.length := List.length_pos_iff.mpr hne
      have h3 : ((-1 : Int) + row.length).toNat = row.length - 1 := by omega
      have h4 : ¬ ((row.length : Int) = 0) := by omega
      unfold eR; walk_at "evd"
      simp only [h3, h2]; walk_at "ev"
      unfold eC; walk_at "ev"
      cases q : ltC c d
      · walk_at "ev"; simp [okNext, h1, q, eR, eC]
      · walk_at "ev"; simp [okNext, h1, q]

theorem search_loop (l : Nat) (r s : List (List Int)) (rows : List (List (List Int))) (hr : ∀ c ∈ r, Cl c) (lr : r.length ≤ 6) (hrows : ∀ row ∈ rows, (∀ c ∈ row, Cl c) ∧ row.length ≤ 5) (x : O) (hx : isL x (rows.map eR)) (o3 o5 : Option O) (j4 : Option PyData) :
    (∃ j, ex (base.ge (l + 2)) f_least_row_1 [some (.d (eR r)), some (.d (eR s)), some x, o3, jd j4, o5, none] = .nx [some (.d (eR r)), some (.d (eR s)), some (.d (.list (rows.map eR))), o3, jd j, o5, none] ∧ ∀ row ∈ rows, sameB row r = false) ∨
    ∃ row ro', rows.find? (fun row => sameB row r) = some row ∧ ex (base.ge (l + 2)) f_least_row_1 [some (.d (eR r)), some (.d (eR s)), some x, o3, jd j4, o5, none] = .ret (.d (eR row)) ro' := by
  unfold f_least_row_1
  rw [s_for']
  have e : evI (base.ge (l + 2)) true (.seq (.var 2)) [some (.d (eR r)), some (.d (eR s)), some x, o3, jd j4, o5, none] = .ok (rows.map eR) [some (.d (eR r)), some (.d (eR s)), some (.d (.list (rows.map eR))), o3, jd j4, o5, none] := by
    walk_at "ev"
    rw [hx.esel rfl]
    walk_at "ev"
  rw [e, Out.then_ok]
  have k := fLoop_find (tg := .var 4) (b := ex (base.ge (l + 2)) (.seq (.ife (.call 15 (.cons (.var 4) (.cons (.var 0) .nil))) (.seq (.ret (.var 4)) .nil) .nil) .nil)) eR rows (fun pre ro => (∃ j, ro = [some (.d (eR r)), some (.d (eR s)), some (.d (.list (rows.map eR))), o3, jd j, o5, none]) ∧ ∀ row ∈ pre, sameB row r = false)
    (fun out => ∃ row ro', rows.find? (fun row => sameB row r) = some row ∧ out = .ret (.d (eR row)) ro') ?_ rows [] [some (.d (eR r)), some (.d (eR s)), some (.d (.list (rows.map eR))), o3, jd j4, o5, none] rfl ⟨⟨j4, rfl⟩, fun _ z => nomatch z⟩
  · rcases k with ⟨ro', k1, ⟨j, rfl⟩, k2⟩ | ⟨row, ro', k1, k2⟩
    · exact .inl ⟨j, k1, k2⟩
    · exact .inr ⟨row, ro', k1, k2⟩
  · rintro pre a post ro hro ⟨⟨j, rfl⟩, hpre⟩
    obtain ⟨ha1, ha2⟩ := hrows a (by rw [hro]; simp)
    have z := sp_same l a r ha1 hr (by omega) lr
    refine ⟨_, rfl, ?_⟩
    cases hs : sameB a r with
    | false =>
      refine .inl ⟨_, .inl ?_, ⟨some (eR a), rfl⟩, fun row hrow => ?_⟩
      · simp only [asgT_var, List.set_cons_succ, List.set_cons_zero]
        walk_at "ev"
        simp only [z, hs]; walk_at "ev"
        rfl
      · rcases List.mem_append.mp hrow with h | h
        · exact hpre row h
        · rw [List.mem_singleton.mp h]; exact hs
    | true =>
      refine .inr (.inl ⟨.d (eR a), ?r, ?g1, a, ?r, ?g2, rfl⟩)
      case g1 =>
        simp only [asgT_var, List.set_cons_succ, List.set_cons_zero]
        walk_at "ev"
        simp only [z, hs]; walk_at "ev"
        rfl
      case g2 =>
        rw [hro, List.find?_append, List.find?_eq_none.mpr (by simpa using hpre), List.find?_cons_of_pos (by simpa using hs)]
        rfl
theorem grow_loop (l : Nat) (r s : List (List Int)) (rows : List (List (List Int))) (hs : s.length ≤ 8) (hrows : ∀ row ∈ rows, row.length ≤ 5) (hl : rows.length ≤ 5000) (o3 : Option O) (j4 : Option PyData) :
    ∃ j, ex (base.ge (l + 2)) f_least_row_0 [some (.d (eR r)), some (.d (eR s)), some (.d (.list (rows.map eR))), o3, jd j4, some (ol []), none] = .nx [some (.d (eR r)), some (.d (eR s)), some (.d (.list (rows.map eR))), o3, jd j, some (ol ((nextRows s rows).map eR)), none] := by
  unfold f_least_row_0
  rw [s_for']
  have e : evI (base.ge (l + 2)) true (.seq (.var 2)) [some (.d (eR r)), some (.d (eR s)), some (.d (.list (rows.map eR))), o3, jd j4, some (ol []), none] = .ok (rows.map eR) [some (.d (eR r)), some (.d (eR s)), some (.d (.list (rows.map eR))), o3, jd j4, some (ol []), none] := by
    walk_at "ev"
  rw [e, Out.then_ok]
  obtain ⟨ro', k1, j, rfl⟩ := fLoop_ind (tg := .var 4) (b := ex (base.ge (l + 2)) (.seq (.exp (.mth .extend (.var 5) (.cons e_least_row_0 .nil))) .nil)) eR rows (fun pre ro => ∃ j, ro = [some (.d (eR r)), some (.d (eR s)), some (.d (.list (rows.map eR))), o3, jd j, some (ol ((nextRows s pre).map eR)), none]) (fun pre a post ro hro ⟨j, e⟩ => by
    subst e
    have ha := hrows a (by rw [hro]; simp)
    have hpl : pre.length ≤ 5000 := by
      have := congrArg List.length hro
      simp at this
      omega
    have hnl := next_len s hs pre
    have hnl2 := List.length_filter_le (okNext a) s
    refine ⟨_, _, rfl, .inl ?_, some (eR a), rfl⟩
    have hc := next_comp (base.ge (l + 2)) r s a hs (by omega) (some (.d (.list (rows.map eR)))) o3 (some (ol ((nextRows s pre).map eR)))
    simp only [asgT_var, List.set_cons_succ, List.set_cons_zero]
    walk_at "ev"
    simp only [hc]; walk_at "ev"
    rw [show nextRows s (pre ++ [a]) = nextRows s pre ++ ((s.filter (okNext a)).map fun one => a ++ [one]) from by unfold nextRows; rw [List.flatMap_append]; simp]
    rw [List.map_append]
    rfl) rows [] _ rfl ⟨_, rfl⟩
  exact ⟨j, k1⟩
def findRow (s r : List (List Int)) : Option (List (List Int)) := ((List.range 5).flatMap (lvl s)).find? fun row => sameB row r
def rowD : Option (List (List Int)) → PyData
  | none => .none
  | some row => eR row
theorem range_at {n : Nat} {pre post : List Nat} {a : Nat} (h : List.range n = pre ++ a :: post) : a = pre.length ∧ pre = List.range pre.length ∧ pre.length < n := by
  have hl : pre.length < n := by
    have := congrArg List.length h
    simp at this
    omega
  have h1 : (List.range n)[pre.length]? = some a := by rw [h]; simp
  rw [List.getElem?_range hl] at h1
  have h2 : (List.range n).take pre.length = pre := by rw [h]; simp
  rw [List.take_range] at h2
  rw [Nat.min_eq_left (by omega)] at h2
  exact ⟨(Option.some.inj h1).symm, h2.symm, hl⟩
theorem sp_least_row (l : Nat) (r s : List (List Int)) (hr : ∀ c ∈ r, Cl c) (hs : ∀ c ∈ s, Cl c) (lr : r.length ≤ 6) (ls : s.length ≤ 8) (asc : ascB s = true) : callN base (l + 5) 17 [.d (eR r), .d (eR s)] = .ok (.d (rowD (findRow s r))) [] := by
  rw [callN_eq t_least_row rfl]
  unfold r17 b17
  have a1 := ok_colours l hr (by omega)
  have a2 : callN base (l + 4) 7 [.d (eR s), .d (.int 8)] = .ok (.d (.bool true)) [] := by
    rw [sp_are_colours (l + 1) _ 8 (by decide), areColours_cl hs (by omega)]
  have a3 := sp_ascends (l + 3) s (by omega)
  rw [asc] at a3
  have f : (∃ ro', ex (base.ge (l + 4)) f_least_row_2 [some (.d (eR r)), some (.d (eR s)), some (ol [eR []]), none, none, none, none] = .nx ro' ∧ findRow s r = none) ∨
      ∃ row ro', findRow s r = some row ∧ ex (base.ge (l + 4)) f_least_row_2 [some (.d (eR r)), some (.d (eR s)), some (ol [eR []]), none, none, none, none] = .ret (.d (eR row)) ro' := by
    unfold f_least_row_2
    rw [s_for']
    have e : evI (base.ge (l + 4)) true (.rng (.cons (.bin .Add (.glob "MOST_LEAST") (.int 1)) .nil)) [some (.d (eR r)), some (.d (eR s)), some (ol [eR []]), none, none, none, none] = .ok ((List.range 5).map fun (k : Nat) => .int (k : Int)) [some (.d (eR r)), some (.d (eR s)), some (ol [eR []]), none, none, none, none] := by
      walk_at "ev"
      rw [rangeD_nat 5 5 rfl]
    rw [e, Out.then_ok]
    have k := fLoop_find (tg := .var 3) (b := ex (base.ge (l + 4)) (.seq f_least_row_1 (.seq (.set 5 (.lst .nil)) (.seq f_least_row_0 (.seq (.set 2 (.ifx (.cmp .Lt (.var 3) (.glob "MOST_LEAST")) (.var 5) (.lst .nil))) .nil))))) (fun (k : Nat) => PyData.int (k : Int)) (List.range 5)
      (fun pre ro => (∃ x j3 j4 o5, ro = [some (.d (eR r)), some (.d (eR s)), some x, j3, jd j4, o5, none] ∧ (pre.length < 5 → isL x ((lvl s pre.length).map eR))) ∧ ∀ row ∈ (List.range pre.length).flatMap (lvl s), sameB row r = false)
      (fun out => ∃ row ro', findRow s r = some row ∧ out = .ret (.d (eR row)) ro') ?_ (List.range 5) [] [some (.d (eR r)), some (.d (eR s)), some (ol [eR []]), none, none, none, none] rfl ⟨⟨ol [eR []], none, none, none, rfl, fun _ => .inr rfl⟩, fun _ z => nomatch z⟩
    · rcases k with ⟨ro', k1, k2, k3⟩ | ⟨row, ro', k1, k2⟩
      · refine .inl ⟨ro', k1, ?_⟩
        unfold findRow
        rw [List.find?_eq_none]
        intro row hrow
        rw [k3 row (by simpa using hrow)]
        decide
      · exact .inr ⟨row, ro', k1, k2⟩
    · rintro pre a post ro hro ⟨⟨x, j3, j4, o5, rfl, hx⟩, hpre⟩
      obtain ⟨rfl, hp, hlt⟩ := range_at hro
      have hx := hx hlt
      have hrows : ∀ row ∈ lvl s pre.length, (∀ c ∈ row, Cl c) ∧ row.length ≤ 5 := fun row hrow => by
        obtain ⟨q1, q2⟩ := lvl_rows s _ row hrow
        exact ⟨fun c hc => hs c (q2 c hc), by omega⟩
      have hll : (lvl s pre.length).length ≤ 5000 := by
        have := lvl_len s ls pre.length
        have : 8 ^ pre.length ≤ 8 ^ 4 := Nat.pow_le_pow_right (by decide) (by omega)
        omega
      refine ⟨_, rfl, ?_⟩
      simp only [List.set_cons_succ, List.set_cons_zero]
      rcases search_loop (l + 2) r s (lvl s pre.length) hr lr hrows x hx (some (.d (.int (pre.length : Int)))) o5 j4 with ⟨j, g1, g2⟩ | ⟨row, ro', g1, g2⟩
      · obtain ⟨j', g3⟩ := grow_loop (l + 2) r s (lvl s pre.length) ls (fun row h => (hrows row h).2) hll (some (.d (.int (pre.length : Int)))) j
        have hnew : ∀ row ∈ (List.range (pre ++ [pre.length]).length).flatMap (lvl s), sameB row r = false := by
          rw [List.length_append, List.length_singleton, List.range_succ, List.flatMap_append]
          intro row hrow
          rcases List.mem_append.mp hrow with h | h
          · exact hpre row h
          · exact g2 row (by simpa using h)
        by_cases h4 : pre.length < 4
        · refine .inl ⟨_, .inl ?_, ⟨.d (.list ((nextRows s (lvl s pre.length)).map eR)), some (.d (.int (pre.length : Int))), j', some (.d (.list ((nextRows s (lvl s pre.length)).map eR))), rfl, fun _ => ?_⟩, hnew⟩
          · walk_at "ev"
            simp only [g1]; walk_at "ev"
            simp only [g3]; walk_at "evd"
            try rfl
          · rw [List.length_append, List.length_singleton]
            exact .inl rfl
        · refine .inl ⟨_, .inl ?_, ⟨ol [], some (.d (.int (pre.length : Int))), j', some (ol ((nextRows s (lvl s pre.length)).map eR)), rfl, fun z => absurd z (by rw [List.length_append, List.length_singleton]; omega)⟩, hnew⟩
          walk_at "ev"
          simp only [g1]; walk_at "ev"
          simp only [g3]; walk_at "evd"
          try rfl
      · refine .inr (.inl ⟨.d (eR row), ro', ?_, row, ro', ?_, rfl⟩)
        · walk_at "ev"
          simp only [g2]; walk_at "ev"
        · unfold findRow
          have : (List.range 5) = pre ++ pre.length :: post := hro
          rw [this, List.flatMap_append, List.flatMap_cons, List.find?_append, List.find?_append, g1]
          rw [hp, List.find?_eq_none.mpr (fun row' hrow => by rw [hpre row' (by rw [← hp] at hrow ⊢; exact hrow)]; decide)]
          rfl
  walk_at "ev"
  simp only [a1]; walk_at "ev"
  simp only [areColours_cl hs (show (s.length : Int) ≤ 8 by omega)]; walk_at "ev"
  simp only [a3]; walk_at "ev"
  rw [show PyData.tuple [] = eR [] from rfl]
  rcases f with ⟨ro', g1, g2⟩ | ⟨row, ro', g1, g2⟩
  · simp only [g1]; walk_at "ev"
    rw [g2]; rfl
  · simp only [g2]; walk_at "ev"
    rw [g1]; rfl

/-- what draws are -/
def Dr (ds : List Int) : Prop := ∀ d ∈ ds, 0 ≤ d ∧ d < 65521
theorem Dr.nil : Dr [] := fun _ z => nomatch z
theorem Dr.snoc {ds : List Int} {d : Int} (h : Dr ds) (h1 : 0 ≤ d) (h2 : d < 65521) : Dr (ds ++ [d]) := fun x hx => by
  rcases List.mem_append.mp hx with hx | hx
  · exact h x hx
  · rw [List.mem_singleton.mp hx]; exact ⟨h1, h2⟩
theorem draws_in (l : Nat) (ns : List Int) (many : Nat) (ds : List Int) (seed num : Int) (j4 j5 : Option PyData) (hd : Dr ds) (hl : ds.length ≤ 100000) (hn : 0 ≤ num) :
    ∃ ro', ex (base.ge l) f__law_draws_1 [some (.scr ns), some (.d (.int many)), some (ol (ds.map .int)), some (.d (.int seed)), jd j4, jd j5, some (.d (.int num))] = .nx ro' ∧ ∃ ds' num' j5', ro' = [some (.scr ns), some (.d (.int many)), some (ol (ds'.map .int)), some (.d (.int seed)), jd j4, jd j5', some (.d (.int num'))] ∧ Dr ds' ∧ ds'.length ≤ ds.length + 60 := by
  unfold f__law_draws_1
  rw [s_for']
  have e : evI (base.ge l) true (.rng (.cons (.int 60) .nil)) [some (.scr ns), some (.d (.int many)), some (ol (ds.map .int)), some (.d (.int seed)), jd j4, jd j5, some (.d (.int num))] = .ok ((List.range 60).map fun (k : Nat) => .int (k : Int)) [some (.scr ns), some (.d (.int many)), some (ol (ds.map .int)), some (.d (.int seed)), jd j4, jd j5, some (.d (.int num))] := by
    walk_at "ev"
    rw [rangeD_nat 60 60 rfl]
  rw [e, Out.then_ok]
  refine (fLoop_ind (fun (k : Nat) => PyData.int (k : Int)) (List.range 60) (fun pre ro => ∃ ds' num' j5', ro = [some (.scr ns), some (.d (.int many)), some (ol (ds'.map .int)), some (.d (.int seed)), jd j4, jd j5', some (.d (.int num'))] ∧ Dr ds' ∧ ds'.length ≤ ds.length + pre.length ∧ 0 ≤ num') ?_ (List.range 60) [] _ rfl ⟨ds, num, j5, rfl, hd, Nat.le_refl _, hn⟩).imp fun ro' K => ⟨K.1, ?_⟩
  rotate_left
  · obtain ⟨k1, ds', num', j5', rfl, k2, k3, k4⟩ := K
    exact ⟨ds', num', j5', rfl, k2, by simpa using k3⟩
  · rintro pre k post ro hro ⟨ds', num', j5', rfl, h1, h2, h3⟩
    have hp : pre.length < 60 := by
      have := congrArg List.length hro
      simp at this
      omega
    refine ⟨[some (.scr ns), some (.d (.int many)), some (ol (ds'.map .int)), some (.d (.int seed)), jd j4, some (.d (.int k)), some (.d (.int num'))], ?_⟩
    by_cases h : 0 < num'
    · have q1 := Int.emod_nonneg num' (show (1009 : Int) ≠ 0 by omega)
      have q2 := Int.emod_lt_of_pos num' (show (0 : Int) < 1009 by omega)
      refine ⟨[some (.scr ns), some (.d (.int many)), some (ol ((ds' ++ [num' % 1009]).map .int)), some (.d (.int seed)), jd j4, some (.d (.int k)), some (.d (.int (num' / 1009)))], rfl, .inl ?_, _, _, some (.int k), rfl, h1.snoc q1 (by omega), ?_, by omega⟩
      · walk_at "evd"
        simp
      · rw [List.length_append, List.length_append]; simp only [List.length_singleton]; omega
    · refine ⟨[some (.scr ns), some (.d (.int many)), some (ol (ds'.map .int)), some (.d (.int seed)), jd j4, some (.d (.int k)), some (.d (.int num'))], rfl, .inl ?_, ds', num', some (.int k), rfl, h1, ?_, h3⟩
      · walk_at "evd"
      · rw [List.length_append]; omega
theorem draws_out (l : Nat) (ns : List Int) (many : Nat) :
    ∃ ro', ex (base.ge l) f__law_draws_2 [some (.scr ns), some (.d (.int many)), some (ol []), some (.d (.int 7)), none, none, none] = .nx ro' ∧ ∃ ds seed j4 j5 j6, ro' = [some (.scr ns), some (.d (.int many)), some (ol (ds.map .int)), some (.d (.int seed)), jd j4, jd j5, jd j6] ∧ Dr ds ∧ ds.length ≤ 60 * 63 ∧ 0 ≤ seed ∧ seed < 2147483647 := by
  unfold f__law_draws_2
  rw [s_for']
  have e : evI (base.ge l) true (.seq (.slc (.var 0) .nil (.cons (.int 63) .nil))) [some (.scr ns), some (.d (.int many)), some (ol []), some (.d (.int 7)), none, none, none] = .ok ((ns.take 63).map .int) [some (.scr ns), some (.d (.int many)), some (ol []), some (.d (.int 7)), none, none, none] := by
    walk_at "ev"
    simp
  rw [e, Out.then_ok]
  refine (fLoop_ind PyData.int (ns.take 63) (fun pre ro => ∃ ds seed j4 j5 j6, ro = [some (.scr ns), some (.d (.int many)), some (ol (ds.map .int)), some (.d (.int seed)), jd j4, jd j5, jd j6] ∧ Dr ds ∧ ds.length ≤ 60 * pre.length ∧ 0 ≤ seed ∧ seed < 2147483647) ?_ (ns.take 63) [] _ rfl ⟨[], 7, none, none, none, rfl, Dr.nil, Nat.le_refl _, by omega, by omega⟩).imp fun ro' K => ⟨K.1, ?_⟩
  rotate_left
  · obtain ⟨k1, ds, seed, j4, j5, j6, rfl, k2, k3, k4, k5⟩ := K
    refine ⟨ds, seed, j4, j5, j6, rfl, k2, ?_, k4, k5⟩
    rw [List.length_take] at k3
    omega
  · rintro pre c post ro hro ⟨ds, seed, j4, j5, j6, rfl, h1, h2, h3, h4⟩
    have hp : pre.length < 63 := by
      have := congrArg List.length hro
      simp at this
      omega
    have q0 : (0 : Int) ≤ (if c < 0 then -c else c) := by split <;> omega
    generalize hc : (if c < 0 then -c else c) = num at q0
    have q1 := Int.emod_nonneg (seed * 48271 + num + 11) (show (2147483647 : Int) ≠ 0 by omega)
    have q2 := Int.emod_lt_of_pos (seed * 48271 + num + 11) (show (0 : Int) < 2147483647 by omega)
    generalize hs : (seed * 48271 + num + 11) % 2147483647 = seed' at q1 q2
    refine ⟨[some (.scr ns), some (.d (.int many)), some (ol (ds.map .int)), some (.d (.int seed)), some (.d (.int c)), jd j5, jd j6], ?_⟩
    by_cases h : 10 ^ 18 ≤ num
    · obtain ⟨ro', g1, ds', num', j5', rfl, g2, g3⟩ := draws_in l ns many ds seed' num (some (.int c)) j5 h1 (by omega) q0
      refine ⟨[some (.scr ns), some (.d (.int many)), some (ol (ds'.map .int)), some (.d (.int seed')), some (.d (.int c)), jd j5', some (.d (.int num'))], rfl, .inl ?_, ds', seed', some (.int c), j5', some (.int num'), rfl, g2, ?_, q1, q2⟩
      · rw [jd_some] at g1
        walk_at "ev"
        simp only [hc]; walk_at "ev"
        simp only [hs]; walk_at "evd"
        simp only [g1]; walk_at "ev"
      · rw [List.length_append, List.length_singleton]; omega
    · have r1 := Int.emod_nonneg ((seed' * 16807 + 5) / 3) (show (65521 : Int) ≠ 0 by omega)
      have r2 := Int.emod_lt_of_pos ((seed' * 16807 + 5) / 3) (show (0 : Int) < 65521 by omega)
      refine ⟨[some (.scr ns), some (.d (.int many)), some (ol ((ds ++ [(seed' * 16807 + 5) / 3 % 65521]).map .int)), some (.d (.int seed')), some (.d (.int c)), jd j5, some (.d (.int num))], rfl, .inl ?_, _, seed', some (.int c), j5, some (.int num), rfl, h1.snoc r1 r2, ?_, q1, q2⟩
      · walk_at "ev"
        simp only [hc]; walk_at "ev"
        simp only [hs]; walk_at "evd"
        simp
      · rw [List.length_append, List.length_append]; simp only [List.length_singleton]; omega
theorem sp_draws (l : Nat) (ns : List Int) (many : Nat) (hm : many ≤ 1000) : ∃ ds, ds.length = many ∧ Dr ds ∧ callN base (l + 1) 18 [.scr ns, .d (.int many)] = .ok (ol (ds.map .int)) [] := by
  obtain ⟨ro', g1, ds, seed, j4, j5, j6, rfl, g2, g3, g4, g5⟩ := draws_out l ns many
  have f : ∃ ro', ex (base.ge l) f__law_draws_0 [some (.scr ns), some (.d (.int many)), some (ol (ds.map .int)), some (.d (.int seed)), jd j4, jd j5, jd j6] = .nx ro' ∧ ∃ ds' seed' j5', ro' = [some (.scr ns), some (.d (.int many)), some (ol (ds'.map .int)), some (.d (.int seed')), jd j4, jd j5', jd j6] ∧ Dr ds' ∧ many ≤ ds'.length := by
    unfold f__law_draws_0
    rw [s_for']
    have e : evI (base.ge l) true (.rng (.cons (.var 1) .nil)) [some (.scr ns), some (.d (.int many)), some (ol (ds.map .int)), some (.d (.int seed)), jd j4, jd j5, jd j6] = .ok ((List.range many).map fun (k : Nat) => .int (k : Int)) [some (.scr ns), some (.d (.int many)), some (ol (ds.map .int)), some (.d (.int seed)), jd j4, jd j5, jd j6] := by
      walk_at "ev"
      rw [rangeD_nat many _ rfl]
    rw [e, Out.then_ok]
    refine (fLoop_ind (fun (k : Nat) => PyData.int (k : Int)) (List.range many) (fun pre ro => ∃ ds' seed' j5', ro = [some (.scr ns), some (.d (.int many)), some (ol (ds'.map .int)), some (.d (.int seed')), jd j4, jd j5', jd j6] ∧ Dr ds' ∧ pre.length ≤ ds'.length ∧ ds'.length ≤ ds.length + pre.length ∧ 0 ≤ seed' ∧ seed' < 2147483647) ?_ (List.range many) [] _ rfl ⟨ds, seed, j5, rfl, g2, Nat.zero_le _, Nat.le_refl _, g4, g5⟩).imp fun ro' K => ⟨K.1, ?_⟩
    rotate_left
    · obtain ⟨k1, ds', seed', j5', rfl, k2, k3, k4, k5, k6⟩ := K
      exact ⟨ds', seed', j5', rfl, k2, by simpa using k3⟩
    · rintro pre k post ro hro ⟨ds', seed', j5', rfl, h1, h2, h3, h4, h5⟩
      obtain ⟨hk, _, hlt⟩ : k = pre.length ∧ True ∧ pre.length < many := by
        have hl : pre.length < many := by
          have := congrArg List.length hro
          simp at this
          omega
        have h1 : (List.range many)[pre.length]? = some k := by rw [hro]; simp
        rw [List.getElem?_range hl] at h1
        exact ⟨(Option.some.inj h1).symm, trivial, hl⟩
      refine ⟨[some (.scr ns), some (.d (.int many)), some (ol (ds'.map .int)), some (.d (.int seed')), jd j4, some (.d (.int k)), jd j6], ?_⟩
      by_cases h : ds'.length < many
      · have hi : (ds'.length : Int) < many := by omega
        have q1 := Int.emod_nonneg (seed' * 69621 + k + 1) (show (2147483647 : Int) ≠ 0 by omega)
        have q2 := Int.emod_lt_of_pos (seed' * 69621 + k + 1) (show (0 : Int) < 2147483647 by omega)
        generalize hs : (seed' * 69621 + k + 1) % 2147483647 = s2 at q1 q2
        have r1 := Int.emod_nonneg (s2 / 7) (show (65521 : Int) ≠ 0 by omega)
        have r2 := Int.emod_lt_of_pos (s2 / 7) (show (0 : Int) < 65521 by omega)
        refine ⟨[some (.scr ns), some (.d (.int many)), some (ol ((ds' ++ [s2 / 7 % 65521]).map .int)), some (.d (.int s2)), jd j4, some (.d (.int k)), jd j6], rfl, .inl ?_, _, s2, some (.int k), rfl, h1.snoc r1 r2, ?_, ?_, q1, q2⟩
        · walk_at "evd"
          simp only [hs]; walk_at "evd"
          simp
        · rw [List.length_append, List.length_append]; simp only [List.length_singleton]; omega
        · rw [List.length_append, List.length_append]; simp only [List.length_singleton]; omega
      · have hi : ¬ (ds'.length : Int) < many := by omega
        refine ⟨[some (.scr ns), some (.d (.int many)), some (ol (ds'.map .int)), some (.d (.int seed')), jd j4, some (.d (.int k)), jd j6], rfl, .inl ?_, ds', seed', some (.int k), rfl, h1, ?_, ?_, h4, h5⟩
        · walk_at "evd"
        · rw [List.length_append, List.length_singleton]; omega
        · rw [List.length_append, List.length_singleton]; omega
  obtain ⟨ro', f1, ds', seed', j5', rfl, f2, f3⟩ := f
  refine ⟨ds'.take many, by rw [List.length_take]; omega, fun d hd => f2 d (List.mem_of_mem_take hd), ?_⟩
  rw [callN_eq t__law_draws rfl]
  unfold r18 b18
  walk_at "ev"
  simp only [g1]; walk_at "ev"
  simp only [f1]; walk_at "ev"
  simp

theorem sp_lowlaw (l : Nat) (a b : Int) (ha : 0 ≤ a) (hb : 0 < b) (hB : b < BIG) : callN base (l + 1) 19 [.d (.int a), .d (.int b)] = .ok (.d (frac (low a b))) [] := by
  rw [callN_eq t__law_lowest rfl]
  unfold r19 b19
  have hl : ∃ ro', ex (base.ge l) w__law_lowest_0 [some (.d (.int a)), some (.d (.int b)), some (.d (.int a)), some (.d (.int b))] = .nx ro' ∧ ∃ y, ro' = [some (.d (.int a)), some (.d (.int b)), some (.d (.int (Int.gcd a b))), y] := by
    unfold w__law_lowest_0
    rw [s_whl', ge_wf, base_wf]
    refine wLoop_ind (fun m ro => ∃ x y : Int, 0 ≤ x ∧ 0 ≤ y ∧ y.toNat = m ∧ Int.gcd x y = Int.gcd a b ∧ ro = [some (.d (.int a)), some (.d (.int b)), some (.d (.int x)), some (.d (.int y))]) ?_ _ b.toNat _ (wf_int (big_lt hB)) ⟨a, b, ha, by omega, rfl, rfl, rfl⟩
    rintro m ro ⟨x, y, hx, hy, hm, hg, rfl⟩
    by_cases h : 0 < y
    · refine .inr ⟨?_, [some (.d (.int a)), some (.d (.int b)), some (.d (.int y)), some (.d (.int (x % y)))], (x % y).toNat, ?_, ?_, y, x % y, hy, Int.emod_nonneg _ (by omega), rfl, ?_, rfl⟩
      · walk_at "ev"; try simp [h]
      · walk_at "ev"
      · have := Int.emod_lt_of_pos x h; omega
      · rw [gcd_step hx h, hg]
    · refine .inl ⟨?_, some (.d (.int y)), ?_⟩
      · walk_at "ev"; try simp [h]
      · have : y = 0 := by omega
        subst this
        have e : ((x.natAbs : Nat) : Int) = x := by omega
        rw [← hg, Int.gcd_zero_right, e]
  obtain ⟨ro', h1, y, rfl⟩ := hl
  have g0 := gcd_pos (a := a) hb
  have g1 : (0 : Int) < (Int.gcd a b : Int) := by omega
  have g2 := gcd_le_right (a := a) hb
  have g3 : ((Int.gcd a b : Int)).natAbs.log2 < 9000 := log_big (by rw [Int.natAbs_natCast]; omega)
  walk_at "ev"
  simp only [h1]; walk_at "ev!"
  rfl
local macro_rules | `(tactic| walk_at "ev") => `(tactic| try simp (disch := first | assumption | omega | (simp only [List.length_cons, List.length_nil, List.length_append, List.length_map, List.length_zip] <;> omega)) only [seval, Lw.ol_toD, Lw.ol_flat, Lw.ol_slice, Lw.ge_call, Lw.ge_glob, Lw.ge_wf, Lw.ge_exm, Lw.bsel_some, Lw.osel_some, Lw.osel_none, Lw.q_var, Lw.q_int, Lw.q_bl, Lw.q_non, Lw.q_str, Lw.q_glob, Lw.q_bin, Lw.q_not, Lw.q_and, Lw.q_or, Lw.q_one, Lw.q_cmp, Lw.q_chain, Lw.q_ifx, Lw.q_tup, Lw.q_lst, Lw.q_idx, Lw.q_slc, Lw.fsel_ok, Lw.fsel_exc, Lw.q_call, Lw.q_prim, Lw.q_isi, Lw.q_nox, Lw.noxE_ok, Lw.q_nil, Lw.q_cons, Lw.qB_nil, Lw.qB_one, Lw.qI_seqT, Lw.qI_seqF, Lw.qI_enumT, Lw.qI_enumF, Lw.qI_zipT, Lw.qI_zipF, Lw.ssel_nx, Lw.ssel_ret, Lw.ssel_exc, Lw.ssel_brk, Lw.ssel_ct, Lw.s_nil', Lw.s_seq', Lw.s_ret', Lw.s_retN', Lw.s_set', Lw.s_setc', Lw.s_unp', Lw.s_par2', Lw.s_par3', Lw.dsel_d, Lw.s_aug', Lw.s_exp', Lw.s_ife', Lw.s_rai', Lw.s_pass', Lw.s_doc', Lw.s_brk', Lw.s_cnt', Lw.xsel_exc, Lw.xsel_nx, Lw.xsel_ret, Lw.s_try', Lw.nox_nx, Lw.nox_ret, Lw.s_hd', Lw.s_hnil', Lw.tst_eq, Lw.cBody_eq, Lw.bind_ok2, Lw.bind_exc2, Lw.bind_stuck2, Lw.then_ok2, Lw.then_exc2, Lw.then_stuck2, Lw.ofOpt_some2, Lw.ofOpt_none2, Lw.ite_okh, Lw.ite_tm, Lw.ite_od, Lw.ite_bool, Lw.ite_int, Lw.isiD_eq, Lw.flat_lst, Lw.whole_int, Lw.ite_else_false, Lw.ite_then_true, Lw.ite_not_false, Lw.flat_d, Lw.eqD_int, Lw.eqD_str, Lw.boolsD_map, Lw.look_tm2, Lw.look_sl2, Lw.join_some2, Lw.lookD_eq, Lw.lookF_eq, Lw.opd_tm, Lw.opd_sl, Lw.boolOf_bool, Lw.bool_eq, Lw.sto_tm, Lw.sto_sl, Lw.esc_tm, Lw.esc_sl, Lw.esel_d, Lw.esel_ol, Lw.arg_eq, Lw.asel_scr, Lw.asel_d, Lw.asel_ol, Lw.asel_lst, Lw.argsO_nil, Lw.argsO_cons, Lw.escs_nil, Lw.escs_cons, Lw.stos_nil, Lw.stos_cons, Lw.looksD_nil, Lw.looksD_cons, Lw.looksF_nil, Lw.looksF_cons, Lw.partD_nil, Lw.intOf_int, Lw.partD_one, Lw.okD_eq, Lw.deep_tm, Lw.deep_sl, Lw.isB_int_none, Lw.isB_int_bool, Lw.isB_int_int, Lw.isB_int_str, Lw.isB_int_list, Lw.isB_int_tuple, Lw.isB_bool_none, Lw.isB_bool_bool, Lw.isB_bool_int, Lw.isB_bool_str, Lw.isB_bool_list, Lw.isB_bool_tuple, Lw.isB_str_none, Lw.isB_str_bool, Lw.isB_str_int, Lw.isB_str_str, Lw.isB_str_list, Lw.isB_str_tuple, Lw.isB_tuple_none, Lw.isB_tuple_bool, Lw.isB_tuple_int, Lw.isB_tuple_str, Lw.isB_tuple_list, Lw.isB_tuple_tuple, Lw.isB_list_none, Lw.isB_list_bool, Lw.isB_list_int, Lw.isB_list_str, Lw.isB_list_list, Lw.isB_list_tuple, Lw.whole_none, Lw.whole_bool, Lw.whole_str, Lw.whole_list, Lw.whole_tuple, Lw.primO_len, Lw.primO_int, Lw.primO_abs, Lw.primO_max, Lw.primO_min, Lw.primO_sum, Lw.primO_all, Lw.primO_any, Lw.primO_tuple, Lw.primO_list, Lw.primO_sorted, Lw.lenO_l, Lw.lenO_t, Lw.intO_i, Lw.absO_i, Lw.maxO_2, Lw.minO_2, Lw.sumO_l, Lw.sumO_t, Lw.allO_l, Lw.anyO_l, Lw.tupleO_l, Lw.tupleO_t, Lw.listO_l, Lw.listO_t, Lw.sortedO_l, Lw.bin_add, Lw.bin_sub, Lw.cmp_Eq, Lw.cmp_NotEq, Lw.cmp_Lt, Lw.cmp_LtE, Lw.cmp_Gt, Lw.cmp_GtE, Lw.cmp_In, Lw.cmp_NotIn, Lw.cmp_Is, Lw.cmp_IsNot, Lw.notNone_none, Lw.notNone_bool, Lw.notNone_int, Lw.notNone_str, Lw.notNone_list, Lw.notNone_tuple, Lw.ltD_int, Lw.leD_int, Lw.gtD_int, Lw.geD_int, Lw.idx_t, Lw.idx_l, Lw.items_l, Lw.items_t, Lw.slice_t, Lw.slice_dl, Lw.slice_scr, Lw.zsel_l, Lw.zsel_t, Lw.zsel_lt, Lw.zsel_tl, Lw.outF_ret, Lw.outF_nx, Lw.outF_exc, Lw.asgT_var, Lw.asgT_tup, Lw.asgTs_nil, Lw.asgTs_cons, Lw.wipe_nil, Lw.wipe_cons, Lw.quiet_nil, Lw.quiet_cons, Lw.quiet_none, Lw.quiet_d, Lw.quiet_jd, Lw.aug_add2, Lw.aug_sub2, Lw.q_neg2, Lw.revO_t, Lw.revO_l, Lw.q_rev2, Lw.listOf_l, Lw.q_sset2, Lw.qI_rng1', Lw.rgsel_2, Lw.qI_rng2', Lw.bin_mul1, Lw.bin_mul3, Lw.bin_fdiv1, Lw.bin_fdiv2, Lw.bin_mod1, Lw.aug_mul1, Lw.bin_addT1, Lw.bin_addL1, Lw.bin_mulL1, Lw.bin_mulT1, Lw.ix_pos, Lw.ix_neg, Lw.lenOk_ok, Lw.rgD_ok', Lw.eqD_ints, Lw.eqD_tints, Lw.sliceD_from, Lw.sliceD_to, Lw.ltD_tints, Lw.leD_tints, Lw.ol_nil', Lw.ol_one', Lw.ol_two', Lw.ol_three', Lw.ol_four', Lw.ol_five', Lw.bin_pow1, Lw.lsel_ol, Lw.q_mth, Lw.appS_ok, Lw.mth_app, Lw.mth_ext, Lw.mth_extd, Lw.T.exm_BadColour_BadColour, Lw.T.exm_BadColour_BadColours, Lw.T.exm_BadColour_BadLight, Lw.T.exm_BadColour_BadStock, Lw.T.exm_BadColour_TooGreat, Lw.T.exm_BadColours_BadColour, Lw.T.exm_BadColours_BadColours, Lw.T.exm_BadColours_BadLight, Lw.T.exm_BadColours_BadStock, Lw.T.exm_BadColours_TooGreat, Lw.T.exm_BadLight_BadColour, Lw.T.exm_BadLight_BadColours, Lw.T.exm_BadLight_BadLight, Lw.T.exm_BadLight_BadStock, Lw.T.exm_BadLight_TooGreat, Lw.T.exm_BadStock_BadColour, Lw.T.exm_BadStock_BadColours, Lw.T.exm_BadStock_BadLight, Lw.T.exm_BadStock_BadStock, Lw.T.exm_BadStock_TooGreat, Lw.T.exm_TooGreat_BadColour, Lw.T.exm_TooGreat_BadColours, Lw.T.exm_TooGreat_BadLight, Lw.T.exm_TooGreat_BadStock, Lw.T.exm_TooGreat_TooGreat, Lw.T.gl_KINDS, Lw.T.gl_MOST_LEAST, Lw.T.gl_MOST_NUMBER, Lw.T.gl_MOST_ROW, Lw.T.gl_MOST_STOCK, Lw.T.gl_PARTS, Lw.T.sp_is_whole, Lw.T.sp_is_colour, Lw.T.sp_is_fraction, Lw.T.sp_are_colours, Lw.T.sp_lowlaw, O.walk, O.toD, O.toDs, O.flats, qt, List.getElem?_cons_zero, List.getElem?_cons_succ, List.set_cons_zero, List.set_cons_succ, List.map_cons, List.map_nil, List.cons_append, List.nil_append, List.append_nil, List.length_cons, List.length_nil, List.length_append, List.length_map, List.length_zip,  List.replicate, Option.bind_some, Option.bind_none, Option.map_some, Option.map_none, if_true, if_false, Bool.not_true, Bool.not_false, Bool.true_and, Bool.and_true, Bool.false_and, Bool.and_false, Bool.true_or, Bool.or_true, Bool.false_or, Bool.or_false, Bool.false_eq_true, Bool.and_self, and_self, true_and, and_true, decide_true, decide_false, Nat.zero_add, Nat.reduceAdd, Nat.reduceSub, Nat.reduceLeDiff, reduceCtorEq, Int.natCast_zero, Int.natCast_one, Int.cast_ofNat_Int, Int.reduceLT, Int.reduceLE, Int.reduceToNat, Int.reduceNeg, Int.reduceAdd, Int.reduceSub, Int.reducePow, Nat.reducePow, Int.reduceMul, Nat.reduceMul, List.reduceReplicate, List.flatten_cons, List.flatten_nil, ne_eq, not_false_eq_true, not_true_eq_false, List.cons_ne_nil])
local macro_rules | `(tactic| walk_at "ev!") => `(tactic| try simp (disch := first | assumption | omega | (simp only [List.length_cons, List.length_nil, List.length_append, List.length_map, List.length_zip] <;> omega)) only [seval, Lw.ol_toD, Lw.ol_flat, Lw.ol_slice, Lw.ge_call, Lw.ge_glob, Lw.ge_wf, Lw.ge_exm, Lw.bsel_some, Lw.osel_some, Lw.osel_none, Lw.q_var, Lw.q_int, Lw.q_bl, Lw.q_non, Lw.q_str, Lw.q_glob, Lw.q_bin, Lw.q_not, Lw.q_and, Lw.q_or, Lw.q_one, Lw.q_cmp, Lw.q_chain, Lw.q_ifx, Lw.q_tup, Lw.q_lst, Lw.q_idx, Lw.q_slc, Lw.fsel_ok, Lw.fsel_exc, Lw.q_call, Lw.q_prim, Lw.q_isi, Lw.q_nox, Lw.noxE_ok, Lw.q_nil, Lw.q_cons, Lw.qB_nil, Lw.qB_one, Lw.qI_seqT, Lw.qI_seqF, Lw.qI_enumT, Lw.qI_enumF, Lw.qI_zipT, Lw.qI_zipF, Lw.ssel_nx, Lw.ssel_ret, Lw.ssel_exc, Lw.ssel_brk, Lw.ssel_ct, Lw.s_nil', Lw.s_seq', Lw.s_ret', Lw.s_retN', Lw.s_set', Lw.s_setc', Lw.s_unp', Lw.s_par2', Lw.s_par3', Lw.dsel_d, Lw.s_aug', Lw.s_exp', Lw.s_ife', Lw.s_rai', Lw.s_pass', Lw.s_doc', Lw.s_brk', Lw.s_cnt', Lw.xsel_exc, Lw.xsel_nx, Lw.xsel_ret, Lw.s_try', Lw.nox_nx, Lw.nox_ret, Lw.s_hd', Lw.s_hnil', Lw.tst_eq, Lw.cBody_eq, Lw.bind_ok2, Lw.bind_exc2, Lw.bind_stuck2, Lw.then_ok2, Lw.then_exc2, Lw.then_stuck2, Lw.ofOpt_some2, Lw.ofOpt_none2, Lw.ite_okh, Lw.ite_tm, Lw.ite_od, Lw.ite_bool, Lw.ite_int, Lw.isiD_eq, Lw.flat_lst, Lw.whole_int, Lw.ite_else_false, Lw.ite_then_true, Lw.ite_not_false, Lw.flat_d, Lw.eqD_int, Lw.eqD_str, Lw.boolsD_map, Lw.look_tm2, Lw.look_sl2, Lw.join_some2, Lw.lookD_eq, Lw.lookF_eq, Lw.opd_tm, Lw.opd_sl, Lw.boolOf_bool, Lw.bool_eq, Lw.sto_tm, Lw.sto_sl, Lw.esc_tm, Lw.esc_sl, Lw.esel_d, Lw.esel_ol, Lw.arg_eq, Lw.asel_scr, Lw.asel_d, Lw.asel_ol, Lw.asel_lst, Lw.argsO_nil, Lw.argsO_cons, Lw.escs_nil, Lw.escs_cons, Lw.stos_nil, Lw.stos_cons, Lw.looksD_nil, Lw.looksD_cons, Lw.looksF_nil, Lw.looksF_cons, Lw.partD_nil, Lw.intOf_int, Lw.partD_one, Lw.okD_eq, Lw.deep_tm, Lw.deep_sl, Lw.isB_int_none, Lw.isB_int_bool, Lw.isB_int_int, Lw.isB_int_str, Lw.isB_int_list, Lw.isB_int_tuple, Lw.isB_bool_none, Lw.isB_bool_bool, Lw.isB_bool_int, Lw.isB_bool_str, Lw.isB_bool_list, Lw.isB_bool_tuple, Lw.isB_str_none, Lw.isB_str_bool, Lw.isB_str_int, Lw.isB_str_str, Lw.isB_str_list, Lw.isB_str_tuple, Lw.isB_tuple_none, Lw.isB_tuple_bool, Lw.isB_tuple_int, Lw.isB_tuple_str, Lw.isB_tuple_list, Lw.isB_tuple_tuple, Lw.isB_list_none, Lw.isB_list_bool, Lw.isB_list_int, Lw.isB_list_str, Lw.isB_list_list, Lw.isB_list_tuple, Lw.whole_none, Lw.whole_bool, Lw.whole_str, Lw.whole_list, Lw.whole_tuple, Lw.primO_len, Lw.primO_int, Lw.primO_abs, Lw.primO_max, Lw.primO_min, Lw.primO_sum, Lw.primO_all, Lw.primO_any, Lw.primO_tuple, Lw.primO_list, Lw.primO_sorted, Lw.lenO_l, Lw.lenO_t, Lw.intO_i, Lw.absO_i, Lw.maxO_2, Lw.minO_2, Lw.sumO_l, Lw.sumO_t, Lw.allO_l, Lw.anyO_l, Lw.tupleO_l, Lw.tupleO_t, Lw.listO_l, Lw.listO_t, Lw.sortedO_l, Lw.bin_add, Lw.bin_sub, Lw.cmp_Eq, Lw.cmp_NotEq, Lw.cmp_Lt, Lw.cmp_LtE, Lw.cmp_Gt, Lw.cmp_GtE, Lw.cmp_In, Lw.cmp_NotIn, Lw.cmp_Is, Lw.cmp_IsNot, Lw.notNone_none, Lw.notNone_bool, Lw.notNone_int, Lw.notNone_str, Lw.notNone_list, Lw.notNone_tuple, Lw.ltD_int, Lw.leD_int, Lw.gtD_int, Lw.geD_int, Lw.idx_t, Lw.idx_l, Lw.items_l, Lw.items_t, Lw.slice_t, Lw.slice_dl, Lw.slice_scr, Lw.zsel_l, Lw.zsel_t, Lw.zsel_lt, Lw.zsel_tl, Lw.outF_ret, Lw.outF_nx, Lw.outF_exc, Lw.asgT_var, Lw.asgT_tup, Lw.asgTs_nil, Lw.asgTs_cons, Lw.wipe_nil, Lw.wipe_cons, Lw.quiet_nil, Lw.quiet_cons, Lw.quiet_none, Lw.quiet_d, Lw.quiet_jd, Lw.aug_add2, Lw.aug_sub2, Lw.q_neg2, Lw.revO_t, Lw.revO_l, Lw.q_rev2, Lw.listOf_l, Lw.q_sset2, Lw.qI_rng1', Lw.rgsel_2, Lw.qI_rng2', Lw.bin_mul1, Lw.bin_mul3, Lw.bin_fdiv1, Lw.bin_fdiv2, Lw.bin_mod1, Lw.aug_mul1, Lw.bin_addT1, Lw.bin_addL1, Lw.bin_mulL1, Lw.bin_mulT1, Lw.ix_pos, Lw.ix_neg, Lw.lenOk_ok, Lw.rgD_ok', Lw.eqD_ints, Lw.eqD_tints, Lw.sliceD_from, Lw.sliceD_to, Lw.ltD_tints, Lw.leD_tints, Lw.ol_nil', Lw.ol_one', Lw.ol_two', Lw.ol_three', Lw.ol_four', Lw.ol_five', Lw.bin_pow1, Lw.lsel_ol, Lw.q_mth, Lw.appS_ok, Lw.mth_app, Lw.mth_ext, Lw.mth_extd, Lw.T.exm_BadColour_BadColour, Lw.T.exm_BadColour_BadColours, Lw.T.exm_BadColour_BadLight, Lw.T.exm_BadColour_BadStock, Lw.T.exm_BadColour_TooGreat, Lw.T.exm_BadColours_BadColour, Lw.T.exm_BadColours_BadColours, Lw.T.exm_BadColours_BadLight, Lw.T.exm_BadColours_BadStock, Lw.T.exm_BadColours_TooGreat, Lw.T.exm_BadLight_BadColour, Lw.T.exm_BadLight_BadColours, Lw.T.exm_BadLight_BadLight, Lw.T.exm_BadLight_BadStock, Lw.T.exm_BadLight_TooGreat, Lw.T.exm_BadStock_BadColour, Lw.T.exm_BadStock_BadColours, Lw.T.exm_BadStock_BadLight, Lw.T.exm_BadStock_BadStock, Lw.T.exm_BadStock_TooGreat, Lw.T.exm_TooGreat_BadColour, Lw.T.exm_TooGreat_BadColours, Lw.T.exm_TooGreat_BadLight, Lw.T.exm_TooGreat_BadStock, Lw.T.exm_TooGreat_TooGreat, Lw.T.gl_KINDS, Lw.T.gl_MOST_LEAST, Lw.T.gl_MOST_NUMBER, Lw.T.gl_MOST_ROW, Lw.T.gl_MOST_STOCK, Lw.T.gl_PARTS, Lw.T.sp_is_whole, Lw.T.sp_is_colour, Lw.T.sp_is_fraction, Lw.T.sp_are_colours, Lw.T.sp_lowlaw, *, O.walk, O.toD, O.toDs, O.flats, qt, List.getElem?_cons_zero, List.getElem?_cons_succ, List.set_cons_zero, List.set_cons_succ, List.map_cons, List.map_nil, List.cons_append, List.nil_append, List.append_nil, List.length_cons, List.length_nil, List.length_append, List.length_map, List.length_zip,  List.replicate, Option.bind_some, Option.bind_none, Option.map_some, Option.map_none, if_true, if_false, Bool.not_true, Bool.not_false, Bool.true_and, Bool.and_true, Bool.false_and, Bool.and_false, Bool.true_or, Bool.or_true, Bool.false_or, Bool.or_false, Bool.false_eq_true, Bool.and_self, and_self, true_and, and_true, decide_true, decide_false, Nat.zero_add, Nat.reduceAdd, Nat.reduceSub, Nat.reduceLeDiff, reduceCtorEq, Int.natCast_zero, Int.natCast_one, Int.cast_ofNat_Int, Int.reduceLT, Int.reduceLE, Int.reduceToNat, Int.reduceNeg, Int.reduceAdd, Int.reduceSub, Int.reducePow, Nat.reducePow, Int.reduceMul, Nat.reduceMul, List.reduceReplicate, List.flatten_cons, List.flatten_nil, ne_eq, not_false_eq_true, not_true_eq_false, List.cons_ne_nil])
local macro_rules | `(tactic| walk_at "evd") => `(tactic| try simp (disch := first | assumption | omega | (simp only [List.length_cons, List.length_nil, List.length_append, List.length_map, List.length_zip] <;> omega)) only [seval, Lw.ol_toD, Lw.ol_flat, Lw.ol_slice, Lw.ge_call, Lw.ge_glob, Lw.ge_wf, Lw.ge_exm, Lw.bsel_some, Lw.osel_some, Lw.osel_none, Lw.q_var, Lw.q_int, Lw.q_bl, Lw.q_non, Lw.q_str, Lw.q_glob, Lw.q_bin, Lw.q_not, Lw.q_and, Lw.q_or, Lw.q_one, Lw.q_cmp, Lw.q_chain, Lw.q_ifx, Lw.q_tup, Lw.q_lst, Lw.q_idx, Lw.q_slc, Lw.fsel_ok, Lw.fsel_exc, Lw.q_call, Lw.q_prim, Lw.q_isi, Lw.q_nox, Lw.noxE_ok, Lw.q_nil, Lw.q_cons, Lw.qB_nil, Lw.qB_one, Lw.qI_seqT, Lw.qI_seqF, Lw.qI_enumT, Lw.qI_enumF, Lw.qI_zipT, Lw.qI_zipF, Lw.ssel_nx, Lw.ssel_ret, Lw.ssel_exc, Lw.ssel_brk, Lw.ssel_ct, Lw.s_nil', Lw.s_seq', Lw.s_ret', Lw.s_retN', Lw.s_set', Lw.s_setc', Lw.s_unp', Lw.s_par2', Lw.s_par3', Lw.dsel_d, Lw.s_aug', Lw.s_exp', Lw.s_ife', Lw.s_rai', Lw.s_pass', Lw.s_doc', Lw.s_brk', Lw.s_cnt', Lw.xsel_exc, Lw.xsel_nx, Lw.xsel_ret, Lw.s_try', Lw.nox_nx, Lw.nox_ret, Lw.s_hd', Lw.s_hnil', Lw.tst_eq, Lw.cBody_eq, Lw.bind_ok2, Lw.bind_exc2, Lw.bind_stuck2, Lw.then_ok2, Lw.then_exc2, Lw.then_stuck2, Lw.ofOpt_some2, Lw.ofOpt_none2, Lw.ite_okh, Lw.ite_tm, Lw.ite_od, Lw.ite_bool, Lw.ite_int, Lw.isiD_eq, Lw.flat_lst, Lw.whole_int, Lw.ite_else_false, Lw.ite_then_true, Lw.ite_not_false, Lw.flat_d, Lw.eqD_int, Lw.eqD_str, Lw.boolsD_map, Lw.look_tm2, Lw.look_sl2, Lw.join_some2, Lw.lookD_eq, Lw.lookF_eq, Lw.opd_tm, Lw.opd_sl, Lw.boolOf_bool, Lw.bool_eq, Lw.sto_tm, Lw.sto_sl, Lw.esc_tm, Lw.esc_sl, Lw.esel_d, Lw.esel_ol, Lw.arg_eq, Lw.asel_scr, Lw.asel_d, Lw.asel_ol, Lw.asel_lst, Lw.argsO_nil, Lw.argsO_cons, Lw.escs_nil, Lw.escs_cons, Lw.stos_nil, Lw.stos_cons, Lw.looksD_nil, Lw.looksD_cons, Lw.looksF_nil, Lw.looksF_cons, Lw.partD_nil, Lw.intOf_int, Lw.partD_one, Lw.okD_eq, Lw.deep_tm, Lw.deep_sl, Lw.isB_int_none, Lw.isB_int_bool, Lw.isB_int_int, Lw.isB_int_str, Lw.isB_int_list, Lw.isB_int_tuple, Lw.isB_bool_none, Lw.isB_bool_bool, Lw.isB_bool_int, Lw.isB_bool_str, Lw.isB_bool_list, Lw.isB_bool_tuple, Lw.isB_str_none, Lw.isB_str_bool, Lw.isB_str_int, Lw.isB_str_str, Lw.isB_str_list, Lw.isB_str_tuple, Lw.isB_tuple_none, Lw.isB_tuple_bool, Lw.isB_tuple_int, Lw.isB_tuple_str, Lw.isB_tuple_list, Lw.isB_tuple_tuple, Lw.isB_list_none, Lw.isB_list_bool, Lw.isB_list_int, Lw.isB_list_str, Lw.isB_list_list, Lw.isB_list_tuple, Lw.whole_none, Lw.whole_bool, Lw.whole_str, Lw.whole_list, Lw.whole_tuple, Lw.primO_len, Lw.primO_int, Lw.primO_abs, Lw.primO_max, Lw.primO_min, Lw.primO_sum, Lw.primO_all, Lw.primO_any, Lw.primO_tuple, Lw.primO_list, Lw.primO_sorted, Lw.lenO_l, Lw.lenO_t, Lw.intO_i, Lw.absO_i, Lw.maxO_2, Lw.minO_2, Lw.sumO_l, Lw.sumO_t, Lw.allO_l, Lw.anyO_l, Lw.tupleO_l, Lw.tupleO_t, Lw.listO_l, Lw.listO_t, Lw.sortedO_l, Lw.bin_add, Lw.bin_sub, Lw.cmp_Eq, Lw.cmp_NotEq, Lw.cmp_Lt, Lw.cmp_LtE, Lw.cmp_Gt, Lw.cmp_GtE, Lw.cmp_In, Lw.cmp_NotIn, Lw.cmp_Is, Lw.cmp_IsNot, Lw.notNone_none, Lw.notNone_bool, Lw.notNone_int, Lw.notNone_str, Lw.notNone_list, Lw.notNone_tuple, Lw.ltD_int, Lw.leD_int, Lw.gtD_int, Lw.geD_int, Lw.idx_t, Lw.idx_l, Lw.items_l, Lw.items_t, Lw.slice_t, Lw.slice_dl, Lw.slice_scr, Lw.zsel_l, Lw.zsel_t, Lw.zsel_lt, Lw.zsel_tl, Lw.outF_ret, Lw.outF_nx, Lw.outF_exc, Lw.asgT_var, Lw.asgT_tup, Lw.asgTs_nil, Lw.asgTs_cons, Lw.wipe_nil, Lw.wipe_cons, Lw.quiet_nil, Lw.quiet_cons, Lw.quiet_none, Lw.quiet_d, Lw.quiet_jd, Lw.aug_add2, Lw.aug_sub2, Lw.q_neg2, Lw.revO_t, Lw.revO_l, Lw.q_rev2, Lw.listOf_l, Lw.q_sset2, Lw.qI_rng1', Lw.rgsel_2, Lw.qI_rng2', Lw.bin_mul1, Lw.bin_mul3, Lw.bin_fdiv1, Lw.bin_fdiv2, Lw.bin_mod1, Lw.aug_mul1, Lw.bin_addT1, Lw.bin_addL1, Lw.bin_mulL1, Lw.bin_mulT1, Lw.ix_pos, Lw.ix_neg, Lw.lenOk_ok, Lw.rgD_ok', Lw.eqD_ints, Lw.eqD_tints, Lw.sliceD_from, Lw.sliceD_to, Lw.ltD_tints, Lw.leD_tints, Lw.ol_nil', Lw.ol_one', Lw.ol_two', Lw.ol_three', Lw.ol_four', Lw.ol_five', Lw.bin_pow1, Lw.lsel_ol, Lw.q_mth, Lw.appS_ok, Lw.mth_app, Lw.mth_ext, Lw.mth_extd, Lw.T.exm_BadColour_BadColour, Lw.T.exm_BadColour_BadColours, Lw.T.exm_BadColour_BadLight, Lw.T.exm_BadColour_BadStock, Lw.T.exm_BadColour_TooGreat, Lw.T.exm_BadColours_BadColour, Lw.T.exm_BadColours_BadColours, Lw.T.exm_BadColours_BadLight, Lw.T.exm_BadColours_BadStock, Lw.T.exm_BadColours_TooGreat, Lw.T.exm_BadLight_BadColour, Lw.T.exm_BadLight_BadColours, Lw.T.exm_BadLight_BadLight, Lw.T.exm_BadLight_BadStock, Lw.T.exm_BadLight_TooGreat, Lw.T.exm_BadStock_BadColour, Lw.T.exm_BadStock_BadColours, Lw.T.exm_BadStock_BadLight, Lw.T.exm_BadStock_BadStock, Lw.T.exm_BadStock_TooGreat, Lw.T.exm_TooGreat_BadColour, Lw.T.exm_TooGreat_BadColours, Lw.T.exm_TooGreat_BadLight, Lw.T.exm_TooGreat_BadStock, Lw.T.exm_TooGreat_TooGreat, Lw.T.gl_KINDS, Lw.T.gl_MOST_LEAST, Lw.T.gl_MOST_NUMBER, Lw.T.gl_MOST_ROW, Lw.T.gl_MOST_STOCK, Lw.T.gl_PARTS, Lw.T.sp_is_whole, Lw.T.sp_is_colour, Lw.T.sp_is_fraction, Lw.T.sp_are_colours, Lw.T.sp_lowlaw, dec_yes, dec_no, O.walk, O.toD, O.toDs, O.flats, qt, List.getElem?_cons_zero, List.getElem?_cons_succ, List.set_cons_zero, List.set_cons_succ, List.map_cons, List.map_nil, List.cons_append, List.nil_append, List.append_nil, List.length_cons, List.length_nil, List.length_append, List.length_map, List.length_zip,  List.replicate, Option.bind_some, Option.bind_none, Option.map_some, Option.map_none, if_true, if_false, Bool.not_true, Bool.not_false, Bool.true_and, Bool.and_true, Bool.false_and, Bool.and_false, Bool.true_or, Bool.or_true, Bool.false_or, Bool.or_false, Bool.false_eq_true, Bool.and_self, and_self, true_and, and_true, decide_true, decide_false, Nat.zero_add, Nat.reduceAdd, Nat.reduceSub, Nat.reduceLeDiff, reduceCtorEq, Int.natCast_zero, Int.natCast_one, Int.cast_ofNat_Int, Int.reduceLT, Int.reduceLE, Int.reduceToNat, Int.reduceNeg, Int.reduceAdd, Int.reduceSub, Int.reducePow, Nat.reducePow, Int.reduceMul, Nat.reduceMul, List.reduceReplicate, List.flatten_cons, List.flatten_nil, ne_eq, not_false_eq_true, not_true_eq_false, List.cons_ne_nil])
def ix (ds : List Int) (k : Nat) : Int := ds.getD k 0
theorem ix_get {ds : List Int} {k : Nat} (h : k < ds.length) : (ds.map PyData.int)[k]? = some (.int (ix ds k)) := by
  unfold ix
  rw [List.getElem?_map, List.getElem?_eq_getElem h, List.getD_eq_getElem?_getD, List.getElem?_eq_getElem h]
  rfl
theorem ix_dr {ds : List Int} {k : Nat} (h : Dr ds) : 0 ≤ ix ds k ∧ ix ds k < 65521 := by
  unfold ix
  rw [List.getD_eq_getElem?_getD]
  by_cases hk : k < ds.length
  · rw [List.getElem?_eq_getElem hk]
    exact h _ (List.getElem_mem hk)
  · rw [List.getElem?_eq_none (by omega)]
    decide
theorem range3 : rangeD 0 3 = (List.range 3).map fun (k : Nat) => PyData.int (k : Int) := rangeD_nat 3 3 rfl
theorem lt3 {k : Nat} (h : k ∈ List.range 3) : k = 0 ∨ k = 1 ∨ k = 2 := by
  have := List.mem_range.mp h
  omega
def lightOf (ds : List Int) : List (Int × Int) := (List.range 3).map fun k => low (ix ds k % 20) (1 + ix ds (3 + k) % 12)
theorem lightOf_lt (ds : List Int) : Lt 20 (lightOf ds) := by
  refine ⟨by unfold lightOf; rw [List.length_map, List.length_range], fun p hp => ?_⟩
  obtain ⟨k, _, rfl⟩ := List.mem_map.mp hp
  exact low_fr (by omega) (by omega) (by omega) (by omega)
theorem sp_light (l : Nat) (ds : List Int) (x : O) (hx : isL x (ds.map .int)) (hl : 6 ≤ ds.length) : callN base (l + 2) 20 [x] = .ok (.d (eL (lightOf ds))) [] := by
  rw [callN_eq t__law_light rfl]
  unfold r20 b20
  have hF := hx.flat
  have hc : ev (base.ge (l + 1)) e__law_light_0 [some x, none] = .ok (.tm (ol ((lightOf ds).map frac))) [some x, none] := by
    unfold lightOf
    rw [List.map_map]
    refine ev_map (fun (k : Nat) => PyData.int (k : Int)) (List.range 3) _ ?_ rfl rfl (by decide) fun k hk => ?_
    · walk_at "ev"; rw [range3]
    · have hk := List.mem_range.mp hk
      have e1 : (ds.map PyData.int)[(k : Int).toNat]? = some (.int (ix ds k)) := ix_get (by omega)
      have e2 : (ds.map PyData.int)[(3 + (k : Int)).toNat]? = some (.int (ix ds (3 + k))) := by
        rw [show (3 + (k : Int)).toNat = 3 + k by omega]; exact ix_get (by omega)
      have m1 : (0 : Int) ≤ ix ds k % 20 := by omega
      have m2 : (0 : Int) < 1 + ix ds (3 + k) % 12 := by omega
      have m3 : 1 + ix ds (3 + k) % 12 < BIG := Int.lt_trans (show 1 + ix ds (3 + k) % 12 < 13 by omega) (by decide +kernel)
      walk_at "ev"
      simp only [hF]; walk_at "ev"
      simp only [e1]; walk_at "ev"
      simp only [hF]; walk_at "ev"
      simp only [e2]; walk_at "ev"
      rfl
  walk_at "ev"
  simp only [hc]; walk_at "ev"
  rfl
local macro_rules | `(tactic| walk_at "ev") => `(tactic| try simp (disch := first | assumption | omega | (simp only [List.length_cons, List.length_nil, List.length_append, List.length_map, List.length_zip] <;> omega)) only [seval, Lw.ol_toD, Lw.ol_flat, Lw.ol_slice, Lw.ge_call, Lw.ge_glob, Lw.ge_wf, Lw.ge_exm, Lw.bsel_some, Lw.osel_some, Lw.osel_none, Lw.q_var, Lw.q_int, Lw.q_bl, Lw.q_non, Lw.q_str, Lw.q_glob, Lw.q_bin, Lw.q_not, Lw.q_and, Lw.q_or, Lw.q_one, Lw.q_cmp, Lw.q_chain, Lw.q_ifx, Lw.q_tup, Lw.q_lst, Lw.q_idx, Lw.q_slc, Lw.fsel_ok, Lw.fsel_exc, Lw.q_call, Lw.q_prim, Lw.q_isi, Lw.q_nox, Lw.noxE_ok, Lw.q_nil, Lw.q_cons, Lw.qB_nil, Lw.qB_one, Lw.qI_seqT, Lw.qI_seqF, Lw.qI_enumT, Lw.qI_enumF, Lw.qI_zipT, Lw.qI_zipF, Lw.ssel_nx, Lw.ssel_ret, Lw.ssel_exc, Lw.ssel_brk, Lw.ssel_ct, Lw.s_nil', Lw.s_seq', Lw.s_ret', Lw.s_retN', Lw.s_set', Lw.s_setc', Lw.s_unp', Lw.s_par2', Lw.s_par3', Lw.dsel_d, Lw.s_aug', Lw.s_exp', Lw.s_ife', Lw.s_rai', Lw.s_pass', Lw.s_doc', Lw.s_brk', Lw.s_cnt', Lw.xsel_exc, Lw.xsel_nx, Lw.xsel_ret, Lw.s_try', Lw.nox_nx, Lw.nox_ret, Lw.s_hd', Lw.s_hnil', Lw.tst_eq, Lw.cBody_eq, Lw.bind_ok2, Lw.bind_exc2, Lw.bind_stuck2, Lw.then_ok2, Lw.then_exc2, Lw.then_stuck2, Lw.ofOpt_some2, Lw.ofOpt_none2, Lw.ite_okh, Lw.ite_tm, Lw.ite_od, Lw.ite_bool, Lw.ite_int, Lw.isiD_eq, Lw.flat_lst, Lw.whole_int, Lw.ite_else_false, Lw.ite_then_true, Lw.ite_not_false, Lw.flat_d, Lw.eqD_int, Lw.eqD_str, Lw.boolsD_map, Lw.look_tm2, Lw.look_sl2, Lw.join_some2, Lw.lookD_eq, Lw.lookF_eq, Lw.opd_tm, Lw.opd_sl, Lw.boolOf_bool, Lw.bool_eq, Lw.sto_tm, Lw.sto_sl, Lw.esc_tm, Lw.esc_sl, Lw.esel_d, Lw.esel_ol, Lw.arg_eq, Lw.asel_scr, Lw.asel_d, Lw.asel_ol, Lw.asel_lst, Lw.argsO_nil, Lw.argsO_cons, Lw.escs_nil, Lw.escs_cons, Lw.stos_nil, Lw.stos_cons, Lw.looksD_nil, Lw.looksD_cons, Lw.looksF_nil, Lw.looksF_cons, Lw.partD_nil, Lw.intOf_int, Lw.partD_one, Lw.okD_eq, Lw.deep_tm, Lw.deep_sl, Lw.isB_int_none, Lw.isB_int_bool, Lw.isB_int_int, Lw.isB_int_str, Lw.isB_int_list, Lw.isB_int_tuple, Lw.isB_bool_none, Lw.isB_bool_bool, Lw.isB_bool_int, Lw.isB_bool_str, Lw.isB_bool_list, Lw.isB_bool_tuple, Lw.isB_str_none, Lw.isB_str_bool, Lw.isB_str_int, Lw.isB_str_str, Lw.isB_str_list, Lw.isB_str_tuple, Lw.isB_tuple_none, Lw.isB_tuple_bool, Lw.isB_tuple_int, Lw.isB_tuple_str, Lw.isB_tuple_list, Lw.isB_tuple_tuple, Lw.isB_list_none, Lw.isB_list_bool, Lw.isB_list_int, Lw.isB_list_str, Lw.isB_list_list, Lw.isB_list_tuple, Lw.whole_none, Lw.whole_bool, Lw.whole_str, Lw.whole_list, Lw.whole_tuple, Lw.primO_len, Lw.primO_int, Lw.primO_abs, Lw.primO_max, Lw.primO_min, Lw.primO_sum, Lw.primO_all, Lw.primO_any, Lw.primO_tuple, Lw.primO_list, Lw.primO_sorted, Lw.lenO_l, Lw.lenO_t, Lw.intO_i, Lw.absO_i, Lw.maxO_2, Lw.minO_2, Lw.sumO_l, Lw.sumO_t, Lw.allO_l, Lw.anyO_l, Lw.tupleO_l, Lw.tupleO_t, Lw.listO_l, Lw.listO_t, Lw.sortedO_l, Lw.bin_add, Lw.bin_sub, Lw.cmp_Eq, Lw.cmp_NotEq, Lw.cmp_Lt, Lw.cmp_LtE, Lw.cmp_Gt, Lw.cmp_GtE, Lw.cmp_In, Lw.cmp_NotIn, Lw.cmp_Is, Lw.cmp_IsNot, Lw.notNone_none, Lw.notNone_bool, Lw.notNone_int, Lw.notNone_str, Lw.notNone_list, Lw.notNone_tuple, Lw.ltD_int, Lw.leD_int, Lw.gtD_int, Lw.geD_int, Lw.idx_t, Lw.idx_l, Lw.items_l, Lw.items_t, Lw.slice_t, Lw.slice_dl, Lw.slice_scr, Lw.zsel_l, Lw.zsel_t, Lw.zsel_lt, Lw.zsel_tl, Lw.outF_ret, Lw.outF_nx, Lw.outF_exc, Lw.asgT_var, Lw.asgT_tup, Lw.asgTs_nil, Lw.asgTs_cons, Lw.wipe_nil, Lw.wipe_cons, Lw.quiet_nil, Lw.quiet_cons, Lw.quiet_none, Lw.quiet_d, Lw.quiet_jd, Lw.aug_add2, Lw.aug_sub2, Lw.q_neg2, Lw.revO_t, Lw.revO_l, Lw.q_rev2, Lw.listOf_l, Lw.q_sset2, Lw.qI_rng1', Lw.rgsel_2, Lw.qI_rng2', Lw.bin_mul1, Lw.bin_mul3, Lw.bin_fdiv1, Lw.bin_fdiv2, Lw.bin_mod1, Lw.aug_mul1, Lw.bin_addT1, Lw.bin_addL1, Lw.bin_mulL1, Lw.bin_mulT1, Lw.ix_pos, Lw.ix_neg, Lw.lenOk_ok, Lw.rgD_ok', Lw.eqD_ints, Lw.eqD_tints, Lw.sliceD_from, Lw.sliceD_to, Lw.ltD_tints, Lw.leD_tints, Lw.ol_nil', Lw.ol_one', Lw.ol_two', Lw.ol_three', Lw.ol_four', Lw.ol_five', Lw.bin_pow1, Lw.lsel_ol, Lw.q_mth, Lw.appS_ok, Lw.mth_app, Lw.mth_ext, Lw.mth_extd, Lw.T.exm_BadColour_BadColour, Lw.T.exm_BadColour_BadColours, Lw.T.exm_BadColour_BadLight, Lw.T.exm_BadColour_BadStock, Lw.T.exm_BadColour_TooGreat, Lw.T.exm_BadColours_BadColour, Lw.T.exm_BadColours_BadColours, Lw.T.exm_BadColours_BadLight, Lw.T.exm_BadColours_BadStock, Lw.T.exm_BadColours_TooGreat, Lw.T.exm_BadLight_BadColour, Lw.T.exm_BadLight_BadColours, Lw.T.exm_BadLight_BadLight, Lw.T.exm_BadLight_BadStock, Lw.T.exm_BadLight_TooGreat, Lw.T.exm_BadStock_BadColour, Lw.T.exm_BadStock_BadColours, Lw.T.exm_BadStock_BadLight, Lw.T.exm_BadStock_BadStock, Lw.T.exm_BadStock_TooGreat, Lw.T.exm_TooGreat_BadColour, Lw.T.exm_TooGreat_BadColours, Lw.T.exm_TooGreat_BadLight, Lw.T.exm_TooGreat_BadStock, Lw.T.exm_TooGreat_TooGreat, Lw.T.gl_KINDS, Lw.T.gl_MOST_LEAST, Lw.T.gl_MOST_NUMBER, Lw.T.gl_MOST_ROW, Lw.T.gl_MOST_STOCK, Lw.T.gl_PARTS, Lw.T.sp_is_whole, Lw.T.sp_is_colour, Lw.T.sp_is_fraction, Lw.T.sp_are_colours, Lw.T.sp_lowlaw, Lw.T.sp_light, O.walk, O.toD, O.toDs, O.flats, qt, List.getElem?_cons_zero, List.getElem?_cons_succ, List.set_cons_zero, List.set_cons_succ, List.map_cons, List.map_nil, List.cons_append, List.nil_append, List.append_nil, List.length_cons, List.length_nil, List.length_append, List.length_map, List.length_zip,  List.replicate, Option.bind_some, Option.bind_none, Option.map_some, Option.map_none, if_true, if_false, Bool.not_true, Bool.not_false, Bool.true_and, Bool.and_true, Bool.false_and, Bool.and_false, Bool.true_or, Bool.or_true, Bool.false_or, Bool.or_false, Bool.false_eq_true, Bool.and_self, and_self, true_and, and_true, decide_true, decide_false, Nat.zero_add, Nat.reduceAdd, Nat.reduceSub, Nat.reduceLeDiff, reduceCtorEq, Int.natCast_zero, Int.natCast_one, Int.cast_ofNat_Int, Int.reduceLT, Int.reduceLE, Int.reduceToNat, Int.reduceNeg, Int.reduceAdd, Int.reduceSub, Int.reducePow, Nat.reducePow, Int.reduceMul, Nat.reduceMul, List.reduceReplicate, List.flatten_cons, List.flatten_nil, ne_eq, not_false_eq_true, not_true_eq_false, List.cons_ne_nil])
local macro_rules | `(tactic| walk_at "ev!") => `(tactic| try simp (disch := first | assumption | omega | (simp only [List.length_cons, List.length_nil, List.length_append, List.length_map, List.length_zip] <;> omega)) only [seval, Lw.ol_toD, Lw.ol_flat, Lw.ol_slice, Lw.ge_call, Lw.ge_glob, Lw.ge_wf, Lw.ge_exm, Lw.bsel_some, Lw.osel_some, Lw.osel_none, Lw.q_var, Lw.q_int, Lw.q_bl, Lw.q_non, Lw.q_str, Lw.q_glob, Lw.q_bin, Lw.q_not, Lw.q_and, Lw.q_or, Lw.q_one, Lw.q_cmp, Lw.q_chain, Lw.q_ifx, Lw.q_tup, Lw.q_lst, Lw.q_idx, Lw.q_slc, Lw.fsel_ok, Lw.fsel_exc, Lw.q_call, Lw.q_prim, Lw.q_isi, Lw.q_nox, Lw.noxE_ok, Lw.q_nil, Lw.q_cons, Lw.qB_nil, Lw.qB_one, Lw.qI_seqT, Lw.qI_seqF, Lw.qI_enumT, Lw.qI_enumF, Lw.qI_zipT, Lw.qI_zipF, Lw.ssel_nx, Lw.ssel_ret, Lw.ssel_exc, Lw.ssel_brk, Lw.ssel_ct, Lw.s_nil', Lw.s_seq', Lw.s_ret', Lw.s_retN', Lw.s_set', Lw.s_setc', Lw.s_unp', Lw.s_par2', Lw.s_par3', Lw.dsel_d, Lw.s_aug', Lw.s_exp', Lw.s_ife', Lw.s_rai', Lw.s_pass', Lw.s_doc', Lw.s_brk', Lw.s_cnt', Lw.xsel_exc, Lw.xsel_nx, Lw.xsel_ret, Lw.s_try', Lw.nox_nx, Lw.nox_ret, Lw.s_hd', Lw.s_hnil', Lw.tst_eq, Lw.cBody_eq, Lw.bind_ok2, Lw.bind_exc2, Lw.bind_stuck2, Lw.then_ok2, Lw.then_exc2, Lw.then_stuck2, Lw.ofOpt_some2, Lw.ofOpt_none2, Lw.ite_okh, Lw.ite_tm, Lw.ite_od, Lw.ite_bool, Lw.ite_int, Lw.isiD_eq, Lw.flat_lst, Lw.whole_int, Lw.ite_else_false, Lw.ite_then_true, Lw.ite_not_false, Lw.flat_d, Lw.eqD_int, Lw.eqD_str, Lw.boolsD_map, Lw.look_tm2, Lw.look_sl2, Lw.join_some2, Lw.lookD_eq, Lw.lookF_eq, Lw.opd_tm, Lw.opd_sl, Lw.boolOf_bool, Lw.bool_eq, Lw.sto_tm, Lw.sto_sl, Lw.esc_tm, Lw.esc_sl, Lw.esel_d, Lw.esel_ol, Lw.arg_eq, Lw.asel_scr, Lw.asel_d, Lw.asel_ol, Lw.asel_lst, Lw.argsO_nil, Lw.argsO_cons, Lw.escs_nil, Lw.escs_cons, Lw.stos_nil, Lw.stos_cons, Lw.looksD_nil, Lw.looksD_cons, Lw.looksF_nil, Lw.looksF_cons, Lw.partD_nil, Lw.intOf_int, Lw.partD_one, Lw.okD_eq, Lw.deep_tm, Lw.deep_sl, Lw.isB_int_none, Lw.isB_int_bool, Lw.isB_int_int, Lw.isB_int_str, Lw.isB_int_list, Lw.isB_int_tuple, Lw.isB_bool_none, Lw.isB_bool_bool, Lw.isB_bool_int, Lw.isB_bool_str, Lw.isB_bool_list, Lw.isB_bool_tuple, Lw.isB_str_none, Lw.isB_str_bool, Lw.isB_str_int, Lw.isB_str_str, Lw.isB_str_list, Lw.isB_str_tuple, Lw.isB_tuple_none, Lw.isB_tuple_bool, Lw.isB_tuple_int, Lw.isB_tuple_str, Lw.isB_tuple_list, Lw.isB_tuple_tuple, Lw.isB_list_none, Lw.isB_list_bool, Lw.isB_list_int, Lw.isB_list_str, Lw.isB_list_list, Lw.isB_list_tuple, Lw.whole_none, Lw.whole_bool, Lw.whole_str, Lw.whole_list, Lw.whole_tuple, Lw.primO_len, Lw.primO_int, Lw.primO_abs, Lw.primO_max, Lw.primO_min, Lw.primO_sum, Lw.primO_all, Lw.primO_any, Lw.primO_tuple, Lw.primO_list, Lw.primO_sorted, Lw.lenO_l, Lw.lenO_t, Lw.intO_i, Lw.absO_i, Lw.maxO_2, Lw.minO_2, Lw.sumO_l, Lw.sumO_t, Lw.allO_l, Lw.anyO_l, Lw.tupleO_l, Lw.tupleO_t, Lw.listO_l, Lw.listO_t, Lw.sortedO_l, Lw.bin_add, Lw.bin_sub, Lw.cmp_Eq, Lw.cmp_NotEq, Lw.cmp_Lt, Lw.cmp_LtE, Lw.cmp_Gt, Lw.cmp_GtE, Lw.cmp_In, Lw.cmp_NotIn, Lw.cmp_Is, Lw.cmp_IsNot, Lw.notNone_none, Lw.notNone_bool, Lw.notNone_int, Lw.notNone_str, Lw.notNone_list, Lw.notNone_tuple, Lw.ltD_int, Lw.leD_int, Lw.gtD_int, Lw.geD_int, Lw.idx_t, Lw.idx_l, Lw.items_l, Lw.items_t, Lw.slice_t, Lw.slice_dl, Lw.slice_scr, Lw.zsel_l, Lw.zsel_t, Lw.zsel_lt, Lw.zsel_tl, Lw.outF_ret, Lw.outF_nx, Lw.outF_exc, Lw.asgT_var, Lw.asgT_tup, Lw.asgTs_nil, Lw.asgTs_cons, Lw.wipe_nil, Lw.wipe_cons, Lw.quiet_nil, Lw.quiet_cons, Lw.quiet_none, Lw.quiet_d, Lw.quiet_jd, Lw.aug_add2, Lw.aug_sub2, Lw.q_neg2, Lw.revO_t, Lw.revO_l, Lw.q_rev2, Lw.listOf_l, Lw.q_sset2, Lw.qI_rng1', Lw.rgsel_2, Lw.qI_rng2', Lw.bin_mul1, Lw.bin_mul3, Lw.bin_fdiv1, Lw.bin_fdiv2, Lw.bin_mod1, Lw.aug_mul1, Lw.bin_addT1, Lw.bin_addL1, Lw.bin_mulL1, Lw.bin_mulT1, Lw.ix_pos, Lw.ix_neg, Lw.lenOk_ok, Lw.rgD_ok', Lw.eqD_ints, Lw.eqD_tints, Lw.sliceD_from, Lw.sliceD_to, Lw.ltD_tints, Lw.leD_tints, Lw.ol_nil', Lw.ol_one', Lw.ol_two', Lw.ol_three', Lw.ol_four', Lw.ol_five', Lw.bin_pow1, Lw.lsel_ol, Lw.q_mth, Lw.appS_ok, Lw.mth_app, Lw.mth_ext, Lw.mth_extd, Lw.T.exm_BadColour_BadColour, Lw.T.exm_BadColour_BadColours, Lw.T.exm_BadColour_BadLight, Lw.T.exm_BadColour_BadStock, Lw.T.exm_BadColour_TooGreat, Lw.T.exm_BadColours_BadColour, Lw.T.exm_BadColours_BadColours, Lw.T.exm_BadColours_BadLight, Lw.T.exm_BadColours_BadStock, Lw.T.exm_BadColours_TooGreat, Lw.T.exm_BadLight_BadColour, Lw.T.exm_BadLight_BadColours, Lw.T.exm_BadLight_BadLight, Lw.T.exm_BadLight_BadStock, Lw.T.exm_BadLight_TooGreat, Lw.T.exm_BadStock_BadColour, Lw.T.exm_BadStock_BadColours, Lw.T.exm_BadStock_BadLight, Lw.T.exm_BadStock_BadStock, Lw.T.exm_BadStock_TooGreat, Lw.T.exm_TooGreat_BadColour, Lw.T.exm_TooGreat_BadColours, Lw.T.exm_TooGreat_BadLight, Lw.T.exm_TooGreat_BadStock, Lw.T.exm_TooGreat_TooGreat, Lw.T.gl_KINDS, Lw.T.gl_MOST_LEAST, Lw.T.gl_MOST_NUMBER, Lw.T.gl_MOST_ROW, Lw.T.gl_MOST_STOCK, Lw.T.gl_PARTS, Lw.T.sp_is_whole, Lw.T.sp_is_colour, Lw.T.sp_is_fraction, Lw.T.sp_are_colours, Lw.T.sp_lowlaw, Lw.T.sp_light, *, O.walk, O.toD, O.toDs, O.flats, qt, List.getElem?_cons_zero, List.getElem?_cons_succ, List.set_cons_zero, List.set_cons_succ, List.map_cons, List.map_nil, List.cons_append, List.nil_append, List.append_nil, List.length_cons, List.length_nil, List.length_append, List.length_map, List.length_zip,  List.replicate, Option.bind_some, Option.bind_none, Option.map_some, Option.map_none, if_true, if_false, Bool.not_true, Bool.not_false, Bool.true_and, Bool.and_true, Bool.false_and, Bool.and_false, Bool.true_or, Bool.or_true, Bool.false_or, Bool.or_false, Bool.false_eq_true, Bool.and_self, and_self, true_and, and_true, decide_true, decide_false, Nat.zero_add, Nat.reduceAdd, Nat.reduceSub, Nat.reduceLeDiff, reduceCtorEq, Int.natCast_zero, Int.natCast_one, Int.cast_ofNat_Int, Int.reduceLT, Int.reduceLE, Int.reduceToNat, Int.reduceNeg, Int.reduceAdd, Int.reduceSub, Int.reducePow, Nat.reducePow, Int.reduceMul, Nat.reduceMul, List.reduceReplicate, List.flatten_cons, List.flatten_nil, ne_eq, not_false_eq_true, not_true_eq_false, List.cons_ne_nil])
local macro_rules | `(tactic| walk_at "evd") => `(tactic| try simp (disch := first | assumption | omega | (simp only [List.length_cons, List.length_nil, List.length_append, List.length_map, List.length_zip] <;> omega)) only [seval, Lw.ol_toD, Lw.ol_flat, Lw.ol_slice, Lw.ge_call, Lw.ge_glob, Lw.ge_wf, Lw.ge_exm, Lw.bsel_some, Lw.osel_some, Lw.osel_none, Lw.q_var, Lw.q_int, Lw.q_bl, Lw.q_non, Lw.q_str, Lw.q_glob, Lw.q_bin, Lw.q_not, Lw.q_and, Lw.q_or, Lw.q_one, Lw.q_cmp, Lw.q_chain, Lw.q_ifx, Lw.q_tup, Lw.q_lst, Lw.q_idx, Lw.q_slc, Lw.fsel_ok, Lw.fsel_exc, Lw.q_call, Lw.q_prim, Lw.q_isi, Lw.q_nox, Lw.noxE_ok, Lw.q_nil, Lw.q_cons, Lw.qB_nil, Lw.qB_one, Lw.qI_seqT, Lw.qI_seqF, Lw.qI_enumT, Lw.qI_enumF, Lw.qI_zipT, Lw.qI_zipF, Lw.ssel_nx, Lw.ssel_ret, Lw.ssel_exc, Lw.ssel_brk, Lw.ssel_ct, Lw.s_nil', Lw.s_seq', Lw.s_ret', Lw.s_retN', Lw.s_set', Lw.s_setc', Lw.s_unp', Lw.s_par2', Lw.s_par3', Lw.dsel_d, Lw.s_aug', Lw.s_exp', Lw.s_ife', Lw.s_rai', Lw.s_pass', Lw.s_doc', Lw.s_brk', Lw.s_cnt', Lw.xsel_exc, Lw.xsel_nx, Lw.xsel_ret, Lw.s_try', Lw.nox_nx, Lw.nox_ret, Lw.s_hd', Lw.s_hnil', Lw.tst_eq, Lw.cBody_eq, Lw.bind_ok2, Lw.bind_exc2, Lw.bind_stuck2, Lw.then_ok2, Lw.then_exc2, Lw.then_stuck2, Lw.ofOpt_some2, Lw.ofOpt_none2, Lw.ite_okh, Lw.ite_tm, Lw.ite_od, Lw.ite_bool, Lw.ite_int, Lw.isiD_eq, Lw.flat_lst, Lw.whole_int, Lw.ite_else_false, Lw.ite_then_true, Lw.ite_not_false, Lw.flat_d, Lw.eqD_int, Lw.eqD_str, Lw.boolsD_map, Lw.look_tm2, Lw.look_sl2, Lw.join_some2, Lw.lookD_eq, Lw.lookF_eq, Lw.opd_tm, Lw.opd_sl, Lw.boolOf_bool, Lw.bool_eq, Lw.sto_tm, Lw.sto_sl, Lw.esc_tm, Lw.esc_sl, Lw.esel_d, Lw.esel_ol, Lw.arg_eq, Lw.asel_scr, Lw.asel_d, Lw.asel_ol, Lw.asel_lst, Lw.argsO_nil, Lw.argsO_cons, Lw.escs_nil, Lw.escs_cons, Lw.stos_nil, Lw.stos_cons, Lw.looksD_nil, Lw.looksD_cons, Lw.looksF_nil, Lw.looksF_cons, Lw.partD_nil, Lw.intOf_int, Lw.partD_one, Lw.okD_eq, Lw.deep_tm, Lw.deep_sl, Lw.isB_int_none, Lw.isB_int_bool, Lw.isB_int_int, Lw.isB_int_str, Lw.isB_int_list, Lw.isB_int_tuple, Lw.isB_bool_none, Lw.isB_bool_bool, Lw.isB_bool_int, Lw.isB_bool_str, Lw.isB_bool_list, Lw.isB_bool_tuple, Lw.isB_str_none, Lw.isB_str_bool, Lw.isB_str_int, Lw.isB_str_str, Lw.isB_str_list, Lw.isB_str_tuple, Lw.isB_tuple_none, Lw.isB_tuple_bool, Lw.isB_tuple_int, Lw.isB_tuple_str, Lw.isB_tuple_list, Lw.isB_tuple_tuple, Lw.isB_list_none, Lw.isB_list_bool, Lw.isB_list_int, Lw.isB_list_str, Lw.isB_list_list, Lw.isB_list_tuple, Lw.whole_none, Lw.whole_bool, Lw.whole_str, Lw.whole_list, Lw.whole_tuple, Lw.primO_len, Lw.primO_int, Lw.primO_abs, Lw.primO_max, Lw.primO_min, Lw.primO_sum, Lw.primO_all, Lw.primO_any, Lw.primO_tuple, Lw.primO_list, Lw.primO_sorted, Lw.lenO_l, Lw.lenO_t, Lw.intO_i, Lw.absO_i, Lw.maxO_2, Lw.minO_2, Lw.sumO_l, Lw.sumO_t, Lw.allO_l, Lw.anyO_l, Lw.tupleO_l, Lw.tupleO_t, Lw.listO_l, Lw.listO_t, Lw.sortedO_l, Lw.bin_add, Lw.bin_sub, Lw.cmp_Eq, Lw.cmp_NotEq, Lw.cmp_Lt, Lw.cmp_LtE, Lw.cmp_Gt, Lw.cmp_GtE, Lw.cmp_In, Lw.cmp_NotIn, Lw.cmp_Is, Lw.cmp_IsNot, Lw.notNone_none, Lw.notNone_bool, Lw.notNone_int, Lw.notNone_str, Lw.notNone_list, Lw.notNone_tuple, Lw.ltD_int, Lw.leD_int, Lw.gtD_int, Lw.geD_int, Lw.idx_t, Lw.idx_l, Lw.items_l, Lw.items_t, Lw.slice_t, Lw.slice_dl, Lw.slice_scr, Lw.zsel_l, Lw.zsel_t, Lw.zsel_lt, Lw.zsel_tl, Lw.outF_ret, Lw.outF_nx, Lw.outF_exc, Lw.asgT_var, Lw.asgT_tup, Lw.asgTs_nil, Lw.asgTs_cons, Lw.wipe_nil, Lw.wipe_cons, Lw.quiet_nil, Lw.quiet_cons, Lw.quiet_none, Lw.quiet_d, Lw.quiet_jd, Lw.aug_add2, Lw.aug_sub2, Lw.q_neg2, Lw.revO_t, Lw.revO_l, Lw.q_rev2, Lw.listOf_l, Lw.q_sset2, Lw.qI_rng1', Lw.rgsel_2, Lw.qI_rng2', Lw.bin_mul1, Lw.bin_mul3, Lw.bin_fdiv1, Lw.bin_fdiv2, Lw.bin_mod1, Lw.aug_mul1, Lw.bin_addT1, Lw.bin_addL1, Lw.bin_mulL1, Lw.bin_mulT1, Lw.ix_pos, Lw.ix_neg, Lw.lenOk_ok, Lw.rgD_ok', Lw.eqD_ints, Lw.eqD_tints, Lw.sliceD_from, Lw.sliceD_to, Lw.ltD_tints, Lw.leD_tints, Lw.ol_nil', Lw.ol_one', Lw.ol_two', Lw.ol_three', Lw.ol_four', Lw.ol_five', Lw.bin_pow1, Lw.lsel_ol, Lw.q_mth, Lw.appS_ok, Lw.mth_app, Lw.mth_ext, Lw.mth_extd, Lw.T.exm_BadColour_BadColour, Lw.T.exm_BadColour_BadColours, Lw.T.exm_BadColour_BadLight, Lw.T.exm_BadColour_BadStock, Lw.T.exm_BadColour_TooGreat, Lw.T.exm_BadColours_BadColour, Lw.T.exm_BadColours_BadColours, Lw.T.exm_BadColours_BadLight, Lw.T.exm_BadColours_BadStock, Lw.T.exm_BadColours_TooGreat, Lw.T.exm_BadLight_BadColour, Lw.T.exm_BadLight_BadColours, Lw.T.exm_BadLight_BadLight, Lw.T.exm_BadLight_BadStock, Lw.T.exm_BadLight_TooGreat, Lw.T.exm_BadStock_BadColour, Lw.T.exm_BadStock_BadColours, Lw.T.exm_BadStock_BadLight, Lw.T.exm_BadStock_BadStock, Lw.T.exm_BadStock_TooGreat, Lw.T.exm_TooGreat_BadColour, Lw.T.exm_TooGreat_BadColours, Lw.T.exm_TooGreat_BadLight, Lw.T.exm_TooGreat_BadStock, Lw.T.exm_TooGreat_TooGreat, Lw.T.gl_KINDS, Lw.T.gl_MOST_LEAST, Lw.T.gl_MOST_NUMBER, Lw.T.gl_MOST_ROW, Lw.T.gl_MOST_STOCK, Lw.T.gl_PARTS, Lw.T.sp_is_whole, Lw.T.sp_is_colour, Lw.T.sp_is_fraction, Lw.T.sp_are_colours, Lw.T.sp_lowlaw, Lw.T.sp_light, dec_yes, dec_no, O.walk, O.toD, O.toDs, O.flats, qt, List.getElem?_cons_zero, List.getElem?_cons_succ, List.set_cons_zero, List.set_cons_succ, List.map_cons, List.map_nil, List.cons_append, List.nil_append, List.append_nil, List.length_cons, List.length_nil, List.length_append, List.length_map, List.length_zip,  List.replicate, Option.bind_some, Option.bind_none, Option.map_some, Option.map_none, if_true, if_false, Bool.not_true, Bool.not_false, Bool.true_and, Bool.and_true, Bool.false_and, Bool.and_false, Bool.true_or, Bool.or_true, Bool.false_or, Bool.or_false, Bool.false_eq_true, Bool.and_self, and_self, true_and, and_true, decide_true, decide_false, Nat.zero_add, Nat.reduceAdd, Nat.reduceSub, Nat.reduceLeDiff, reduceCtorEq, Int.natCast_zero, Int.natCast_one, Int.cast_ofNat_Int, Int.reduceLT, Int.reduceLE, Int.reduceToNat, Int.reduceNeg, Int.reduceAdd, Int.reduceSub, Int.reducePow, Nat.reducePow, Int.reduceMul, Nat.reduceMul, List.reduceReplicate, List.flatten_cons, List.flatten_nil, ne_eq, not_false_eq_true, not_true_eq_false, List.cons_ne_nil])
def shadeN (n : Int) : Int := ([0, 4, 8, 16, 12, 2, 1] : List Int).getD (n % 7).toNat 0
def colourOf (n : Int) : List Int := [shadeN n, shadeN (n / 7), shadeN (n / 49)]
theorem shade_get (n : Int) : ([PyData.int 0, .int 4, .int 8, .int 16, .int 12, .int 2, .int 1])[(n % 7).toNat]? = some (.int (shadeN n)) := by
  have e : [PyData.int 0, .int 4, .int 8, .int 16, .int 12, .int 2, .int 1] = ([0, 4, 8, 16, 12, 2, 1] : List Int).map PyData.int := rfl
  rw [e]
  exact ix_get (by simp only [List.length_cons, List.length_nil]; omega)
theorem shade_le (n : Int) : 0 ≤ shadeN n ∧ shadeN n ≤ 16 := by
  have h : (n % 7).toNat = 0 ∨ (n % 7).toNat = 1 ∨ (n % 7).toNat = 2 ∨ (n % 7).toNat = 3 ∨ (n % 7).toNat = 4 ∨ (n % 7).toNat = 5 ∨ (n % 7).toNat = 6 := by omega
  unfold shadeN
  rcases h with h | h | h | h | h | h | h <;> rw [h] <;> decide
theorem colourOf_cl (n : Int) : Cl (colourOf n) := ⟨rfl, fun m hm => by
  simp only [colourOf, List.mem_cons, List.not_mem_nil, or_false] at hm
  rcases hm with rfl | rfl | rfl <;> exact shade_le _⟩
theorem sp_colourlaw (l : Nat) (n : Int) : callN base (l + 1) 21 [.d (.int n)] = .ok (.d (eC (colourOf n))) [] := by
  rw [callN_eq t__law_colour rfl]
  unfold r21 b21
  have hc : ev (base.ge l) e__law_colour_0 [some (.d (.int n)), none] = .ok (.tm (ol ((List.range 3).map fun k => .int (shadeN (n / [1, 7, 49].getD k 1))))) [some (.d (.int n)), none] := by
    refine ev_map (fun (k : Nat) => PyData.int (k : Int)) (List.range 3) _ ?_ rfl rfl (by decide) fun k hk => ?_
    · walk_at "ev"; rw [range3]
    · rcases lt3 hk with rfl | rfl | rfl
      · walk_at "ev"
        have h1 := shade_get (n / 1)
        walk_at "ev"
        simp only [h1]; walk_at "ev"
        rfl
      · walk_at "ev"
        have h1 := shade_get (n / 7)
        walk_at "ev"
        simp only [h1]; walk_at "ev"
        rfl
      · walk_at "ev"
        have h1 := shade_get (n / 49)
        walk_at "ev"
        simp only [h1]; walk_at "ev"
        rfl
  walk_at "ev"
  simp only [hc]; walk_at "ev"
  simp [eC, colourOf, List.range_succ]

local macro_rules | `(tactic| walk_at "ev") => `(tactic| try simp (disch := first | assumption | omega | (simp only [List.length_cons, List.length_nil, List.length_append, List.length_map, List.length_zip] <;> omega)) only [seval, Lw.ol_toD, Lw.ol_flat, Lw.ol_slice, Lw.ge_call, Lw.ge_glob, Lw.ge_wf, Lw.ge_exm, Lw.bsel_some, Lw.osel_some, Lw.osel_none, Lw.q_var, Lw.q_int, Lw.q_bl, Lw.q_non, Lw.q_str, Lw.q_glob, Lw.q_bin, Lw.q_not, Lw.q_and, Lw.q_or, Lw.q_one, Lw.q_cmp, Lw.q_chain, Lw.q_ifx, Lw.q_tup, Lw.q_lst, Lw.q_idx, Lw.q_slc, Lw.fsel_ok, Lw.fsel_exc, Lw.q_call, Lw.q_prim, Lw.q_isi, Lw.q_nox, Lw.noxE_ok, Lw.q_nil, Lw.q_cons, Lw.qB_nil, Lw.qB_one, Lw.qI_seqT, Lw.qI_seqF, Lw.qI_enumT, Lw.qI_enumF, Lw.qI_zipT, Lw.qI_zipF, Lw.ssel_nx, Lw.ssel_ret, Lw.ssel_exc, Lw.ssel_brk, Lw.ssel_ct, Lw.s_nil', Lw.s_seq', Lw.s_ret', Lw.s_retN', Lw.s_set', Lw.s_setc', Lw.s_unp', Lw.s_par2', Lw.s_par3', Lw.dsel_d, Lw.s_aug', Lw.s_exp', Lw.s_ife', Lw.s_rai', Lw.s_pass', Lw.s_doc', Lw.s_brk', Lw.s_cnt', Lw.xsel_exc, Lw.xsel_nx, Lw.xsel_ret, Lw.s_try', Lw.nox_nx, Lw.nox_ret, Lw.s_hd', Lw.s_hnil', Lw.tst_eq, Lw.cBody_eq, Lw.bind_ok2, Lw.bind_exc2, Lw.bind_stuck2, Lw.then_ok2, Lw.then_exc2, Lw.then_stuck2, Lw.ofOpt_some2, Lw.ofOpt_none2, Lw.ite_okh, Lw.ite_tm, Lw.ite_od, Lw.ite_bool, Lw.ite_int, Lw.isiD_eq, Lw.flat_lst, Lw.whole_int, Lw.ite_else_false, Lw.ite_then_true, Lw.ite_not_false, Lw.flat_d, Lw.eqD_int, Lw.eqD_str, Lw.boolsD_map, Lw.look_tm2, Lw.look_sl2, Lw.join_some2, Lw.lookD_eq, Lw.lookF_eq, Lw.opd_tm, Lw.opd_sl, Lw.boolOf_bool, Lw.bool_eq, Lw.sto_tm, Lw.sto_sl, Lw.esc_tm, Lw.esc_sl, Lw.esel_d, Lw.esel_ol, Lw.arg_eq, Lw.asel_scr, Lw.asel_d, Lw.asel_ol, Lw.asel_lst, Lw.argsO_nil, Lw.argsO_cons, Lw.escs_nil, Lw.escs_cons, Lw.stos_nil, Lw.stos_cons, Lw.looksD_nil, Lw.looksD_cons, Lw.looksF_nil, Lw.looksF_cons, Lw.partD_nil, Lw.intOf_int, Lw.partD_one, Lw.okD_eq, Lw.deep_tm, Lw.deep_sl, Lw.isB_int_none, Lw.isB_int_bool, Lw.isB_int_int, Lw.isB_int_str, Lw.isB_int_list, Lw.isB_int_tuple, Lw.isB_bool_none, Lw.isB_bool_bool, Lw.isB_bool_int, Lw.isB_bool_str, Lw.isB_bool_list, Lw.isB_bool_tuple, Lw.isB_str_none, Lw.isB_str_bool, Lw.isB_str_int, Lw.isB_str_str, Lw.isB_str_list, Lw.isB_str_tuple, Lw.isB_tuple_none, Lw.isB_tuple_bool, Lw.isB_tuple_int, Lw.isB_tuple_str, Lw.isB_tuple_list, Lw.isB_tuple_tuple, Lw.isB_list_none, Lw.isB_list_bool, Lw.isB_list_int, Lw.isB_list_str, Lw.isB_list_list, Lw.isB_list_tuple, Lw.whole_none, Lw.whole_bool, Lw.whole_str, Lw.whole_list, Lw.whole_tuple, Lw.primO_len, Lw.primO_int, Lw.primO_abs, Lw.primO_max, Lw.primO_min, Lw.primO_sum, Lw.primO_all, Lw.primO_any, Lw.primO_tuple, Lw.primO_list, Lw.primO_sorted, Lw.lenO_l, Lw.lenO_t, Lw.intO_i, Lw.absO_i, Lw.maxO_2, Lw.minO_2, Lw.sumO_l, Lw.sumO_t, Lw.allO_l, Lw.anyO_l, Lw.tupleO_l, Lw.tupleO_t, Lw.listO_l, Lw.listO_t, Lw.sortedO_l, Lw.bin_add, Lw.bin_sub, Lw.cmp_Eq, Lw.cmp_NotEq, Lw.cmp_Lt, Lw.cmp_LtE, Lw.cmp_Gt, Lw.cmp_GtE, Lw.cmp_In, Lw.cmp_NotIn, Lw.cmp_Is, Lw.cmp_IsNot, Lw.notNone_none, Lw.notNone_bool, Lw.notNone_int, Lw.notNone_str, Lw.notNone_list, Lw.notNone_tuple, Lw.ltD_int, Lw.leD_int, Lw.gtD_int, Lw.geD_int, Lw.idx_t, Lw.idx_l, Lw.items_l, Lw.items_t, Lw.slice_t, Lw.slice_dl, Lw.slice_scr, Lw.zsel_l, Lw.zsel_t, Lw.zsel_lt, Lw.zsel_tl, Lw.outF_ret, Lw.outF_nx, Lw.outF_exc, Lw.asgT_var, Lw.asgT_tup, Lw.asgTs_nil, Lw.asgTs_cons, Lw.wipe_nil, Lw.wipe_cons, Lw.quiet_nil, Lw.quiet_cons, Lw.quiet_none, Lw.quiet_d, Lw.quiet_jd, Lw.aug_add2, Lw.aug_sub2, Lw.q_neg2, Lw.revO_t, Lw.revO_l, Lw.q_rev2, Lw.listOf_l, Lw.q_sset2, Lw.qI_rng1', Lw.rgsel_2, Lw.qI_rng2', Lw.bin_mul1, Lw.bin_mul3, Lw.bin_fdiv1, Lw.bin_fdiv2, Lw.bin_mod1, Lw.aug_mul1, Lw.bin_addT1, Lw.bin_addL1, Lw.bin_mulL1, Lw.bin_mulT1, Lw.ix_pos, Lw.ix_neg, Lw.lenOk_ok, Lw.rgD_ok', Lw.eqD_ints, Lw.eqD_tints, Lw.sliceD_from, Lw.sliceD_to, Lw.ltD_tints, Lw.leD_tints, Lw.ol_nil', Lw.ol_one', Lw.ol_two', Lw.ol_three', Lw.ol_four', Lw.ol_five', Lw.bin_pow1, Lw.lsel_ol, Lw.q_mth, Lw.appS_ok, Lw.mth_app, Lw.mth_ext, Lw.mth_extd, Lw.T.exm_BadColour_BadColour, Lw.T.exm_BadColour_BadColours, Lw.T.exm_BadColour_BadLight, Lw.T.exm_BadColour_BadStock, Lw.T.exm_BadColour_TooGreat, Lw.T.exm_BadColours_BadColour, Lw.T.exm_BadColours_BadColours, Lw.T.exm_BadColours_BadLight, Lw.T.exm_BadColours_BadStock, Lw.T.exm_BadColours_TooGreat, Lw.T.exm_BadLight_BadColour, Lw.T.exm_BadLight_BadColours, Lw.T.exm_BadLight_BadLight, Lw.T.exm_BadLight_BadStock, Lw.T.exm_BadLight_TooGreat, Lw.T.exm_BadStock_BadColour, Lw.T.exm_BadStock_BadColours, Lw.T.exm_BadStock_BadLight, Lw.T.exm_BadStock_BadStock, Lw.T.exm_BadStock_TooGreat, Lw.T.exm_TooGreat_BadColour, Lw.T.exm_TooGreat_BadColours, Lw.T.exm_TooGreat_BadLight, Lw.T.exm_TooGreat_BadStock, Lw.T.exm_TooGreat_TooGreat, Lw.T.gl_KINDS, Lw.T.gl_MOST_LEAST, Lw.T.gl_MOST_NUMBER, Lw.T.gl_MOST_ROW, Lw.T.gl_MOST_STOCK, Lw.T.gl_PARTS, Lw.T.sp_is_whole, Lw.T.sp_is_colour, Lw.T.sp_is_fraction, Lw.T.sp_are_colours, Lw.T.sp_lowlaw, Lw.T.sp_light, Lw.T.sp_colourlaw, O.walk, O.toD, O.toDs, O.flats, qt, List.getElem?_cons_zero, List.getElem?_cons_succ, List.set_cons_zero, List.set_cons_succ, List.map_cons, List.map_nil, List.cons_append, List.nil_append, List.append_nil, List.length_cons, List.length_nil, List.length_append, List.length_map, List.length_zip,  List.replicate, Option.bind_some, Option.bind_none, Option.map_some, Option.map_none, if_true, if_false, Bool.not_true, Bool.not_false, Bool.true_and, Bool.and_true, Bool.false_and, Bool.and_false, Bool.true_or, Bool.or_true, Bool.false_or, Bool.or_false, Bool.false_eq_true, Bool.and_self, and_self, true_and, and_true, decide_true, decide_false, Nat.zero_add, Nat.reduceAdd, Nat.reduceSub, Nat.reduceLeDiff, reduceCtorEq, Int.natCast_zero, Int.natCast_one, Int.cast_ofNat_Int, Int.reduceLT, Int.reduceLE, Int.reduceToNat, Int.reduceNeg, Int.reduceAdd, Int.reduceSub, Int.reducePow, Nat.reducePow, Int.reduceMul, Nat.reduceMul, List.reduceReplicate, List.flatten_cons, List.flatten_nil, ne_eq, not_false_eq_true, not_true_eq_false, List.cons_ne_nil])
local macro_rules | `(tactic| walk_at "ev!") => `(tactic| try simp (disch := first | assumption | omega | (simp only [List.length_cons, List.length_nil, List.length_append, List.length_map, List.length_zip] <;> omega)) only [seval, Lw.ol_toD, Lw.ol_flat, Lw.ol_slice, Lw.ge_call, Lw.ge_glob, Lw.ge_wf, Lw.ge_exm, Lw.bsel_some, Lw.osel_some, Lw.osel_none, Lw.q_var, Lw.q_int, Lw.q_bl, Lw.q_non, Lw.q_str, Lw.q_glob, Lw.q_bin, Lw.q_not, Lw.q_and, Lw.q_or, Lw.q_one, Lw.q_cmp, Lw.q_chain, Lw.q_ifx, Lw.q_tup, Lw.q_lst, Lw.q_idx, Lw.q_slc, Lw.fsel_ok, Lw.fsel_exc, Lw.q_call, Lw.q_prim, Lw.q_isi, Lw.q_nox, Lw.noxE_ok, Lw.q_nil, Lw.q_cons, Lw.qB_nil, Lw.qB_one, Lw.qI_seqT, Lw.qI_seqF, Lw.qI_enumT, Lw.qI_enumF, Lw.qI_zipT, Lw.qI_zipF, Lw.ssel_nx, Lw.ssel_ret, Lw.ssel_exc, Lw.ssel_brk, Lw.ssel_ct, Lw.s_nil', Lw.s_seq', Lw.s_ret', Lw.s_retN', Lw.s_set', Lw.s_setc', Lw.s_unp', Lw.s_par2', Lw.s_par3', Lw.dsel_d, Lw.s_aug', Lw.s_exp', Lw.s_ife', Lw.s_rai', Lw.s_pass', Lw.s_doc', Lw.s_brk', Lw.s_cnt', Lw.xsel_exc, Lw.xsel_nx, Lw.xsel_ret, Lw.s_try', Lw.nox_nx, Lw.nox_ret, Lw.s_hd', Lw.s_hnil', Lw.tst_eq, Lw.cBody_eq, Lw.bind_ok2, Lw.bind_exc2, Lw.bind_stuck2, Lw.then_ok2, Lw.then_exc2, Lw.then_stuck2, Lw.ofOpt_some2, Lw.ofOpt_none2, Lw.ite_okh, Lw.ite_tm, Lw.ite_od, Lw.ite_bool, Lw.ite_int, Lw.isiD_eq, Lw.flat_lst, Lw.whole_int, Lw.ite_else_false, Lw.ite_then_true, Lw.ite_not_false, Lw.flat_d, Lw.eqD_int, Lw.eqD_str, Lw.boolsD_map, Lw.look_tm2, Lw.look_sl2, Lw.join_some2, Lw.lookD_eq, Lw.lookF_eq, Lw.opd_tm, Lw.opd_sl, Lw.boolOf_bool, Lw.bool_eq, Lw.sto_tm, Lw.sto_sl, Lw.esc_tm, Lw.esc_sl, Lw.esel_d, Lw.esel_ol, Lw.arg_eq, Lw.asel_scr, Lw.asel_d, Lw.asel_ol, Lw.asel_lst, Lw.argsO_nil, Lw.argsO_cons, Lw.escs_nil, Lw.escs_cons, Lw.stos_nil, Lw.stos_cons, Lw.looksD_nil, Lw.looksD_cons, Lw.looksF_nil, Lw.looksF_cons, Lw.partD_nil, Lw.intOf_int, Lw.partD_one, Lw.okD_eq, Lw.deep_tm, Lw.deep_sl, Lw.isB_int_none, Lw.isB_int_bool, Lw.isB_int_int, Lw.isB_int_str, Lw.isB_int_list, Lw.isB_int_tuple, Lw.isB_bool_none, Lw.isB_bool_bool, Lw.isB_bool_int, Lw.isB_bool_str, Lw.isB_bool_list, Lw.isB_bool_tuple, Lw.isB_str_none, Lw.isB_str_bool, Lw.isB_str_int, Lw.isB_str_str, Lw.isB_str_list, Lw.isB_str_tuple, Lw.isB_tuple_none, Lw.isB_tuple_bool, Lw.isB_tuple_int, Lw.isB_tuple_str, Lw.isB_tuple_list, Lw.isB_tuple_tuple, Lw.isB_list_none, Lw.isB_list_bool, Lw.isB_list_int, Lw.isB_list_str, Lw.isB_list_list, Lw.isB_list_tuple, Lw.whole_none, Lw.whole_bool, Lw.whole_str, Lw.whole_list, Lw.whole_tuple, Lw.primO_len, Lw.primO_int, Lw.primO_abs, Lw.primO_max, Lw.primO_min, Lw.primO_sum, Lw.primO_all, Lw.primO_any, Lw.primO_tuple, Lw.primO_list, Lw.primO_sorted, Lw.lenO_l, Lw.lenO_t, Lw.intO_i, Lw.absO_i, Lw.maxO_2, Lw.minO_2, Lw.sumO_l, Lw.sumO_t, Lw.allO_l, Lw.anyO_l, Lw.tupleO_l, Lw.tupleO_t, Lw.listO_l, Lw.listO_t, Lw.sortedO_l, Lw.bin_add, Lw.bin_sub, Lw.cmp_Eq, Lw.cmp_NotEq, Lw.cmp_Lt, Lw.cmp_LtE, Lw.cmp_Gt, Lw.cmp_GtE, Lw.cmp_In, Lw.cmp_NotIn, Lw.cmp_Is, Lw.cmp_IsNot, Lw.notNone_none, Lw.notNone_bool, Lw.notNone_int, Lw.notNone_str, Lw.notNone_list, Lw.notNone_tuple, Lw.ltD_int, Lw.leD_int, Lw.gtD_int, Lw.geD_int, Lw.idx_t, Lw.idx_l, Lw.items_l, Lw.items_t, Lw.slice_t, Lw.slice_dl, Lw.slice_scr, Lw.zsel_l, Lw.zsel_t, Lw.zsel_lt, Lw.zsel_tl, Lw.outF_ret, Lw.outF_nx, Lw.outF_exc, Lw.asgT_var, Lw.asgT_tup, Lw.asgTs_nil, Lw.asgTs_cons, Lw.wipe_nil, Lw.wipe_cons, Lw.quiet_nil, Lw.quiet_cons, Lw.quiet_none, Lw.quiet_d, Lw.quiet_jd, Lw.aug_add2, Lw.aug_sub2, Lw.q_neg2, Lw.revO_t, Lw.revO_l, Lw.q_rev2, Lw.listOf_l, Lw.q_sset2, Lw.qI_rng1', Lw.rgsel_2, Lw.qI_rng2', Lw.bin_mul1, Lw.bin_mul3, Lw.bin_fdiv1, Lw.bin_fdiv2, Lw.bin_mod1, Lw.aug_mul1, Lw.bin_addT1, Lw.bin_addL1, Lw.bin_mulL1, Lw.bin_mulT1, Lw.ix_pos, Lw.ix_neg, Lw.lenOk_ok, Lw.rgD_ok', Lw.eqD_ints, Lw.eqD_tints, Lw.sliceD_from, Lw.sliceD_to, Lw.ltD_tints, Lw.leD_tints, Lw.ol_nil', Lw.ol_one', Lw.ol_two', Lw.ol_three', Lw.ol_four', Lw.ol_five', Lw.bin_pow1, Lw.lsel_ol, Lw.q_mth, Lw.appS_ok, Lw.mth_app, Lw.mth_ext, Lw.mth_extd, Lw.T.exm_BadColour_BadColour, Lw.T.exm_BadColour_BadColours, Lw.T.exm_BadColour_BadLight, Lw.T.exm_BadColour_BadStock, Lw.T.exm_BadColour_TooGreat, Lw.T.exm_BadColours_BadColour, Lw.T.exm_BadColours_BadColours, Lw.T.exm_BadColours_BadLight, Lw.T.exm_BadColours_BadStock, Lw.T.exm_BadColours_TooGreat, Lw.T.exm_BadLight_BadColour, Lw.T.exm_BadLight_BadColours, Lw.T.exm_BadLight_BadLight, Lw.T.exm_BadLight_BadStock, Lw.T.exm_BadLight_TooGreat, Lw.T.exm_BadStock_BadColour, Lw.T.exm_BadStock_BadColours, Lw.T.exm_BadStock_BadLight, Lw.T.exm_BadStock_BadStock, Lw.T.exm_BadStock_TooGreat, Lw.T.exm_TooGreat_BadColour, Lw.T.exm_TooGreat_BadColours, Lw.T.exm_TooGreat_BadLight, Lw.T.exm_TooGreat_BadStock, Lw.T.exm_TooGreat_TooGreat, Lw.T.gl_KINDS, Lw.T.gl_MOST_LEAST, Lw.T.gl_MOST_NUMBER, Lw.T.gl_MOST_ROW, Lw.T.gl_MOST_STOCK, Lw.T.gl_PARTS, Lw.T.sp_is_whole, Lw.T.sp_is_colour, Lw.T.sp_is_fraction, Lw.T.sp_are_colours, Lw.T.sp_lowlaw, Lw.T.sp_light, Lw.T.sp_colourlaw, *, O.walk, O.toD, O.toDs, O.flats, qt, List.getElem?_cons_zero, List.getElem?_cons_succ, List.set_cons_zero, List.set_cons_succ, List.map_cons, List.map_nil, List.cons_append, List.nil_append, List.append_nil, List.length_cons, List.length_nil, List.length_append, List.length_map, List.length_zip,  List.replicate, Option.bind_some, Option.bind_none, Option.map_some, Option.map_none, if_true, if_false, Bool.not_true, Bool.not_false, Bool.true_and, Bool.and_true, Bool.false_and, Bool.and_false, Bool.true_or, Bool.or_true, Bool.false_or, Bool.or_false, Bool.false_eq_true, Bool.and_self, and_self, true_and, and_true, decide_true, decide_false, Nat.zero_add, Nat.reduceAdd, Nat.reduceSub, Nat.reduceLeDiff, reduceCtorEq, Int.natCast_zero, Int.natCast_one, Int.cast_ofNat_Int, Int.reduceLT, Int.reduceLE, Int.reduceToNat, Int.reduceNeg, Int.reduceAdd, Int.reduceSub, Int.reducePow, Nat.reducePow, Int.reduceMul, Nat.reduceMul, List.reduceReplicate, List.flatten_cons, List.flatten_nil, ne_eq, not_false_eq_true, not_true_eq_false, List.cons_ne_nil])
local macro_rules | `(tactic| walk_at "evd") => `(tactic| try simp (disch := first | assumption | omega | (simp only [List.length_cons, List.length_nil, List.length_append, List.length_map, List.length_zip] <;> omega)) only [seval, Lw.ol_toD, Lw.ol_flat, Lw.ol_slice, Lw.ge_call, Lw.ge_glob, Lw.ge_wf, Lw.ge_exm, Lw.bsel_some, Lw.osel_some, Lw.osel_none, Lw.q_var, Lw.q_int, Lw.q_bl, Lw.q_non, Lw.q_str, Lw.q_glob, Lw.q_bin, Lw.q_not, Lw.q_and, Lw.q_or, Lw.q_one, Lw.q_cmp, Lw.q_chain, Lw.q_ifx, Lw.q_tup, Lw.q_lst, Lw.q_idx, Lw.q_slc, Lw.fsel_ok, Lw.fsel_exc, Lw.q_call, Lw.q_prim, Lw.q_isi, Lw.q_nox, Lw.noxE_ok, Lw.q_nil, Lw.q_cons, Lw.qB_nil, Lw.qB_one, Lw.qI_seqT, Lw.qI_seqF, Lw.qI_enumT, Lw.qI_enumF, Lw.qI_zipT, Lw.qI_zipF, Lw.ssel_nx, Lw.ssel_ret, Lw.ssel_exc, Lw.ssel_brk, Lw.ssel_ct, Lw.s_nil', Lw.s_seq', Lw.s_ret', Lw.s_retN', Lw.s_set', Lw.s_setc', Lw.s_unp', Lw.s_par2', Lw.s_par3', Lw.dsel_d, Lw.s_aug', Lw.s_exp', Lw.s_ife', Lw.s_rai', Lw.s_pass', Lw.s_doc', Lw.s_brk', Lw.s_cnt', Lw.xsel_exc, Lw.xsel_nx, Lw.xsel_ret, Lw.s_try', Lw.nox_nx, Lw.nox_ret, Lw.s_hd', Lw.s_hnil', Lw.tst_eq, Lw.cBody_eq, Lw.bind_ok2, Lw.bind_exc2, Lw.bind_stuck2, Lw.then_ok2, Lw.then_exc2, Lw.then_stuck2, Lw.ofOpt_some2, Lw.ofOpt_none2, Lw.ite_okh, Lw.ite_tm, Lw.ite_od, Lw.ite_bool, Lw.ite_int, Lw.isiD_eq, Lw.flat_lst, Lw.whole_int, Lw.ite_else_false, Lw.ite_then_true, Lw.ite_not_false, Lw.flat_d, Lw.eqD_int, Lw.eqD_str, Lw.boolsD_map, Lw.look_tm2, Lw.look_sl2, Lw.join_some2, Lw.lookD_eq, Lw.lookF_eq, Lw.opd_tm, Lw.opd_sl, Lw.boolOf_bool, Lw.bool_eq, Lw.sto_tm, Lw.sto_sl, Lw.esc_tm, Lw.esc_sl, Lw.esel_d, Lw.esel_ol, Lw.arg_eq, Lw.asel_scr, Lw.asel_d, Lw.asel_ol, Lw.asel_lst, Lw.argsO_nil, Lw.argsO_cons, Lw.escs_nil, Lw.escs_cons, Lw.stos_nil, Lw.stos_cons, Lw.looksD_nil, Lw.looksD_cons, Lw.looksF_nil, Lw.looksF_cons, Lw.partD_nil, Lw.intOf_int, Lw.partD_one, Lw.okD_eq, Lw.deep_tm, Lw.deep_sl, Lw.isB_int_none, Lw.isB_int_bool, Lw.isB_int_int, Lw.isB_int_str, Lw.isB_int_list, Lw.isB_int_tuple, Lw.isB_bool_none, Lw.isB_bool_bool, Lw.isB_bool_int, Lw.isB_bool_str, Lw.isB_bool_list, Lw.isB_bool_tuple, Lw.isB_str_none, Lw.isB_str_bool, Lw.isB_str_int, Lw.isB_str_str, Lw.isB_str_list, Lw.isB_str_tuple, Lw.isB_tuple_none, Lw.isB_tuple_bool, Lw.isB_tuple_int, Lw.isB_tuple_str, Lw.isB_tuple_list, Lw.isB_tuple_tuple, Lw.isB_list_none, Lw.isB_list_bool, Lw.isB_list_int, Lw.isB_list_str, Lw.isB_list_list, Lw.isB_list_tuple, Lw.whole_none, Lw.whole_bool, Lw.whole_str, Lw.whole_list, Lw.whole_tuple, Lw.primO_len, Lw.primO_int, Lw.primO_abs, Lw.primO_max, Lw.primO_min, Lw.primO_sum, Lw.primO_all, Lw.primO_any, Lw.primO_tuple, Lw.primO_list, Lw.primO_sorted, Lw.lenO_l, Lw.lenO_t, Lw.intO_i, Lw.absO_i, Lw.maxO_2, Lw.minO_2, Lw.sumO_l, Lw.sumO_t, Lw.allO_l, Lw.anyO_l, Lw.tupleO_l, Lw.tupleO_t, Lw.listO_l, Lw.listO_t, Lw.sortedO_l, Lw.bin_add, Lw.bin_sub, Lw.cmp_Eq, Lw.cmp_NotEq, Lw.cmp_Lt, Lw.cmp_LtE, Lw.cmp_Gt, Lw.cmp_GtE, Lw.cmp_In, Lw.cmp_NotIn, Lw.cmp_Is, Lw.cmp_IsNot, Lw.notNone_none, Lw.notNone_bool, Lw.notNone_int, Lw.notNone_str, Lw.notNone_list, Lw.notNone_tuple, Lw.ltD_int, Lw.leD_int, Lw.gtD_int, Lw.geD_int, Lw.idx_t, Lw.idx_l, Lw.items_l, Lw.items_t, Lw.slice_t, Lw.slice_dl, Lw.slice_scr, Lw.zsel_l, Lw.zsel_t, Lw.zsel_lt, Lw.zsel_tl, Lw.outF_ret, Lw.outF_nx, Lw.outF_exc, Lw.asgT_var, Lw.asgT_tup, Lw.asgTs_nil, Lw.asgTs_cons, Lw.wipe_nil, Lw.wipe_cons, Lw.quiet_nil, Lw.quiet_cons, Lw.quiet_none, Lw.quiet_d, Lw.quiet_jd, Lw.aug_add2, Lw.aug_sub2, Lw.q_neg2, Lw.revO_t, Lw.revO_l, Lw.q_rev2, Lw.listOf_l, Lw.q_sset2, Lw.qI_rng1', Lw.rgsel_2, Lw.qI_rng2', Lw.bin_mul1, Lw.bin_mul3, Lw.bin_fdiv1, Lw.bin_fdiv2, Lw.bin_mod1, Lw.aug_mul1, Lw.bin_addT1, Lw.bin_addL1, Lw.bin_mulL1, Lw.bin_mulT1, Lw.ix_pos, Lw.ix_neg, Lw.lenOk_ok, Lw.rgD_ok', Lw.eqD_ints, Lw.eqD_tints, Lw.sliceD_from, Lw.sliceD_to, Lw.ltD_tints, Lw.leD_tints, Lw.ol_nil', Lw.ol_one', Lw.ol_two', Lw.ol_three', Lw.ol_four', Lw.ol_five', Lw.bin_pow1, Lw.lsel_ol, Lw.q_mth, Lw.appS_ok, Lw.mth_app, Lw.mth_ext, Lw.mth_extd, Lw.T.exm_BadColour_BadColour, Lw.T.exm_BadColour_BadColours, Lw.T.exm_BadColour_BadLight, Lw.T.exm_BadColour_BadStock, Lw.T.exm_BadColour_TooGreat, Lw.T.exm_BadColours_BadColour, Lw.T.exm_BadColours_BadColours, Lw.T.exm_BadColours_BadLight, Lw.T.exm_BadColours_BadStock, Lw.T.exm_BadColours_TooGreat, Lw.T.exm_BadLight_BadColour, Lw.T.exm_BadLight_BadColours, Lw.T.exm_BadLight_BadLight, Lw.T.exm_BadLight_BadStock, Lw.T.exm_BadLight_TooGreat, Lw.T.exm_BadStock_BadColour, Lw.T.exm_BadStock_BadColours, Lw.T.exm_BadStock_BadLight, Lw.T.exm_BadStock_BadStock, Lw.T.exm_BadStock_TooGreat, Lw.T.exm_TooGreat_BadColour, Lw.T.exm_TooGreat_BadColours, Lw.T.exm_TooGreat_BadLight, Lw.T.exm_TooGreat_BadStock, Lw.T.exm_TooGreat_TooGreat, Lw.T.gl_KINDS, Lw.T.gl_MOST_LEAST, Lw.T.gl_MOST_NUMBER, Lw.T.gl_MOST_ROW, Lw.T.gl_MOST_STOCK, Lw.T.gl_PARTS, Lw.T.sp_is_whole, Lw.T.sp_is_colour, Lw.T.sp_is_fraction, Lw.T.sp_are_colours, Lw.T.sp_lowlaw, Lw.T.sp_light, Lw.T.sp_colourlaw, dec_yes, dec_no, O.walk, O.toD, O.toDs, O.flats, qt, List.getElem?_cons_zero, List.getElem?_cons_succ, List.set_cons_zero, List.set_cons_succ, List.map_cons, List.map_nil, List.cons_append, List.nil_append, List.append_nil, List.length_cons, List.length_nil, List.length_append, List.length_map, List.length_zip,  List.replicate, Option.bind_some, Option.bind_none, Option.map_some, Option.map_none, if_true, if_false, Bool.not_true, Bool.not_false, Bool.true_and, Bool.and_true, Bool.false_and, Bool.and_false, Bool.true_or, Bool.or_true, Bool.false_or, Bool.or_false, Bool.false_eq_true, Bool.and_self, and_self, true_and, and_true, decide_true, decide_false, Nat.zero_add, Nat.reduceAdd, Nat.reduceSub, Nat.reduceLeDiff, reduceCtorEq, Int.natCast_zero, Int.natCast_one, Int.cast_ofNat_Int, Int.reduceLT, Int.reduceLE, Int.reduceToNat, Int.reduceNeg, Int.reduceAdd, Int.reduceSub, Int.reducePow, Nat.reducePow, Int.reduceMul, Nat.reduceMul, List.reduceReplicate, List.flatten_cons, List.flatten_nil, ne_eq, not_false_eq_true, not_true_eq_false, List.cons_ne_nil])
theorem three {α : Type} : ∀ {l : List α}, l.length = 3 → ∃ a b c, l = [a, b, c]
  | [a, b, c], _ => ⟨a, b, c, rfl⟩
theorem Fr.bd {B : Int} {p : Int × Int} (h : Fr B p) (hB : B ≤ 10 ^ 100) : 0 ≤ p.1 ∧ p.1 ≤ 10 ^ 100 ∧ 0 < p.2 ∧ p.2 ≤ 10 ^ 100 := by
  unfold Fr at h; omega
theorem B58 : (10 : Int) ^ 100 * 10 ^ 100 < BIG := by decide +kernel
theorem mul_big {x y : Int} (h1 : 0 ≤ x) (h2 : x ≤ 10 ^ 100) (h3 : 0 ≤ y) (h4 : y ≤ 10 ^ 100) : 0 ≤ x * y ∧ x * y < BIG := by
  refine ⟨Int.mul_nonneg h1 h3, Int.lt_of_le_of_lt ?_ B58⟩
  exact Int.mul_le_mul h2 h4 h3 (by decide +kernel)
theorem sp_letslaw (l : Nat) (ls : List (Int × Int)) (c : List Int) (h1 : Lt (10 ^ 100) ls) (h2 : Cl c) : callN base (l + 2) 22 [.d (eL ls), .d (eC c)] = .ok (.d (eL (letL ls c))) [] := by
  rw [callN_eq t__law_lets rfl]
  unfold r22 b22
  obtain ⟨p, q, r, rfl⟩ := three h1.1
  obtain ⟨x, y, z, rfl⟩ := three h2.1
  have one : ∀ (p : Int × Int) (x : Int), p ∈ [p, q, r] → Fr (10 ^ 100) p → 0 ≤ x ∧ x ≤ 16 → callN base (l + 1) 19 [.d (.int (p.1 * x)), .d (.int (p.2 * 16))] = .ok (.d (frac (letF p x))) [] := fun p x _ hp hx => by
    have b := hp.bd (Int.le_refl _)
    have m1 := mul_big b.1 b.2.1 hx.1 (by omega)
    have m2 := mul_big (y := 16) (by omega) b.2.2.2 (by omega) (by decide +kernel)
    exact sp_lowlaw l _ _ m1.1 (by omega) m2.2
  have hp := h1.2 p (by simp)
  have hq := h1.2 q (by simp)
  have hr := h1.2 r (by simp)
  have hx := h2.2 x (by simp)
  have hy := h2.2 y (by simp)
  have hz := h2.2 z (by simp)
  have cp := one p x (by simp) hp hx
  have cq := one q y (by simp) hq hy
  have cr := one r z (by simp) hr hz
  have dp := hp.bd (Int.le_refl _)
  have dq := hq.bd (Int.le_refl _)
  have dr := hr.bd (Int.le_refl _)
  have hc : ev (base.ge (l + 1)) e__law_lets_0 [some (.d (eL [p, q, r])), some (.d (eC [x, y, z])), none] = .ok (.tm (ol ((List.range 3).map fun k => frac ((letL [p, q, r] [x, y, z]).getD k (0, 1))))) [some (.d (eL [p, q, r])), some (.d (eC [x, y, z])), none] := by
    refine ev_map (fun (k : Nat) => PyData.int (k : Int)) (List.range 3) _ ?_ rfl rfl (by decide) fun k hk => ?_
    · walk_at "ev"; rw [range3]
    · unfold eL eC frac at *
      rcases lt3 hk with rfl | rfl | rfl
      · walk_at "ev"
        simp only [cp]; walk_at "ev"
        rfl
      · walk_at "ev"
        simp only [cq]; walk_at "ev"
        rfl
      · walk_at "ev"
        simp only [cr]; walk_at "ev"
        rfl
  walk_at "ev"
  simp only [hc]; walk_at "ev"
  simp [eL, letL, List.range_succ]
theorem sp_meetslaw (l : Nat) (a b : List (Int × Int)) (h1 : Lt (10 ^ 60) a) (h2 : Lt (10 ^ 60) b) : callN base (l + 2) 24 [.d (eL a), .d (eL b)] = .ok (.d (eL (meetL a b))) [] := by
  rw [callN_eq t__law_meets rfl]
  unfold r24 b24
  obtain ⟨p, q, r, rfl⟩ := three h1.1
  obtain ⟨x, y, z, rfl⟩ := three h2.1
  have b6 : (10 : Int) ^ 60 ≤ 10 ^ 100 := by decide +kernel
  have bd : ∀ s t : Int, 0 ≤ s → s ≤ 10 ^ 60 → 0 ≤ t → t ≤ 10 ^ 60 → 0 ≤ s * t ∧ s * t ≤ 10 ^ 60 * 10 ^ 60 := fun s t k1 k2 k3 k4 => ⟨Int.mul_nonneg k1 k3, Int.mul_le_mul k2 k4 k3 (by decide +kernel)⟩
  have one : ∀ (p x : Int × Int), Fr (10 ^ 60) p → Fr (10 ^ 60) x → callN base (l + 1) 19 [.d (.int (p.1 * x.2 + x.1 * p.2)), .d (.int (p.2 * x.2))] = .ok (.d (frac (meetF p x))) [] := fun p x hp hx => by
    unfold Fr at hp hx
    have m1 := bd p.1 x.2 (by omega) (by omega) (by omega) (by omega)
    have m2 := bd x.1 p.2 (by omega) (by omega) (by omega) (by omega)
    have m3 := bd p.2 x.2 (by omega) (by omega) (by omega) (by omega)
    have k : (10 : Int) ^ 60 * 10 ^ 60 + 10 ^ 60 * 10 ^ 60 < BIG := by decide +kernel
    have k0 : (0 : Int) < 10 ^ 60 * 10 ^ 60 := by decide +kernel
    exact sp_lowlaw l _ _ (by omega) (Int.mul_pos (by omega) (by omega)) (by omega)
  have hp := h1.2 p (by simp)
  have hq := h1.2 q (by simp)
  have hr := h1.2 r (by simp)
  have hx := h2.2 x (by simp)
  have hy := h2.2 y (by simp)
  have hz := h2.2 z (by simp)
  have cp := one p x hp hx
  have cq := one q y hq hy
  have cr := one r z hr hz
  have dp := hp.bd b6
  have dq := hq.bd b6
  have dr := hr.bd b6
  have dx := hx.bd b6
  have dy := hy.bd b6
  have dz := hz.bd b6
  have hc : ev (base.ge (l + 1)) e__law_meets_0 [some (.d (eL [p, q, r])), some (.d (eL [x, y, z])), none] = .ok (.tm (ol ((List.range 3).map fun k => frac ((meetL [p, q, r] [x, y, z]).getD k (0, 1))))) [some (.d (eL [p, q, r])), some (.d (eL [x, y, z])), none] := by
    refine ev_map (fun (k : Nat) => PyData.int (k : Int)) (List.range 3) _ ?_ rfl rfl (by decide) fun k hk => ?_
    · walk_at "ev"; rw [range3]
    · unfold eL frac at *
      rcases lt3 hk with rfl | rfl | rfl
      · walk_at "ev"
        simp only [cp]; walk_at "ev"
        rfl
      · walk_at "ev"
        simp only [cq]; walk_at "ev"
        rfl
      · walk_at "ev"
        simp only [cr]; walk_at "ev"
        rfl
  walk_at "ev"
  simp only [hc]; walk_at "ev"
  simp [eL, meetL, List.range_succ]
/-- a light through a row, glass by glass -/
def rowL (ls : List (Int × Int)) (r : List (List Int)) : List (Int × Int) := r.foldl letL ls
theorem rowL_snoc (ls : List (Int × Int)) (r : List (List Int)) (c : List Int) : rowL ls (r ++ [c]) = letL (rowL ls r) c := by
  unfold rowL; rw [List.foldl_append]; rfl
theorem letL_lt {B : Int} {ls : List (Int × Int)} {c : List Int} (h : Lt B ls) (hc : Cl c) : Lt (B * 16) (letL ls c) := by
  refine ⟨by unfold letL; rw [List.length_map, List.length_zip, h.1, hc.1]; decide, fun p hp => ?_⟩
  obtain ⟨⟨q, n⟩, hq, rfl⟩ := List.mem_map.mp hp
  have m1 := h.2 _ (List.of_mem_zip hq).1
  have m2 := hc.2 _ (List.of_mem_zip hq).2
  unfold Fr at m1
  try simp only at m1 m2
  have e := Int.mul_le_mul (a := q.1) (b := n) (c := q.1) (d := 16) (by omega) (by omega) (by omega) (by omega)
  show Fr (B * 16) (low (q.1 * n) (q.2 * 16))
  exact low_fr (Int.mul_nonneg m1.1 m2.1) (by omega) (by omega) (by omega)
theorem rowL_lt {B : Int} {ls : List (Int × Int)} (h : Lt B ls) : ∀ r : List (List Int), (∀ c ∈ r, Cl c) → Lt (B * 16 ^ r.length) (rowL ls r) := by
  refine snocInd (fun _ => by simpa [rowL] using h) fun r c ih hr => ?_
  rw [rowL_snoc, List.length_append, List.length_singleton, Int.pow_succ, ← Int.mul_assoc]
  exact letL_lt (ih fun c hc => hr c (by simp [hc])) (hr c (by simp))
theorem B2_pow {n : Nat} (h : n ≤ 20) : B2 * 16 ^ n ≤ 10 ^ 100 := by
  have p := pow_le h
  exact Int.le_trans (Int.mul_le_mul_of_nonneg_left p (by decide +kernel)) (by decide +kernel)
theorem sp_rowlaw (l : Nat) (ls : List (Int × Int)) (r : List (List Int)) (h1 : Lt B2 ls) (h : ∀ c ∈ r, Cl c) (hl : r.length ≤ 20) : callN base (l + 3) 23 [.d (eL ls), .d (eR r)] = .ok (.d (eL (rowL ls r))) [] := by
  rw [callN_eq t__law_row rfl]
  unfold r23 b23
  have hf : ∃ ro', ex (base.ge (l + 2)) f__law_row_0 [some (.d (eL ls)), some (.d (eR r)), none] = .nx ro' ∧ ∃ j, ro' = [some (.d (eL (rowL ls r))), some (.d (eR r)), jd j] := by
    unfold f__law_row_0
    rw [s_for']
    have e : evI (base.ge (l + 2)) true (.seq (.var 1)) [some (.d (eL ls)), some (.d (eR r)), none] = .ok (r.map eC) [some (.d (eL ls)), some (.d (eR r)), none] := by
      unfold eR; walk_at "ev"
    rw [e, Out.then_ok]
    refine fLoop_ind eC r (fun pre ro => ∃ j, ro = [some (.d (eL (rowL ls pre))), some (.d (eR r)), jd j]) ?_ r [] _ rfl ⟨none, rfl⟩
    rintro pre c post ro hr ⟨j, rfl⟩
    have hlen : pre.length ≤ 20 := by
      have := congrArg List.length hr
      simp at this
      omega
    have k := sp_letslaw l (rowL ls pre) c ((rowL_lt h1 pre fun c hc => h c (by rw [hr]; simp [hc])).mono (B2_pow hlen)) (h c (by rw [hr]; simp))
    refine ⟨_, _, rfl, .inl ?_, some (eC c), rfl⟩
    simp only [List.set_cons_succ, List.set_cons_zero, rowL_snoc]
    walk_at "ev"
    simp only [k]; walk_at "ev"
    rfl
  obtain ⟨ro', f1, j, rfl⟩ := hf
  walk_at "ev"
  simp only [f1]; walk_at "ev"

theorem next_compL (G : GE) (s : List (List Int)) (row : List (List Int)) (hs : s.length ≤ 8) (hr : row.length ≤ 10) (o1 o2 o3 o4 : Option O) : ev G e__law_rows_0 [some (.d (eR s)), o1, o2, o3, o4, some (.d (eR row)), none] =
    .ok (.tm (ol (((s.filter (okNext row)).map fun one => row ++ [one]).map eR))) [some (.d (eR s)), o1, o2, o3, o4, some (.d (eR row)), none] := by
  rw [List.map_map]
  refine ev_filt eC s (okNext row) _ ?_ rfl rfl (by omega) fun c hc => ?_
  · unfold eR; walk_at "ev"
  · by_cases hne : row = []
    · subst hne
      unfold eR; walk_at "ev"
      simp [okNext, eR]
    · obtain ⟨d, h1, h2⟩ := last_eC row hne
      have hl : 0 < row.length := List.length_pos_iff.mpr hne
      have h3 : ((-1 : Int) + row.length).toNat = row.length - 1 := by omega
      have h4 : ¬ ((row.length : Int) = 0) := by omega
      unfold eR; walk_at "evd"
      simp only [h3, h2]; walk_at "ev"
      unfold eC; walk_at "ev"
      cases q : ltC c d
      · walk_at "ev"; simp [okNext, h1, q, eR, eC]
      · walk_at "ev"; simp [okNext, h1, q]
theorem grow_law (l : Nat) (s : List (List Int)) (rows : List (List (List Int))) (hs : s.length ≤ 8) (hrows : ∀ row ∈ rows, row.length ≤ 5) (hl : rows.length ≤ 5000) (x3 : O) (hx : isL x3 (rows.map eR)) (o1 o2 : Option O) (j5 : Option PyData) :
    ∃ j, ex (base.ge l) f__law_rows_0 [some (.d (eR s)), o1, o2, some x3, some (ol []), jd j5, none] = .nx [some (.d (eR s)), o1, o2, some (.d (.list (rows.map eR))), some (ol ((nextRows s rows).map eR)), jd j, none] := by
  unfold f__law_rows_0
  rw [s_for']
  have e : evI (base.ge l) true (.seq (.var 3)) [some (.d (eR s)), o1, o2, some x3, some (ol []), jd j5, none] = .ok (rows.map eR) [some (.d (eR s)), o1, o2, some (.d (.list (rows.map eR))), some (ol []), jd j5, none] := by
    walk_at "ev"
    rw [hx.esel rfl]
    walk_at "ev"
  rw [e, Out.then_ok]
  obtain ⟨ro', k1, j, rfl⟩ := fLoop_ind (tg := .var 5) (b := ex (base.ge l) (.seq (.exp (.mth .extend (.var 4) (.cons e__law_rows_0 .nil))) .nil)) eR rows (fun pre ro => ∃ j, ro = [some (.d (eR s)), o1, o2, some (.d (.list (rows.map eR))), some (ol ((nextRows s pre).map eR)), jd j, none]) (fun pre a post ro hro ⟨j, e⟩ => by
    subst e
    have ha := hrows a (by rw [hro]; simp)
    have hpl : pre.length ≤ 5000 := by
      have := congrArg List.length hro
      simp at this
      omega
    have hnl := next_len s hs pre
    have hnl2 := List.length_filter_le (okNext a) s
    refine ⟨_, _, rfl, .inl ?_, some (eR a), rfl⟩
    have hc := next_compL (base.ge l) s a hs (by omega) o1 o2 (some (.d (.list (rows.map eR)))) (some (ol ((nextRows s pre).map eR)))
    simp only [asgT_var, List.set_cons_succ, List.set_cons_zero]
    walk_at "ev"
    simp only [hc]; walk_at "ev"
    rw [show nextRows s (pre ++ [a]) = nextRows s pre ++ ((s.filter (okNext a)).map fun one => a ++ [one]) from by unfold nextRows; rw [List.flatMap_append]; simp]
    rw [List.map_append]
    rfl) rows [] _ rfl ⟨_, rfl⟩
  exact ⟨j, k1⟩
def lawRows (s : List (List Int)) (n : Nat) : List (List (List Int)) := (List.range n).flatMap (lvl s)
theorem lawRows_succ (s : List (List Int)) (n : Nat) : lawRows s (n + 1) = lawRows s n ++ lvl s n := by
  unfold lawRows
  rw [List.range_succ, List.flatMap_append]; simp
theorem lawRows_len (s : List (List Int)) (hs : s.length ≤ 8) (n : Nat) (hn : n ≤ 5) : (lawRows s n).length ≤ 5 * 8 ^ 4 := by
  have := flatMap_len (lvl s) (8 ^ 4) (List.range n) fun k hk => Nat.le_trans (lvl_len s hs k) (Nat.pow_le_pow_right (by decide) (by have := List.mem_range.mp hk; omega))
  rw [List.length_range] at this
  exact Nat.le_trans this (Nat.mul_le_mul_right _ hn)
theorem sp_rowslaw (l : Nat) (s : List (List Int)) (hs : s.length ≤ 8) : callN base (l + 1) 25 [.d (eR s)] = .ok (.d (.list ((lawRows s 5).map eR))) [] := by
  have f : ∃ ro', ex (base.ge l) f__law_rows_1 [some (.d (eR s)), none, some (ol [eR []]), some (ol [eR []]), none, none, none] = .nx ro' ∧ ∃ x j1 o3 o4 j5, ro' = [some (.d (eR s)), jd j1, some x, o3, o4, jd j5, none] ∧ isL x ((lawRows s 5).map eR) := by
    unfold f__law_rows_1
    rw [s_for']
    have e : evI (base.ge l) true (.rng (.cons (.int 4) .nil)) [some (.d (eR s)), none, some (ol [eR []]), some (ol [eR []]), none, none, none] = .ok ((List.range 4).map fun (k : Nat) => .int (k : Int)) [some (.d (eR s)), none, some (ol [eR []]), some (ol [eR []]), none, none, none] := by
      walk_at "ev"
      rw [rangeD_nat 4 4 rfl]
    rw [e, Out.then_ok]
    refine (fLoop_ind (fun (k : Nat) => PyData.int (k : Int)) (List.range 4) (fun pre ro => ∃ x j1 x3 o4 j5, ro = [some (.d (eR s)), jd j1, some x, some x3, o4, jd j5, none] ∧ isL x ((lawRows s (pre.length + 1)).map eR) ∧ isL x3 ((lvl s pre.length).map eR)) ?_ (List.range 4) [] _ rfl ⟨_, none, _, none, none, rfl, .inr rfl, .inr rfl⟩).imp fun ro' K => ⟨K.1, ?_⟩
    rotate_left
    · obtain ⟨k1, x, j1, x3, o4, j5, rfl, k2, k3⟩ := K
      exact ⟨x, j1, some x3, o4, j5, rfl, k2⟩
    · rintro pre k post ro hro ⟨x, j1, x3, o4, j5, rfl, h1, h2⟩
      obtain ⟨rfl, hp, hlt⟩ := range_at hro
      have hll : (lvl s pre.length).length ≤ 5000 := by
        have := lvl_len s hs pre.length
        have : 8 ^ pre.length ≤ 8 ^ 4 := Nat.pow_le_pow_right (by decide) (by omega)
        omega
      have hl2 := lvl_len s hs (pre.length + 1)
      have hl3 : 8 ^ (pre.length + 1) ≤ 8 ^ 4 := Nat.pow_le_pow_right (by decide) (by omega)
      have hl4 := lawRows_len s hs (pre.length + 1) (by omega)
      obtain ⟨j, g⟩ := grow_law l s (lvl s pre.length) hs (fun row h => by have := (lvl_rows s _ row h).1; omega) hll x3 h2 (some (.d (.int (pre.length : Int)))) (some x) j5
      have e2 : nextRows s (lvl s pre.length) = lvl s (pre.length + 1) := rfl
      refine ⟨_, [some (.d (eR s)), some (.d (.int (pre.length : Int))), some (ol ((lawRows s (pre.length + 2)).map eR)), some (.d (.list ((lvl s (pre.length + 1)).map eR))), some (.d (.list ((lvl s (pre.length + 1)).map eR))), jd j, none], rfl, .inl ?_, _, some (.int (pre.length : Int)), _, _, j, rfl, ?_, ?_⟩
      · simp only [asgT_var, List.set_cons_succ, List.set_cons_zero]
        walk_at "ev"
        simp only [g, e2]; walk_at "ev"
        rcases h1 with rfl | rfl
        · walk_at "ev"
          rw [lawRows_succ s (pre.length + 1), List.map_append]
        · walk_at "ev"
          rw [lawRows_succ s (pre.length + 1), List.map_append]
      · rw [List.length_append]; exact .inr rfl
      · rw [List.length_append]; exact .inl rfl
  obtain ⟨ro', f1, x, j1, o3, o4, j5, rfl, f2⟩ := f
  rw [callN_eq t__law_rows rfl]
  unfold r25 b25
  rcases f2 with rfl | rfl
  · walk_at "ev"
    rw [show PyData.tuple [] = eR [] from rfl]
    simp only [f1]; walk_at "ev"
  · walk_at "ev"
    rw [show PyData.tuple [] = eR [] from rfl]
    simp only [f1]; walk_at "ev"

/-! what is refused -/
theorem no_light (l : Nat) {x : PyData} (h : isLight x = false) : callN base (l + 3) 5 [.d x] = .exc ⟨"BadLight"⟩ [] := by
  rw [sp_check_light, h, if_neg (by decide)]
theorem no_colour (l : Nat) {x : PyData} (h : isColour x = false) : callN base (l + 3) 6 [.d x] = .exc ⟨"BadColour"⟩ [] := by
  rw [sp_check_colour, h, if_neg (by decide)]
theorem no_colours (l : Nat) {x : PyData} (h : areColours x 20 = false) : callN base (l + 4) 8 [.d x] = .exc ⟨"BadColours"⟩ [] := by
  rw [sp_check_colours, h, if_neg (by decide)]
theorem yes_light (l : Nat) {x : PyData} (h : isLight x = true) : callN base (l + 3) 5 [.d x] = .ok (.d .none) [] := by
  rw [sp_check_light, h, if_pos rfl]
theorem yes_colours (l : Nat) {x : PyData} (h : areColours x 20 = true) : callN base (l + 4) 8 [.d x] = .ok (.d .none) [] := by
  rw [sp_check_colours, h, if_pos rfl]
theorem lets_l (l : Nat) {x y : PyData} (h : isLight x = false) : callN base (l + 4) 11 [.d x, .d y] = .exc ⟨"BadLight"⟩ [] := by
  rw [callN_eq t_lets rfl]
  unfold r11 b11
  have a1 := no_light l h
  walk_at "ev"; simp only [a1]; walk_at "ev"
theorem lets_c (l : Nat) {x y : PyData} (h : isLight x = true) (h2 : isColour y = false) : callN base (l + 4) 11 [.d x, .d y] = .exc ⟨"BadColour"⟩ [] := by
  rw [callN_eq t_lets rfl]
  unfold r11 b11
  have a1 := yes_light l h
  have a2 := no_colour l h2
  walk_at "ev"; simp only [a1]; walk_at "ev"; simp only [a2]; walk_at "ev"
theorem through_l (l : Nat) {x y : PyData} (h : isLight x = false) : callN base (l + 5) 13 [.d x, .d y] = .exc ⟨"BadLight"⟩ [] := by
  rw [callN_eq t_through rfl]
  unfold r13 b13
  have a1 := no_light (l + 1) h
  walk_at "ev"; simp only [a1]; walk_at "ev"
theorem through_c (l : Nat) {x y : PyData} (h : isLight x = true) (h2 : areColours y 20 = false) : callN base (l + 5) 13 [.d x, .d y] = .exc ⟨"BadColours"⟩ [] := by
  rw [callN_eq t_through rfl]
  unfold r13 b13
  have a1 := yes_light (l + 1) h
  have a2 := no_colours l h2
  walk_at "ev"; simp only [a1]; walk_at "ev"; simp only [a2]; walk_at "ev"
theorem meets_l1 (l : Nat) {x y : PyData} (h : isLight x = false) : callN base (l + 4) 14 [.d x, .d y] = .exc ⟨"BadLight"⟩ [] := by
  rw [callN_eq t_meets rfl]
  unfold r14 b14
  have a1 := no_light l h
  walk_at "ev"; simp only [a1]; walk_at "ev"
theorem meets_l2 (l : Nat) {x y : PyData} (h : isLight x = true) (h2 : isLight y = false) : callN base (l + 4) 14 [.d x, .d y] = .exc ⟨"BadLight"⟩ [] := by
  rw [callN_eq t_meets rfl]
  unfold r14 b14
  have a1 := yes_light l h
  have a2 := no_light l h2
  walk_at "ev"; simp only [a1]; walk_at "ev"; simp only [a2]; walk_at "ev"
theorem same_c1 (l : Nat) {x y : PyData} (h : areColours x 20 = false) : callN base (l + 5) 16 [.d x, .d y] = .exc ⟨"BadColours"⟩ [] := by
  rw [callN_eq t_same_colours rfl]
  unfold r16 b16
  have a1 := no_colours l h
  walk_at "ev"; simp only [a1]; walk_at "ev"
theorem same_c2 (l : Nat) {x y : PyData} (h : areColours x 20 = true) (h2 : areColours y 20 = false) : callN base (l + 5) 16 [.d x, .d y] = .exc ⟨"BadColours"⟩ [] := by
  rw [callN_eq t_same_colours rfl]
  unfold r16 b16
  have a1 := yes_colours l h
  have a2 := no_colours l h2
  walk_at "ev"; simp only [a1]; walk_at "ev"; simp only [a2]; walk_at "ev"
theorem least_c (l : Nat) {x y : PyData} (h : areColours x 20 = false) : callN base (l + 5) 17 [.d x, .d y] = .exc ⟨"BadColours"⟩ [] := by
  rw [callN_eq t_least_row rfl]
  unfold r17 b17
  have a1 := no_colours l h
  walk_at "ev"; simp only [a1]; walk_at "ev"
theorem least_s1 (l : Nat) {x y : PyData} (h : areColours x 20 = true) (h2 : areColours y 8 = false) : callN base (l + 5) 17 [.d x, .d y] = .exc ⟨"BadStock"⟩ [] := by
  rw [callN_eq t_least_row rfl]
  unfold r17 b17
  have a1 := yes_colours l h
  walk_at "ev"; simp only [a1]; walk_at "ev"; simp only [h2]; walk_at "ev"
theorem least_s2 (l : Nat) {x : PyData} {s : List (List Int)} (h : areColours x 20 = true) (h2 : areColours (eR s) 8 = true) (h4 : s.length ≤ 8) (h3 : ascB s = false) : callN base (l + 5) 17 [.d x, .d (eR s)] = .exc ⟨"BadStock"⟩ [] := by
  rw [callN_eq t_least_row rfl]
  unfold r17 b17
  have a1 := yes_colours l h
  have a3 := sp_ascends (l + 3) s (by omega)
  rw [h3] at a3
  walk_at "ev"; simp only [a1]; walk_at "ev"; simp only [h2]; walk_at "ev"; simp only [a3]; walk_at "ev"
/-! .. and its word -/
theorem er0 (l : Nat) {x y : PyData} {e : Str} (h : callN base (l + 5) 11 [.d x, .d y] = .exc ⟨e⟩ []) (w : Str) (hw : (e, w) ∈ ([("BadLight", "light"), ("BadColour", "colour"), ("TooGreat", "great")] : List (Str × Str))) : callN base (l + 6) 26 [.d (.int 0), .d x, .d y] = .ok (.d (.str w)) [] := by
  rw [callN_eq t__law_error rfl]
  unfold r26 b26
  simp only [List.mem_cons, List.not_mem_nil, or_false, Prod.mk.injEq] at hw
  rcases hw with ⟨rfl, rfl⟩ | ⟨rfl, rfl⟩ | ⟨rfl, rfl⟩ <;> (walk_at "ev"; simp only [h]; walk_at "ev")
theorem er0n (l : Nat) {x y : PyData} {o : O} (h : callN base (l + 5) 11 [.d x, .d y] = .ok o []) : callN base (l + 6) 26 [.d (.int 0), .d x, .d y] = .ok (.d (.str "none")) [] := by
  rw [callN_eq t__law_error rfl]
  unfold r26 b26
  walk_at "ev"; simp only [h]; walk_at "ev"
theorem er1 (l : Nat) {x y : PyData} {e : Str} (h : callN base (l + 5) 13 [.d x, .d y] = .exc ⟨e⟩ []) (w : Str) (hw : (e, w) ∈ ([("BadLight", "light"), ("BadColours", "colours")] : List (Str × Str))) : callN base (l + 6) 26 [.d (.int 1), .d x, .d y] = .ok (.d (.str w)) [] := by
  rw [callN_eq t__law_error rfl]
  unfold r26 b26
  simp only [List.mem_cons, List.not_mem_nil, or_false, Prod.mk.injEq] at hw
  rcases hw with ⟨rfl, rfl⟩ | ⟨rfl, rfl⟩ <;> (walk_at "ev"; simp only [h]; walk_at "ev")
theorem er2 (l : Nat) {x y : PyData} {e : Str} (h : callN base (l + 5) 14 [.d x, .d y] = .exc ⟨e⟩ []) (w : Str) (hw : (e, w) ∈ ([("BadLight", "light"), ("TooGreat", "great")] : List (Str × Str))) : callN base (l + 6) 26 [.d (.int 2), .d x, .d y] = .ok (.d (.str w)) [] := by
  rw [callN_eq t__law_error rfl]
  unfold r26 b26
  simp only [List.mem_cons, List.not_mem_nil, or_false, Prod.mk.injEq] at hw
  rcases hw with ⟨rfl, rfl⟩ | ⟨rfl, rfl⟩ <;> (walk_at "ev"; simp only [h]; walk_at "ev")
theorem er3 (l : Nat) {x y : PyData} (h : callN base (l + 5) 16 [.d x, .d y] = .exc ⟨"BadColours"⟩ []) : callN base (l + 6) 26 [.d (.int 3), .d x, .d y] = .ok (.d (.str "colours")) [] := by
  rw [callN_eq t__law_error rfl]
  unfold r26 b26
  walk_at "ev"; simp only [h]; walk_at "ev"
theorem er4 (l : Nat) {x y : PyData} {e : Str} (h : callN base (l + 5) 17 [.d x, .d y] = .exc ⟨e⟩ []) (w : Str) (hw : (e, w) ∈ ([("BadColours", "colours"), ("BadStock", "stock")] : List (Str × Str))) : callN base (l + 6) 26 [.d (.int 4), .d x, .d y] = .ok (.d (.str w)) [] := by
  rw [callN_eq t__law_error rfl]
  unfold r26 b26
  simp only [List.mem_cons, List.not_mem_nil, or_false, Prod.mk.injEq] at hw
  rcases hw with ⟨rfl, rfl⟩ | ⟨rfl, rfl⟩ <;> (walk_at "ev"; simp only [h]; walk_at "ev")
/-! too great -/
def P59 : Int := 100000000000000000000000000000000000000000000000000000000000
def small3 : List (Int × Int) := [(1, P59), (1, P59), (1, P59)]
def small4 : List (Int × Int) := [(1, P59 + 1), (1, P59 + 1), (1, P59 + 1)]
theorem small3_lt : Lt MN small3 := ⟨rfl, fun p hp => by
  simp only [small3, List.mem_cons, List.not_mem_nil, or_false, or_self] at hp
  subst hp
  exact ⟨by decide +kernel, by decide +kernel, by decide +kernel, by decide +kernel, by decide +kernel⟩⟩
theorem small4_lt : Lt MN small4 := ⟨rfl, fun p hp => by
  simp only [small4, List.mem_cons, List.not_mem_nil, or_false, or_self] at hp
  subst hp
  exact ⟨by decide +kernel, by decide +kernel, by decide +kernel, by decide +kernel, by decide +kernel⟩⟩
theorem lets_great (l : Nat) : callN base (l + 4) 11 [.d (eL small3), .d (eC [1, 1, 1])] = .exc ⟨"TooGreat"⟩ [] := by
  have a1 := yes_light l (isLight_lt small3_lt)
  have a2 := ok_colour l (show Cl [1, 1, 1] from ⟨rfl, by decide⟩)
  have k := sp_lowest l 1 1600000000000000000000000000000000000000000000000000000000000 (by decide) (by decide +kernel) (by decide +kernel)
  rw [if_pos (by decide +kernel)] at k
  have a3 : callN base (l + 3) 10 [.d (eL small3), .d (eC [1, 1, 1])] = .exc ⟨"TooGreat"⟩ [] := by
    rw [callN_eq t__lets rfl]
    unfold r10 b10
    obtain ⟨ro', hc⟩ : ∃ ro', ev (base.ge (l + 2)) e__lets_0 [some (.d (eL small3)), some (.d (eC [1, 1, 1])), none, none, none] = .exc ⟨"TooGreat"⟩ ro' := by
      refine ev_comp_exc (ro0 := [some (.d (eL small3)), some (.d (eC [1, 1, 1])), none, none, none]) (fun q : (Int × Int) × Int => .tuple [frac q.1, .int q.2]) (small3.zip [1, 1, 1]) [] _ ((1, P59), 1) rfl (fun _ => none) ⟨"TooGreat"⟩ ?_ ?_ rfl rfl (by decide) (fun _ z => nomatch z) ?_
      rotate_left
      · unfold eL eC; walk_at "ev"; rfl
      · unfold frac P59; walk_at "ev"
        simp only [k]; walk_at "ev"
        rfl
    walk_at "ev"
    simp only [hc]; walk_at "ev"
  rw [callN_eq t_lets rfl]
  unfold r11 b11
  walk_at "ev"; simp only [a1]; walk_at "ev"; simp only [a2]; walk_at "ev"; simp only [a3]; walk_at "ev"
theorem meets_great (l : Nat) : callN base (l + 4) 14 [.d (eL small3), .d (eL small4)] = .exc ⟨"TooGreat"⟩ [] := by
  have a1 := yes_light l (isLight_lt small3_lt)
  have a2 := yes_light l (isLight_lt small4_lt)
  have k := sp_lowest (l + 1) (P59 + 1 + P59) (P59 * (P59 + 1)) (by decide +kernel) (by decide +kernel) (by decide +kernel)
  rw [if_pos (by decide +kernel)] at k
  have hf : ∃ ro', ex (base.ge (l + 3)) f_meets_0 [some (.d (eL small3)), some (.d (eL small4)), some (ol []), none, none, none, none] = .exc ⟨"TooGreat"⟩ ro' := by
    refine ⟨[some (.d (eL small3)), some (.d (eL small4)), some (ol []), some (.d (.int 1)), some (.d (.int P59)), some (.d (.int 1)), some (.d (.int (P59 + 1)))], ?_⟩
    unfold f_meets_0
    rw [s_for']
    have e : evI (base.ge (l + 3)) true (.zip (.cons (.var 0) (.cons (.var 1) .nil))) [some (.d (eL small3)), some (.d (eL small4)), some (ol []), none, none, none, none] = .ok [.tuple [frac (1, P59), frac (1, P59 + 1)], .tuple [frac (1, P59), frac (1, P59 + 1)], .tuple [frac (1, P59), frac (1, P59 + 1)]] [some (.d (eL small3)), some (.d (eL small4)), some (ol []), none, none, none, none] := by
      unfold eL; walk_at "ev"; rfl
    rw [e, Out.then_ok, fLoop]
    have e2 : ∀ ro : Ro, asgT (.tup (.cons (.tup (.cons (.var 3) (.cons (.var 4) .nil))) (.cons (.tup (.cons (.var 5) (.cons (.var 6) .nil))) .nil))) (.tuple [frac (1, P59), frac (1, P59 + 1)]) ro = some ((((ro.set 3 (some (.d (.int 1)))).set 4 (some (.d (.int P59)))).set 5 (some (.d (.int 1)))).set 6 (some (.d (.int (P59 + 1))))) := fun ro => by
      unfold frac; walk_at "ev"
    rw [e2]
    simp only [List.set_cons_succ, List.set_cons_zero]
    have m1 : mulOk P59 (P59 + 1) = true := by decide +kernel
    have m2 : mulOk 1 (P59 + 1) = true := by decide +kernel
    have m3 : mulOk 1 P59 = true := by decide +kernel
    walk_at "ev"
    simp only [Int.one_mul, k]; walk_at "ev"
  obtain ⟨ro', f1⟩ := hf
  rw [callN_eq t_meets rfl]
  unfold r14 b14
  walk_at "ev"; simp only [a1]; walk_at "ev"; simp only [a2]; walk_at "ev"; simp only [f1]; walk_at "ev"
theorem lets_fit (l : Nat) : ∃ o, callN base (l + 4) 11 [.d (eL small3), .d (eC [16, 0, 16])] = .ok o [] := by
  have a1 := yes_light l (isLight_lt small3_lt)
  have a2 := ok_colour l (show Cl [16, 0, 16] from ⟨rfl, by decide⟩)
  have k1 := sp_lowest l 16 1600000000000000000000000000000000000000000000000000000000000 (by decide) (by decide +kernel) (by decide +kernel)
  rw [if_neg (by decide +kernel)] at k1
  have k2 := sp_lowest l 0 1600000000000000000000000000000000000000000000000000000000000 (by decide) (by decide +kernel) (by decide +kernel)
  rw [if_neg (by decide +kernel)] at k2
  have a3 : callN base (l + 3) 10 [.d (eL small3), .d (eC [16, 0, 16])] = .ok (.d (.tuple ((small3.zip [16, 0, 16]).map fun q => frac (letF q.1 q.2)))) [] := by
    rw [callN_eq t__lets rfl]
    unfold r10 b10
    have hc : ev (base.ge (l + 2)) e__lets_0 [some (.d (eL small3)), some (.d (eC [16, 0, 16])), none, none, none] = .ok (.tm (ol ((small3.zip [16, 0, 16]).map fun q => frac (letF q.1 q.2)))) [some (.d (eL small3)), some (.d (eC [16, 0, 16])), none, none, none] := by
      refine ev_map (fun q : (Int × Int) × Int => .tuple [frac q.1, .int q.2]) (small3.zip [16, 0, 16]) _ ?_ rfl rfl (by decide) fun q hq => ?_
      · unfold eL eC; walk_at "ev"; rfl
      · have hq : q = ((1, P59), 16) ∨ q = ((1, P59), 0) := by
          simp only [small3, List.zip_cons_cons, List.zip_nil_right, List.mem_cons, List.not_mem_nil, or_false] at hq
          rcases hq with h | h | h
          · exact .inl h
          · exact .inr h
          · exact .inl h
        rcases hq with rfl | rfl
        · unfold frac P59; walk_at "ev"
          simp only [k1]; walk_at "ev"
          rfl
        · unfold frac P59; walk_at "ev"
          simp only [k2]; walk_at "ev"
          rfl
    walk_at "ev"
    simp only [hc]; walk_at "ev"
  refine ⟨.d (.tuple ((small3.zip [16, 0, 16]).map fun q => frac (letF q.1 q.2))), ?_⟩
  rw [callN_eq t_lets rfl]
  unfold r11 b11
  walk_at "ev"; simp only [a1]; walk_at "ev"; simp only [a2]; walk_at "ev"; simp only [a3]; walk_at "ev"

theorem ne_l4 : eqD (.list [.str "light", .str "light", .str "light", .str "light"]) (.list [.str "light", .str "light", .str "light", .str "light"]) = some true := by decide +kernel
theorem ne_c5 : eqD (.list [.str "colour", .str "colours", .str "colours", .str "colours", .str "colours"]) (.list [.str "colour", .str "colours", .str "colours", .str "colours", .str "colours"]) = some true := by decide +kernel
theorem ne_c3 : eqD (.list [.str "colours", .str "colours", .str "colours"]) (.list [.str "colours", .str "colours", .str "colours"]) = some true := by decide +kernel
theorem ne_s6 : eqD (.list [.str "stock", .str "stock", .str "stock", .str "stock", .str "stock", .str "stock"]) (.list [.str "stock", .str "stock", .str "stock", .str "stock", .str "stock", .str "stock"]) = some true := by decide +kernel
theorem eq_gr : eqD (.str "great") (.str "great") = some true := by decide +kernel
theorem eq_no : eqD (.str "none") (.str "none") = some true := by decide +kernel
/-- the wrong lights -/
def wrongs8 (p q : PyData) : List PyData := [.tuple [p, q, .tuple [.int 2, .int 4]], .tuple [p, q, .tuple [.int 1, .int 0]], .tuple [p, q, .tuple [.int (-1), .int 2]], .tuple [p, q, .tuple [.bool true, .int 1]], .tuple [p, q, .tuple [.int 0, .int 2]], .tuple [p, q, .int 5], .tuple [p, q, .tuple [.int MN, .int 1]], .tuple [p, q, .none]]
def wrongs4 (p q : PyData) : List PyData := [.none, .tuple [], .list [p, p, p], .tuple [p, q]]
theorem not3 (p q x : PyData) (h : isFrac x = false) : isLight (.tuple [p, q, x]) = false := by
  simp [isLight, h]
theorem wrongs_bad (p q : PyData) : ∀ w ∈ wrongs8 p q ++ wrongs4 p q, isLight w = false := by
  intro w hw
  simp only [wrongs8, wrongs4, List.cons_append, List.nil_append, List.mem_cons, List.not_mem_nil, or_false] at hw
  rcases hw with rfl | rfl | rfl | rfl | rfl | rfl | rfl | rfl | rfl | rfl | rfl | rfl
  · exact not3 p q _ (by decide +kernel)
  · exact not3 p q _ (by decide +kernel)
  · exact not3 p q _ (by decide +kernel)
  · exact not3 p q _ (by decide +kernel)
  · exact not3 p q _ (by decide +kernel)
  · exact not3 p q _ (by decide +kernel)
  · exact not3 p q _ (by decide +kernel)
  · exact not3 p q _ (by decide +kernel)
  · rfl
  · rfl
  · rfl
  · rfl
def wrongsC : List PyData := [.none, .tuple [.int 1, .int 2], .tuple [.int 1, .int 2, .int 17], .tuple [.int (-1), .int 0, .int 0], .list [.int 1, .int 2, .int 3], .tuple [.bool true, .int 0, .int 0]]
theorem wrongsC_bad : ∀ w ∈ wrongsC, isColour w = false := by
  intro w hw
  simp only [wrongsC, List.mem_cons, List.not_mem_nil, or_false] at hw
  rcases hw with rfl | rfl | rfl | rfl | rfl | rfl <;> decide +kernel
theorem one_bad {w : PyData} (h : isColour w = false) (n : Int) : areColours (.tuple [w]) n = false := by
  simp [areColours, h]
def wrongsR (c : PyData) : List PyData := [.none, .list [c], .tuple (List.replicate 21 c)]
theorem wrongsR_bad (c : PyData) : ∀ w ∈ wrongsR c, areColours w 20 = false := by
  intro w hw
  simp only [wrongsR, List.mem_cons, List.not_mem_nil, or_false] at hw
  rcases hw with rfl | rfl | rfl
  · rfl
  · rfl
  · simp [areColours]
def wrongsS : List PyData := [.none, .list [], eR [[2, 2, 2], [1, 1, 1]], eR [[1, 1, 1], [1, 1, 1]], .tuple [.tuple [.int 1, .int 1]], .tuple [.none]]
theorem nil_ok (n : Int) (h : 0 ≤ n) : areColours (.tuple []) n = true := by simp [areColours, h]
theorem stock_bad (l : Nat) : ∀ w ∈ wrongsS, callN base (l + 5) 17 [.d (.tuple []), .d w] = .exc ⟨"BadStock"⟩ [] := by
  intro w hw
  simp only [wrongsS, List.mem_cons, List.not_mem_nil, or_false] at hw
  have z := nil_ok 20 (by decide)
  rcases hw with rfl | rfl | rfl | rfl | rfl | rfl
  · exact least_s1 l z (by decide +kernel)
  · exact least_s1 l z (by decide +kernel)
  · exact least_s2 l z (by decide +kernel) (by decide) (by decide +kernel)
  · exact least_s2 l z (by decide +kernel) (by decide) (by decide +kernel)
  · exact least_s1 l z (by decide +kernel)
  · exact least_s1 l z (by decide +kernel)
theorem refuse_lights (l : Nat) (L c : PyData) (hL : isLight L = true) (ws : List PyData) (hw : ∀ w ∈ ws, isLight w = false) (x2 : O) (o3 o4 o5 : Option O) (it : CE)
    (hi : ∀ ro : Ro, ro = [some (.d L), some (.d c), some x2, o3, o4, o5] → evI (base.ge (l + 6)) true (.seq it) ro = .ok ws ro) (j : Option PyData) (hj : o3 = jd j) :
    ∃ ro' j, ex (base.ge (l + 6)) (.for_ (.var 3) (.seq it) (.seq (.ife (.cmp .NotEq (.lst (.cons (.call 26 (.cons (.int 0) (.cons (.var 3) (.cons (.var 1) .nil)))) (.cons (.call 26 (.cons (.int 1) (.cons (.var 3) (.cons (.tup .nil) .nil)))) (.cons (.call 26 (.cons (.int 2) (.cons (.var 3) (.cons (.var 0) .nil)))) (.cons (.call 26 (.cons (.int 2) (.cons (.var 0) (.cons (.var 3) .nil)))) .nil))))) (.bin .Mult (.lst (.cons (.str "light") .nil)) (.int 4))) (.seq (.ret (.bl false)) .nil) .nil) .nil)) [some (.d L), some (.d c), some x2, o3, o4, o5] = .nx ro' ∧ ro' = [some (.d L), some (.d c), some x2, jd j, o4, o5] := by
  rw [s_for', hi _ rfl, Out.then_ok]
  have k := fLoop_ind (tg := .var 3) (b := ex (base.ge (l + 6)) (.seq (.ife (.cmp .NotEq (.lst (.cons (.call 26 (.cons (.int 0) (.cons (.var 3) (.cons (.var 1) .nil)))) (.cons (.call 26 (.cons (.int 1) (.cons (.var 3) (.cons (.tup .nil) .nil)))) (.cons (.call 26 (.cons (.int 2) (.cons (.var 3) (.cons (.var 0) .nil)))) (.cons (.call 26 (.cons (.int 2) (.cons (.var 0) (.cons (.var 3) .nil)))) .nil))))) (.bin .Mult (.lst (.cons (.str "light") .nil)) (.int 4))) (.seq (.ret (.bl false)) .nil) .nil) .nil)) id ws (fun _ ro => ∃ j, ro = [some (.d L), some (.d c), some x2, jd j, o4, o5]) ?_ ws [] [some (.d L), some (.d c), some x2, o3, o4, o5] rfl ⟨j, by rw [hj]⟩
  · rw [List.map_id] at k
    obtain ⟨ro', k1, j, k2⟩ := k
    exact ⟨ro', j, k1, k2⟩
  · rintro pre w post ro hro ⟨j, rfl⟩
    have h := hw w (by rw [hro]; simp)
    have e1 := er0 l (lets_l (l + 1) (y := c) h) "light" (by simp)
    have e2 := er1 l (through_l l (y := .tuple []) h) "light" (by simp)
    have e3 := er2 l (meets_l1 (l + 1) (y := L) h) "light" (by simp)
    have e4 := er2 l (meets_l2 (l + 1) hL h) "light" (by simp)
    refine ⟨_, _, rfl, .inl ?_, some w, rfl⟩
    try simp only [id_eq, List.set_cons_succ, List.set_cons_zero]
    walk_at "ev"
    simp only [e1]; walk_at "ev"
    simp only [e2]; walk_at "ev"
    simp only [e3]; walk_at "ev"
    simp only [e4]; walk_at "ev"
    simp only [ne_l4]; walk_at "ev"
    rfl

theorem refuse_colours (l : Nat) (L c : PyData) (hL : isLight L = true) (x2 : O) (o4 o5 : Option O) (j : Option PyData) :
    ∃ j', ex (base.ge (l + 6)) f__law_refuses_0 [some (.d L), some (.d c), some x2, jd j, o4, o5] = .nx [some (.d L), some (.d c), some x2, jd j', o4, o5] := by
  unfold f__law_refuses_0
  rw [s_for']
  have e : evI (base.ge (l + 6)) true (.seq (.tup (.cons .non (.cons (.tup (.cons (.int 1) (.cons (.int 2) .nil))) (.cons (.tup (.cons (.int 1) (.cons (.int 2) (.cons (.int 17) .nil)))) (.cons (.tup (.cons (.neg (.int 1)) (.cons (.int 0) (.cons (.int 0) .nil)))) (.cons (.lst (.cons (.int 1) (.cons (.int 2) (.cons (.int 3) .nil)))) (.cons (.tup (.cons (.bl true) (.cons (.int 0) (.cons (.int 0) .nil)))) .nil)))))))) [some (.d L), some (.d c), some x2, jd j, o4, o5] = .ok wrongsC [some (.d L), some (.d c), some x2, jd j, o4, o5] := by
    walk_at "ev"
    rfl
  rw [e, Out.then_ok]
  have k := fLoop_ind (tg := .var 3) (b := ex (base.ge (l + 6)) (.seq (.ife (.cmp .NotEq (.lst (.cons (.call 26 (.cons (.int 0) (.cons (.var 0) (.cons (.var 3) .nil)))) (.cons (.call 26 (.cons (.int 1) (.cons (.var 0) (.cons (.tup (.cons (.var 3) .nil)) .nil)))) (.cons (.call 26 (.cons (.int 3) (.cons (.tup (.cons (.var 3) .nil)) (.cons (.tup .nil) .nil)))) (.cons (.call 26 (.cons (.int 3) (.cons (.tup .nil) (.cons (.tup (.cons (.var 3) .nil)) .nil)))) (.cons (.call 26 (.cons (.int 4) (.cons (.tup (.cons (.var 3) .nil)) (.cons (.tup .nil) .nil)))) .nil)))))) (.bin .Add (.lst (.cons (.str "colour") .nil)) (.bin .Mult (.lst (.cons (.str "colours") .nil)) (.int 4)))) (.seq (.ret (.bl false)) .nil) .nil) .nil)) id wrongsC (fun _ ro => ∃ j, ro = [some (.d L), some (.d c), some x2, jd j, o4, o5]) ?_ wrongsC [] [some (.d L), some (.d c), some x2, jd j, o4, o5] rfl ⟨j, rfl⟩
  · rw [List.map_id] at k
    obtain ⟨ro', k1, j, rfl⟩ := k
    exact ⟨j, k1⟩
  · rintro pre w post ro hro ⟨j, rfl⟩
    have h := wrongsC_bad w (by rw [hro]; simp)
    have z := nil_ok 20 (by decide)
    have e1 := er0 l (lets_c (l + 1) hL h) "colour" (by simp)
    have e2 := er1 l (through_c l hL (one_bad h 20)) "colours" (by simp)
    have e3 := er3 l (same_c1 l (y := .tuple []) (one_bad h 20))
    have e4 := er3 l (same_c2 l z (one_bad h 20))
    have e5 := er4 l (least_c l (y := .tuple []) (one_bad h 20)) "colours" (by simp)
    refine ⟨_, _, rfl, .inl ?_, some w, rfl⟩
    try simp only [id_eq, List.set_cons_succ, List.set_cons_zero]
    walk_at "ev"
    simp only [e1]; walk_at "ev"
    simp only [e2]; walk_at "ev"
    simp only [e3]; walk_at "ev"
    simp only [e4]; walk_at "ev"
    simp only [e5]; walk_at "ev"
    simp only [ne_c5]; walk_at "ev"
    rfl
theorem refuse_rows (l : Nat) (L c : PyData) (hL : isLight L = true) (x2 : O) (o4 : Option O) (j : Option PyData) :
    ev (base.ge (l + 6)) e__law_refuses_1 [some (.d L), some (.d c), some x2, jd j, o4, none] = .ok (.tm (ol [.str "colours", .str "colours", .str "colours"])) [some (.d L), some (.d c), some x2, jd j, o4, none] := by
  refine ev_map id (wrongsR c) (fun _ => .str "colours") ?_ (by cases j <;> rfl) rfl (Nat.le_of_ble_eq_true rfl) fun w hw => ?_
  · rw [List.map_id]; walk_at "ev"
    rfl
  · have h := wrongsR_bad c w hw
    have e2 := er1 l (through_c l hL h) "colours" (by simp)
    unfold id; walk_at "ev"
    simp only [e2]; walk_at "ev"
theorem refuse_stocks (l : Nat) (L c : PyData) (x2 : O) (o4 : Option O) (j : Option PyData) :
    ev (base.ge (l + 6)) e__law_refuses_0 [some (.d L), some (.d c), some x2, jd j, o4, none] = .ok (.tm (ol [.str "stock", .str "stock", .str "stock", .str "stock", .str "stock", .str "stock"])) [some (.d L), some (.d c), some x2, jd j, o4, none] := by
  refine ev_map id wrongsS (fun _ => .str "stock") ?_ (by cases j <;> rfl) rfl (Nat.le_of_ble_eq_true rfl) fun w hw => ?_
  · rw [List.map_id]; walk_at "ev"
    rfl
  · have e2 := er4 l (stock_bad l w hw) "stock" (by simp)
    unfold id; walk_at "ev"
    simp only [e2]; walk_at "ev"
theorem sp_refuses (l : Nat) (ls : List (Int × Int)) (c : List Int) (h1 : Lt 20 ls) (h2 : Cl c) : callN base (l + 7) 27 [.d (eL ls), .d (eC c)] = .ok (.d (.bool true)) [] := by
  have hL : isLight (eL ls) = true := h1.ok (by decide +kernel)
  obtain ⟨p, q, r, rfl⟩ := three h1.1
  have hc : ev (base.ge (l + 6)) e__law_refuses_2 [some (.d (eL [p, q, r])), some (.d (eC c)), none, none, none, none] = .ok (.tm (ol (wrongs8 (frac p) (frac q)))) [some (.d (eL [p, q, r])), some (.d (eC c)), none, none, none, none] := by
    refine ev_map id [.tuple [.int 2, .int 4], .tuple [.int 1, .int 0], .tuple [.int (-1), .int 2], .tuple [.bool true, .int 1], .tuple [.int 0, .int 2], .int 5, .tuple [.int MN, .int 1], .none] (fun w => .tuple [frac p, frac q, w]) ?_ rfl rfl (by decide) fun w hw => ?_
    · rw [List.map_id]; walk_at "ev"
      rfl
    · have e := List.length_take_le 2 [frac p, frac q, frac r]
      unfold id eL; walk_at "ev"
      simp only [List.take_succ_cons, List.take_zero]; walk_at "ev"
  obtain ⟨ro', j, f1, f1'⟩ := refuse_lights l (eL [p, q, r]) (eC c) hL _ (wrongs_bad (frac p) (frac q)) (ol (wrongs8 (frac p) (frac q))) none none none
    (.bin .Add (.var 2) (.lst (.cons .non (.cons (.tup .nil) (.cons (.bin .Mult (.lst (.cons (.idx (.var 0) (.int 0)) .nil)) (.int 3)) (.cons (.slc (.var 0) .nil (.cons (.int 2) .nil)) .nil))))))
    (fun ro hro => by subst hro; unfold eL wrongs8 wrongs4; walk_at "ev"; rfl) none rfl
  subst f1'
  obtain ⟨j2, f2⟩ := refuse_colours l (eL [p, q, r]) (eC c) hL (ol (wrongs8 (frac p) (frac q))) none none j
  have f3 := refuse_rows l (eL [p, q, r]) (eC c) hL (ol (wrongs8 (frac p) (frac q))) none j2
  have f4 := refuse_stocks l (eL [p, q, r]) (eC c) (ol (wrongs8 (frac p) (frac q))) none j2
  have g1 := er0 l (lets_great (l + 1)) "great" (by simp)
  have g2 := er2 l (meets_great (l + 1)) "great" (by simp)
  obtain ⟨o, g3⟩ := lets_fit (l + 1)
  have g3 := er0n l g3
  rw [callN_eq t__law_refuses rfl]
  unfold r27 b27
  walk_at "ev"
  simp only [hc]; walk_at "ev"
  have f1 : ex (base.ge (l + 6)) f__law_refuses_1 _ = .nx _ := f1
  simp only [f1]; walk_at "ev"
  simp only [f2]; walk_at "ev"
  simp only [f3]; walk_at "ev"
  simp only [ne_c3]; walk_at "ev"
  simp only [f4]; walk_at "ev"
  simp only [ne_s6]; walk_at "ev"
  simp only [eL, small3, small4, eC, frac, P59, List.map_cons, List.map_nil, Int.reduceAdd] at g1 g2 g3
  simp only [g1]; walk_at "ev"
  simp only [g2]; walk_at "ev"
  simp only [g3]; walk_at "ev"

/-! the plain law of lights -/
theorem mulL_cons (x y : Int) (xs ys : List Int) : mulL (x :: xs) (y :: ys) = (x * y) :: mulL xs ys := rfl
theorem mulL_nil (xs : List Int) : mulL [] xs = [] := rfl
theorem mulL_nil' (xs : List Int) : mulL xs [] = [] := by cases xs <;> rfl
theorem mulL_rc : ∀ a b c : List Int, mulL (mulL a b) c = mulL (mulL a c) b
  | [], _, _ => rfl
  | a :: as, [], c => by rw [mulL_nil', mulL_nil, mulL_nil']
  | a :: as, b :: bs, [] => by rw [mulL_nil', mulL_nil', mulL_nil]
  | a :: as, b :: bs, c :: cs => by
    simp only [mulL_cons, mulL_rc as bs cs, Int.mul_assoc, Int.mul_comm b c]
theorem foldl_mulL (c : List Int) : ∀ (cs : List (List Int)) (a : List Int), cs.foldl mulL (mulL a c) = mulL (cs.foldl mulL a) c
  | [], a => rfl
  | d :: cs, a => by rw [List.foldl_cons, List.foldl_cons, mulL_rc a c d, foldl_mulL c cs]
theorem prodL_rev : ∀ cs : List (List Int), prodL cs.reverse = prodL cs
  | [] => rfl
  | c :: cs => by
    rw [List.reverse_cons, prodL_snoc, prodL_rev cs]
    exact (foldl_mulL c cs [1, 1, 1]).symm
theorem thrL_rev (ls : List (Int × Int)) (cs : List (List Int)) : thrL ls cs.reverse = thrL ls cs := by
  unfold thrL
  rw [prodL_rev, List.length_reverse]
theorem fr_low {B : Int} {p : Int × Int} (h : Fr B p) : low (p.1 * 1) (p.2 * 16 ^ 0) = p := by
  unfold Fr at h
  rw [Int.mul_one, Int.pow_zero, Int.mul_one]
  exact low_id h.2.2.2.2
theorem thrL_nil {B : Int} {ls : List (Int × Int)} (h : Lt B ls) : thrL ls [] = ls := by
  obtain ⟨p, q, r, rfl⟩ := three h.1
  have e : thrL [p, q, r] [] = [low (p.1 * 1) (p.2 * 16 ^ 0), low (q.1 * 1) (q.2 * 16 ^ 0), low (r.1 * 1) (r.2 * 16 ^ 0)] := rfl
  rw [e, fr_low (h.2 p (by simp)), fr_low (h.2 q (by simp)), fr_low (h.2 r (by simp))]
theorem thr_row {B : Int} {ls : List (Int × Int)} (h : Lt B ls) : ∀ r : List (List Int), (∀ c ∈ r, Cl c) → thrL ls r = rowL ls r := by
  refine snocInd (fun _ => thrL_nil h) fun cs c ih hr => ?_
  have hcs : ∀ d ∈ cs, Cl d := fun d hd => hr d (by simp [hd])
  rw [rowL_snoc, ← ih hcs]
  obtain ⟨p, q, r, rfl⟩ := three h.1
  obtain ⟨e1, e2⟩ := prodL_ok cs hcs
  obtain ⟨u, v, w, rfl⟩ := three (hr c (by simp)).1
  obtain ⟨x, y, z, e⟩ := three e1
  unfold thrL
  rw [prodL_snoc, e]
  rw [e] at e2
  have p0 : (0 : Int) < 16 ^ cs.length := Int.pow_pos (by decide)
  have k1 := low_low (c := u) (d := 16) (Int.mul_pos (h.2 p (by simp)).2.2.1 p0) (by decide) (Int.mul_nonneg (h.2 p (by simp)).1 (e2 x (by simp)).1)
  have k2 := low_low (c := v) (d := 16) (Int.mul_pos (h.2 q (by simp)).2.2.1 p0) (by decide) (Int.mul_nonneg (h.2 q (by simp)).1 (e2 y (by simp)).1)
  have k3 := low_low (c := w) (d := 16) (Int.mul_pos (h.2 r (by simp)).2.2.1 p0) (by decide) (Int.mul_nonneg (h.2 r (by simp)).1 (e2 z (by simp)).1)
  simp only [mulL, letL, letF, List.zip_cons_cons, List.zip_nil_right, List.map_cons, List.map_nil, k1, k2, k3, List.length_append, List.length_singleton, Int.pow_succ, Int.mul_assoc]
theorem meetF_comm (p q : Int × Int) : meetF p q = meetF q p := by
  unfold meetF
  rw [Int.add_comm, Int.mul_comm p.2 q.2]
theorem meetL_comm : ∀ a b : List (Int × Int), meetL a b = meetL b a
  | [], [] => rfl
  | [], _ :: _ => rfl
  | _ :: _, [] => rfl
  | p :: a, q :: b => by
    show meetF p q :: meetL a b = meetF q p :: meetL b a
    rw [meetF_comm, meetL_comm a b]
theorem meet_low {a b c d : Int} (hb : 0 < b) (hd : 0 < d) (ha : 0 ≤ a) (hc : 0 ≤ c) : meetF (low a b) (low c d) = low (a * d + c * b) (b * d) := by
  have q1 := low_pos ha hb
  have q2 := low_pos hc hd
  refine low_eq (Int.mul_pos q1.2.2.1 q2.2.2.1) (Int.mul_pos hb hd) ?_
  have e1 := low_cross (a := a) (b := b)
  have e2 := low_cross (a := c) (b := d)
  generalize (low a b).1 = s at *
  generalize (low a b).2 = t at *
  generalize (low c d).1 = u at *
  generalize (low c d).2 = v at *
  grind
theorem thr_meets1 {B : Int} {p q : Int × Int} (hp : Fr B p) (hq : Fr B q) {x P : Int} (hx : 0 ≤ x) (hP : 0 < P) :
    low ((meetF p q).1 * x) ((meetF p q).2 * P) = meetF (low (p.1 * x) (p.2 * P)) (low (q.1 * x) (q.2 * P)) := by
  unfold Fr at hp hq
  obtain ⟨a, b⟩ := p
  obtain ⟨c, d⟩ := q
  simp only at hp hq
  have h1 : 0 ≤ a * d + c * b := Int.add_nonneg (Int.mul_nonneg hp.1 (by omega)) (Int.mul_nonneg hq.1 (by omega))
  have h2 := Int.mul_pos hp.2.2.1 hq.2.2.1
  rw [meet_low (Int.mul_pos hp.2.2.1 hP) (Int.mul_pos hq.2.2.1 hP) (Int.mul_nonneg hp.1 hx) (Int.mul_nonneg hq.1 hx)]
  unfold meetF
  rw [low_low h2 hP h1]
  refine low_eq (Int.mul_pos h2 hP) (Int.mul_pos (Int.mul_pos hp.2.2.1 hP) (Int.mul_pos hq.2.2.1 hP)) ?_
  grind
theorem thr_meets {B : Int} {a b : List (Int × Int)} (ha : Lt B a) (hb : Lt B b) {r : List (List Int)} (hr : ∀ c ∈ r, Cl c) : thrL (meetL a b) r = meetL (thrL a r) (thrL b r) := by
  obtain ⟨e1, e2⟩ := prodL_ok r hr
  obtain ⟨x, y, z, e⟩ := three e1
  rw [e] at e2
  unfold thrL
  rw [e]
  obtain ⟨p, q, s, rfl⟩ := three ha.1
  obtain ⟨t, u, v, rfl⟩ := three hb.1
  have p0 : (0 : Int) < 16 ^ r.length := Int.pow_pos (by decide)
  have k1 := thr_meets1 (ha.2 p (by simp)) (hb.2 t (by simp)) (e2 x (by simp)).1 p0
  have k2 := thr_meets1 (ha.2 q (by simp)) (hb.2 u (by simp)) (e2 y (by simp)).1 p0
  have k3 := thr_meets1 (ha.2 s (by simp)) (hb.2 v (by simp)) (e2 z (by simp)).1 p0
  simp only [meetL, List.zip_cons_cons, List.zip_nil_right, List.map_cons, List.map_nil, k1, k2, k3]
def whole3 : List (Int × Int) := [(1, 1), (1, 1), (1, 1)]
theorem whole3_lt : Lt B2 whole3 := ⟨rfl, fun p hp => by
  simp only [whole3, List.mem_cons, List.not_mem_nil, or_false, or_self] at hp
  subst hp
  exact ⟨by decide +kernel, by decide +kernel, by decide +kernel, by decide +kernel, by decide +kernel⟩⟩
theorem same1 {x y : Int} {n m : Nat} : x * 16 ^ (m - n) = y * 16 ^ (n - m) ↔ low (1 * x) (1 * 16 ^ n) = low (1 * y) (1 * 16 ^ m) := by
  have pn : (0 : Int) < 16 ^ n := Int.pow_pos (by decide)
  have pm : (0 : Int) < 16 ^ m := Int.pow_pos (by decide)
  simp only [Int.one_mul]
  rw [low_eq_iff pn pm]
  by_cases h : n ≤ m
  · obtain ⟨k, rfl⟩ := Nat.exists_eq_add_of_le h
    rw [show n + k - n = k by omega, show n - (n + k) = 0 by omega, Int.pow_zero, Int.mul_one, Int.pow_add]
    constructor
    · rintro rfl; grind
    · intro h2
      have : 16 ^ n * (x * 16 ^ k) = 16 ^ n * y := by grind
      exact Int.eq_of_mul_eq_mul_left (by omega) this
  · obtain ⟨k, rfl⟩ := Nat.exists_eq_add_of_le (show m ≤ n by omega)
    rw [show m + k - m = k by omega, show m - (m + k) = 0 by omega, Int.pow_zero, Int.mul_one, Int.pow_add]
    constructor
    · rintro rfl; grind
    · intro h2
      have : 16 ^ m * x = 16 ^ m * (y * 16 ^ k) := by grind
      exact Int.eq_of_mul_eq_mul_left (by omega) this
theorem same_row {a b : List (List Int)} (ha : ∀ c ∈ a, Cl c) (hb : ∀ c ∈ b, Cl c) : sameB a b = decide (rowL whole3 a = rowL whole3 b) := by
  rw [← thr_row whole3_lt a ha, ← thr_row whole3_lt b hb]
  unfold sameB
  refine decide_eq_decide.mpr ?_
  obtain ⟨x, y, z, e1⟩ := three (prodL_ok a ha).1
  obtain ⟨u, v, w, e2⟩ := three (prodL_ok b hb).1
  unfold thrL scaleL whole3
  rw [e1, e2]
  simp only [List.zip_cons_cons, List.zip_nil_right, List.map_cons, List.map_nil, List.cons.injEq, and_true]
  rw [same1, same1, same1]

/-! sorted(set(..)) of colours -/
def insL (x : List Int) : List (List Int) → List (List Int)
  | [] => [x]
  | y :: ys => if ltC y x then y :: insL x ys else x :: y :: ys
def sortL : List (List Int) → List (List Int)
  | [] => []
  | x :: xs => insL x (sortL xs)
theorem insD_tup (x : List Int) : ∀ ys : List (List Int), insD (tupI x) (ys.map tupI) = (insL x ys).map tupI
  | [] => rfl
  | y :: ys => by
    rw [List.map_cons, insD, insL, insD_tup x ys]
    show (if ltC y x = true then _ else _) = _
    cases ltC y x <;> rfl
theorem insSort_tup : ∀ xs : List (List Int), insSort (xs.map tupI) = (sortL xs).map tupI
  | [] => rfl
  | x :: xs => by rw [List.map_cons, insSort, insSort_tup xs, insD_tup, sortL]
theorem insL_perm (x : List Int) : ∀ ys : List (List Int), (insL x ys).Perm (x :: ys)
  | [] => .refl _
  | y :: ys => by
    rw [insL]
    split
    · exact ((insL_perm x ys).cons y).trans (.swap ..)
    · exact .refl _
theorem sortL_perm : ∀ xs : List (List Int), (sortL xs).Perm xs
  | [] => .refl _
  | x :: xs => (insL_perm x _).trans ((sortL_perm xs).cons x)
theorem asc_of : ∀ s : List (List Int), s.Nodup → s.Pairwise (fun a b => ltC b a = false) → ascB s = true
  | [], _, _ => rfl
  | [_], _, _ => rfl
  | a :: b :: t, hn, hp => by
    have ih := asc_of (b :: t) (List.nodup_cons.mp hn).2 (List.pairwise_cons.mp hp).2
    have h1 : ltC b a = false := (List.pairwise_cons.mp hp).1 b (by simp)
    have h2 : a ≠ b := fun e => (List.nodup_cons.mp hn).1 (by rw [e]; simp)
    have h3 : ltC a b = true := by
      cases q : ltC a b with
      | true => rfl
      | false => exact absurd (tupI_inj (lt_antisymm (alike_tupI a b) q h1)) h2
    show (ltC a b && ascB (b :: t)) = true
    rw [h3, ih]; rfl
def stockL (ks : List (List Int)) : List (List Int) := sortL (dedupL ks)
theorem dedupL_len : ∀ ks : List (List Int), (dedupL ks).length ≤ ks.length
  | [] => Nat.le_refl _
  | k :: ks => by
    have := dedupL_len ks
    rw [dedupL]
    split <;> simp only [List.length_cons] <;> omega
theorem stockL_ok {ks : List (List Int)} (h : ∀ k ∈ ks, Cl k) : (∀ c ∈ stockL ks, Cl c) ∧ (stockL ks).length ≤ ks.length ∧ ascB (stockL ks) = true := by
  have pm := sortL_perm (dedupL ks)
  refine ⟨fun c hc => h c (mem_dedupL.mp (pm.mem_iff.mp hc)), by unfold stockL; rw [pm.length_eq]; exact dedupL_len ks, asc_of _ ((pm.nodup_iff).mpr (nodup_dedupL ks)) ?_⟩
  have := insSort_sorted ((dedupL ks).map tupI)
  rw [insSort_tup, List.pairwise_map] at this
  refine this.imp fun {a b} hab => ?_
  unfold leB at hab
  show PySem.W.dataLt (tupI b) (tupI a) = false
  simpa using hab
theorem tupsD_map : ∀ ks : List (List Int), tupsD (ks.map eC) = some ks
  | [] => rfl
  | k :: ks => by
    have : intsD (k.map .int) = some k := by
      induction k with
      | nil => rfl
      | cons a k ih => rw [List.map_cons, intsD, ih]
    rw [List.map_cons, eC, tupsD, this, tupsD_map ks]
theorem ssetD_cl {ks : List (List Int)} (h : ∀ k ∈ ks, Cl k) (hl : ks.length < 64) : ssetD (ks.map eC) = some ((stockL ks).map eC) := by
  have e : ∀ k ∈ ks, k.length = (ks.headD []).length := fun k hk => by
    cases ks with
    | nil => cases hk
    | cons a t => rw [(h k hk).1]; exact (h a (by simp)).1.symm
  unfold ssetD
  rw [tupsD_map]
  have hc : (ks.all fun k => decide (1 ≤ k.length ∧ k.length = (ks.headD []).length) && k.all fun n => decide (0 ≤ n)) = true := by
    rw [List.all_eq_true]
    intro k hk
    rw [Bool.and_eq_true, decide_eq_true_eq, List.all_eq_true]
    refine ⟨⟨by rw [(h k hk).1]; decide, e k hk⟩, fun n hn => decide_eq_true ((h k hk).2 n hn).1⟩
  simp only
  rw [if_pos ⟨hl, hc⟩]
  exact congrArg some (insSort_tup (dedupL ks))
theorem eqD_eL (a b : List (Int × Int)) : eqD (eL a) (eL b) = some (decide (a = b)) := by
  have := eqD_enc (α := Tu (Int × Int)) ⟨a⟩ ⟨b⟩ (by decide)
  rw [show eqD (eL a) (eL b) = eqD (Enc.enc (Tu.mk a)) (Enc.enc (Tu.mk b)) from rfl, this]
  congr 1
  exact decide_eq_decide.mpr ⟨fun h => by injection h, fun h => by rw [h]⟩
theorem eR_enc (a : List (List Int)) : eR a = Enc.enc (Tu.mk (a.map Tu.mk)) := by
  show PyData.tuple _ = PyData.tuple _
  rw [List.map_map]
  rfl
theorem eqD_eR (a b : List (List Int)) : eqD (eR a) (eR b) = some (decide (a = b)) := by
  have := eqD_enc (α := Tu (Tu Int)) ⟨a.map Tu.mk⟩ ⟨b.map Tu.mk⟩ (by decide)
  rw [eR_enc, eR_enc, this]
  congr 1
  exact decide_eq_decide.mpr ⟨fun h => by
    injection h with h
    exact (List.map_inj_right (fun a b e => by injection e)).mp h, fun h => by rw [h]⟩
theorem eqD_bself (b : Bool) : eqD (.bool b) (.bool b) = some true := by cases b <;> rfl
def somes (cs row : List (List Int)) : List (List (List Int)) := [cs, cs.reverse, row, row ++ [[16, 16, 16]], [[1, 1, 1], [16, 16, 16]]]
def rowsT (cs : List (List Int)) : List (List (List Int)) := [cs, cs.take 1, [], cs.take 1 ++ [[16, 16, 16]], [[4, 4, 4], [4, 4, 4]]]
theorem kc16 : Cl [16, 16, 16] := ⟨rfl, by decide⟩
theorem kc1 : Cl [1, 1, 1] := ⟨rfl, by decide⟩
theorem kc4 : Cl [4, 4, 4] := ⟨rfl, by decide⟩
theorem app_cl {a b : List (List Int)} (ha : ∀ c ∈ a, Cl c) (hb : ∀ c ∈ b, Cl c) : ∀ c ∈ a ++ b, Cl c := fun c hc => by
  rcases List.mem_append.mp hc with h | h
  · exact ha c h
  · exact hb c h
theorem one_cl {k : List Int} (h : Cl k) : ∀ c ∈ [k], Cl c := fun c hc => by rw [List.mem_singleton.mp hc]; exact h
theorem two_cl {k m : List Int} (h : Cl k) (h2 : Cl m) : ∀ c ∈ [k, m], Cl c := fun c hc => by
  rcases List.mem_cons.mp hc with rfl | hc
  · exact h
  · rw [List.mem_singleton.mp hc]; exact h2
theorem somes_ok {cs row : List (List Int)} (h1 : ∀ c ∈ cs, Cl c) (l1 : cs.length ≤ 4) (h2 : ∀ c ∈ row, Cl c) (l2 : row.length ≤ 5) : ∀ s ∈ somes cs row, (∀ c ∈ s, Cl c) ∧ s.length ≤ 6 := by
  intro s hs
  simp only [somes, List.mem_cons, List.not_mem_nil, or_false] at hs
  rcases hs with rfl | rfl | rfl | rfl | rfl
  · exact ⟨h1, by omega⟩
  · exact ⟨fun c hc => h1 c (by simpa using hc), by rw [List.length_reverse]; omega⟩
  · exact ⟨h2, by omega⟩
  · exact ⟨app_cl h2 (one_cl kc16), by rw [List.length_append, List.length_singleton]; omega⟩
  · exact ⟨two_cl kc1 kc16, by decide⟩
theorem rowsT_ok {cs : List (List Int)} (h1 : ∀ c ∈ cs, Cl c) (l1 : cs.length ≤ 4) : ∀ s ∈ rowsT cs, (∀ c ∈ s, Cl c) ∧ s.length ≤ 5 := by
  intro s hs
  have lt := List.length_take_le 1 cs
  simp only [rowsT, List.mem_cons, List.not_mem_nil, or_false] at hs
  rcases hs with rfl | rfl | rfl | rfl | rfl
  · exact ⟨h1, by omega⟩
  · exact ⟨fun c hc => h1 c (List.mem_of_mem_take hc), by omega⟩
  · exact ⟨fun _ z => (nomatch z), by decide⟩
  · exact ⟨app_cl (fun c hc => h1 c (List.mem_of_mem_take hc)) (one_cl kc16), by rw [List.length_append, List.length_singleton]; omega⟩
  · exact ⟨two_cl kc4 kc4, by decide⟩
theorem loop_same (l : Nat) (cs row : List (List Int)) (h1 : ∀ c ∈ cs, Cl c) (l1 : cs.length ≤ 4) (h2 : ∀ c ∈ row, Cl c) (l2 : row.length ≤ 5) (o0 o1 o3 o4 o7 o8 o10 : Option O) (j9 : Option PyData) :
    ∃ j, ex (base.ge (l + 7)) f_law_0 [o0, o1, some (.d (eR cs)), o3, o4, some (.d (eL whole3)), some (.d (eR row)), o7, o8, jd j9, o10, none] = .nx [o0, o1, some (.d (eR cs)), o3, o4, some (.d (eL whole3)), some (.d (eR row)), o7, o8, jd j, o10, none] := by
  unfold f_law_0
  rw [s_for']
  have e : evI (base.ge (l + 7)) true (.seq (.tup (.cons (.var 2) (.cons (.rev (.var 2)) (.cons (.var 6) (.cons (.bin .Add (.var 6) (.tup (.cons (.tup (.cons (.int 16) (.cons (.int 16) (.cons (.int 16) .nil)))) .nil))) (.cons (.tup (.cons (.tup (.cons (.int 1) (.cons (.int 1) (.cons (.int 1) .nil)))) (.cons (.tup (.cons (.int 16) (.cons (.int 16) (.cons (.int 16) .nil)))) .nil))) .nil))))))) [o0, o1, some (.d (eR cs)), o3, o4, some (.d (eL whole3)), some (.d (eR row)), o7, o8, jd j9, o10, none] = .ok ((somes cs row).map eR) [o0, o1, some (.d (eR cs)), o3, o4, some (.d (eL whole3)), some (.d (eR row)), o7, o8, jd j9, o10, none] := by
    unfold eR; walk_at "ev"
    simp [somes, eR, eC]
  rw [e, Out.then_ok]
  have k := fLoop_ind (tg := .var 9) (b := ex (base.ge (l + 7)) (.seq (.ife (.cmp .NotEq (.call 16 (.cons (.var 6) (.cons (.var 9) .nil))) (.cmp .Eq (.call 23 (.cons (.var 5) (.cons (.var 6) .nil))) (.call 23 (.cons (.var 5) (.cons (.var 9) .nil))))) (.seq (.ret (.bl false)) .nil) .nil) .nil)) eR (somes cs row) (fun _ ro => ∃ j, ro = [o0, o1, some (.d (eR cs)), o3, o4, some (.d (eL whole3)), some (.d (eR row)), o7, o8, jd j, o10, none]) ?_ (somes cs row) [] _ rfl ⟨j9, rfl⟩
  · obtain ⟨ro', k1, j, rfl⟩ := k
    exact ⟨j, k1⟩
  · rintro pre s post ro hro ⟨j, rfl⟩
    obtain ⟨h3, l3⟩ := somes_ok h1 l1 h2 l2 s (by rw [hro]; simp)
    have e1 := sp_same_colours (l + 2) row s h2 h3 (by omega) l3
    have e2 := sp_rowlaw (l + 4) whole3 row whole3_lt h2 (by omega)
    have e3 := sp_rowlaw (l + 4) whole3 s whole3_lt h3 (by omega)
    rw [same_row h2 h3] at e1
    refine ⟨_, _, rfl, .inl ?_, some (eR s), rfl⟩
    simp only [asgT_var, List.set_cons_succ, List.set_cons_zero]
    walk_at "ev"
    simp only [e1]; walk_at "ev"
    simp only [e2]; walk_at "ev"
    simp only [e3]; walk_at "ev"
    simp only [eqD_eL]; walk_at "ev"
    simp only [eqD_bself]; walk_at "ev"
    rfl

theorem due_comp (l : Nat) (row s : List (List Int)) (hs : ∀ c ∈ s, Cl c) (ls : s.length ≤ 8) (h2 : ∀ c ∈ row, Cl c) (l2 : row.length ≤ 5) (o0 o1 o2 o3 o7 o8 o10 : Option O) (j9 : Option PyData) :
    ev (base.ge (l + 7)) e_law_0 [o0, o1, o2, o3, some (.d (eR s)), some (.d (eL whole3)), some (.d (eR row)), o7, o8, jd j9, o10, none] = .ok (.tm (ol (((lawRows s 5).filter fun x => sameB x row).map eR))) [o0, o1, o2, o3, some (.d (eR s)), some (.d (eL whole3)), some (.d (eR row)), o7, o8, jd j9, o10, none] := by
  have hl := lawRows_len s ls 5 (Nat.le_refl _)
  refine ev_filt eR (lawRows s 5) (fun x => sameB x row) eR ?_ (by cases j9 <;> rfl) rfl (by omega) fun x hx => ?_
  · have e := sp_rowslaw (l + 6) s ls
    walk_at "ev"
    simp only [e]; walk_at "ev"
  · obtain ⟨k, hk, hx2⟩ := List.mem_flatMap.mp hx
    obtain ⟨q1, q2⟩ := lvl_rows s k x hx2
    have hk := List.mem_range.mp hk
    have hxc : ∀ c ∈ x, Cl c := fun c hc => hs c (q2 c hc)
    have e2 := sp_rowlaw (l + 4) whole3 row whole3_lt h2 (by omega)
    have e3 := sp_rowlaw (l + 4) whole3 x whole3_lt hxc (by omega)
    rw [same_row hxc h2]
    walk_at "ev"
    simp only [e3]; walk_at "ev"
    simp only [e2]; walk_at "ev"
    simp only [eqD_eL]; walk_at "ev"
theorem loop_rows (l : Nat) (cs s : List (List Int)) (h1 : ∀ c ∈ cs, Cl c) (l1 : cs.length ≤ 4) (hs : ∀ c ∈ s, Cl c) (ls : s.length ≤ 8) (asc : ascB s = true) (o0 o1 o3 o7 o8 : Option O) :
    ∃ j6 j9 o10, ex (base.ge (l + 7)) f_law_1 [o0, o1, some (.d (eR cs)), o3, some (.d (eR s)), some (.d (eL whole3)), none, o7, o8, none, none, none] = .nx [o0, o1, some (.d (eR cs)), o3, some (.d (eR s)), some (.d (eL whole3)), jd j6, o7, o8, jd j9, o10, none] := by
  unfold f_law_1
  rw [s_for']
  have e : evI (base.ge (l + 7)) true (.seq (.tup (.cons (.var 2) (.cons (.slc (.var 2) .nil (.cons (.int 1) .nil)) (.cons (.tup .nil) (.cons (.bin .Add (.slc (.var 2) .nil (.cons (.int 1) .nil)) (.tup (.cons (.tup (.cons (.int 16) (.cons (.int 16) (.cons (.int 16) .nil)))) .nil))) (.cons (.bin .Mult (.tup (.cons (.tup (.cons (.int 4) (.cons (.int 4) (.cons (.int 4) .nil)))) .nil)) (.int 2)) .nil))))))) [o0, o1, some (.d (eR cs)), o3, some (.d (eR s)), some (.d (eL whole3)), none, o7, o8, none, none, none] = .ok ((rowsT cs).map eR) [o0, o1, some (.d (eR cs)), o3, some (.d (eR s)), some (.d (eL whole3)), none, o7, o8, none, none, none] := by
    have := List.length_take_le 1 (cs.map eC)
    unfold eR; walk_at "ev"
    simp [rowsT, eR, eC]
  rw [e, Out.then_ok]
  have k := fLoop_ind (tg := .var 6) (b := ex (base.ge (l + 7)) (.seq f_law_0 (.seq (.setc 10 e_law_0) (.seq (.ife (.cmp .NotEq (.call 17 (.cons (.var 6) (.cons (.var 4) .nil))) (.ifx (.cmp .Gt (.prim .len (.cons (.var 10) .nil)) (.int 0)) (.idx (.var 10) (.int 0)) .non)) (.seq (.ret (.bl false)) .nil) .nil) .nil)))) eR (rowsT cs) (fun _ ro => ∃ j6 j9 o10, ro = [o0, o1, some (.d (eR cs)), o3, some (.d (eR s)), some (.d (eL whole3)), jd j6, o7, o8, jd j9, o10, none]) ?_ (rowsT cs) [] _ rfl ⟨none, none, none, rfl⟩
  · obtain ⟨ro', k1, j6, j9, o10, rfl⟩ := k
    exact ⟨j6, j9, o10, k1⟩
  · rintro pre row post ro hro ⟨j6, j9, o10, rfl⟩
    obtain ⟨h2, l2⟩ := rowsT_ok h1 l1 row (by rw [hro]; simp)
    obtain ⟨j, e1⟩ := loop_same l cs row h1 l1 h2 l2 o0 o1 o3 (some (.d (eR s))) o7 o8 o10 j9
    have e2 := due_comp l row s hs ls h2 l2 o0 o1 (some (.d (eR cs))) o3 o7 o8 o10 j
    have e3 := sp_least_row (l + 2) row s h2 hs (by omega) ls asc
    have hf : findRow s row = ((lawRows s 5).filter fun x => sameB x row).head? := by
      rw [List.head?_filter]; rfl
    generalize hF : ((lawRows s 5).filter fun x => sameB x row) = F at *
    refine ⟨_, [o0, o1, some (.d (eR cs)), o3, some (.d (eR s)), some (.d (eL whole3)), some (.d (eR row)), o7, o8, jd j, some (ol (F.map eR)), none], rfl, .inl ?_, some (eR row), j, _, rfl⟩
    simp only [asgT_var, List.set_cons_succ, List.set_cons_zero]
    walk_at "ev"
    simp only [e1]; walk_at "ev"
    simp only [e2]; walk_at "ev"
    simp only [e3]; walk_at "ev"
    cases F with
    | nil =>
      simp only [hf]; walk_at "evd"
      rfl
    | cons x F =>
      have z : (0 : Int) < ((x :: F).length : Int) := by simp only [List.length_cons]; omega
      simp only [hf]; walk_at "evd"
      simp only [List.head?_cons, rowD, eqD_eR]; walk_at "ev"

theorem meetL_lt {a b : List (Int × Int)} (ha : Lt 1000000000 a) (hb : Lt 1000000000 b) : Lt B2 (meetL a b) := by
  refine ⟨by unfold meetL; rw [List.length_map, List.length_zip, ha.1, hb.1]; decide, fun p hp => ?_⟩
  obtain ⟨⟨⟨x, y⟩, ⟨u, v⟩⟩, hq, rfl⟩ := List.mem_map.mp hp
  have m1 := ha.2 _ (List.of_mem_zip hq).1
  have m2 := hb.2 _ (List.of_mem_zip hq).2
  unfold Fr at m1 m2
  simp only at m1 m2
  have b : ∀ s t : Int, 0 ≤ s → s < 1000000000 → 0 ≤ t → t < 1000000000 → 0 ≤ s * t ∧ s * t ≤ 1000000000 * 1000000000 := fun s t k1 k2 k3 k4 => ⟨Int.mul_nonneg k1 k3, Int.mul_le_mul (by omega) (by omega) k3 (by decide)⟩
  have n1 := b x v (by omega) (by omega) (by omega) (by omega)
  have n2 := b u y (by omega) (by omega) (by omega) (by omega)
  have n3 := b y v (by omega) (by omega) (by omega) (by omega)
  have n4 := Int.mul_pos m1.2.2.1 m2.2.2.1
  have kk : (1000000000 * 1000000000 + 1000000000 * 1000000000 : Int) < B2 := by decide +kernel
  show Fr B2 (low (x * v + u * y) (y * v))
  exact low_fr (by omega) n4 (by omega) (by omega)
theorem thrL_lt {a : List (Int × Int)} (ha : Lt 20 a) {r : List (List Int)} (hr : ∀ c ∈ r, Cl c) (hl : r.length ≤ 6) : Lt 1000000000 (thrL a r) := by
  rw [thr_row ha r hr]
  refine (rowL_lt ha r hr).mono ?_
  have := pow_le hl
  exact Int.le_trans (Int.mul_le_mul_of_nonneg_left this (by decide)) (by decide +kernel)
def colsL (ds : List Int) (a n : Nat) : List (List Int) := (List.range n).map fun k => colourOf (ix ds (a + k))
theorem colsL_cl (ds : List Int) (a n : Nat) : ∀ c ∈ colsL ds a n, Cl c := fun c hc => by
  obtain ⟨k, _, rfl⟩ := List.mem_map.mp hc
  exact colourOf_cl _
theorem cols2 (l : Nat) (ds : List Int) (n : Nat) (hd : ds.length = 40) (hn : n ≤ 4) (e : (1 + ix ds 20 % 4) = (n : Int)) (o0 o2 o3 o4 o5 o6 o7 o8 o9 o10 : Option O) (x : O) (hx : isL x (ds.map .int)) :
    ev (base.ge (l + 7)) e_law_2 [o0, some x, o2, o3, o4, o5, o6, o7, o8, o9, o10, none] = .ok (.tm (ol ((colsL ds 12 n).map eC))) [o0, some x, o2, o3, o4, o5, o6, o7, o8, o9, o10, none] := by
  unfold colsL
  rw [List.map_map]
  have hF := hx.flat
  have h20 : (ds.map PyData.int)[20]? = some (.int (ix ds 20)) := ix_get (by omega)
  refine ev_map (fun (k : Nat) => PyData.int (k : Int)) (List.range n) _ ?_ rfl rfl (by rw [List.length_range]; omega) fun k hk => ?_
  · have i20 : ixD (ds.map PyData.int).length 20 = some 20 := by rw [List.length_map, hd]; decide
    walk_at "ev"
    simp only [hF]; walk_at "ev"
    simp only [h20]; walk_at "ev"
    rw [rangeD_nat n _ e]
  · have hk := List.mem_range.mp hk
    have e1 : (ds.map PyData.int)[(12 + (k : Int)).toNat]? = some (.int (ix ds (12 + k))) := by
      rw [show (12 + (k : Int)).toNat = 12 + k by omega]; exact ix_get (by omega)
    walk_at "ev"
    simp only [hF]; walk_at "ev"
    simp only [e1]; walk_at "ev"
    rfl
theorem cols1 (l : Nat) (ds : List Int) (n : Nat) (hd : ds.length = 40) (hn : n ≤ 4) (e : ix ds 29 % 5 = (n : Int)) (o0 o2 o3 o4 o5 o6 o7 o8 o9 o10 : Option O) (x : O) (hx : isL x (ds.map .int)) :
    ev (base.ge (l + 7)) e_law_1 [o0, some x, o2, o3, o4, o5, o6, o7, o8, o9, o10, none] = .ok (.tm (ol ((colsL ds 21 n).map eC))) [o0, some x, o2, o3, o4, o5, o6, o7, o8, o9, o10, none] := by
  unfold colsL
  rw [List.map_map]
  have hF := hx.flat
  have h29 : (ds.map PyData.int)[29]? = some (.int (ix ds 29)) := ix_get (by omega)
  refine ev_map (fun (k : Nat) => PyData.int (k : Int)) (List.range n) _ ?_ rfl rfl (by rw [List.length_range]; omega) fun k hk => ?_
  · walk_at "ev"
    simp only [hF]; walk_at "ev"
    simp only [h29]; walk_at "ev"
    rw [rangeD_nat n _ e]
  · have hk := List.mem_range.mp hk
    have e1 : (ds.map PyData.int)[(21 + (k : Int)).toNat]? = some (.int (ix ds (21 + k))) := by
      rw [show (21 + (k : Int)).toNat = 21 + k by omega]; exact ix_get (by omega)
    walk_at "ev"
    simp only [hF]; walk_at "ev"
    simp only [e1]; walk_at "ev"
    rfl
theorem fin1 : findRow [] [] = some [] := by decide +kernel
theorem fin2 : findRow [[8, 8, 8]] [[4, 4, 4]] = some [[8, 8, 8], [8, 8, 8]] := by decide +kernel

theorem sp_law (l : Nat) (ns : List Int) : callN base (l + 8) 28 [.scr ns] = .ok (.d (.bool true)) [] := by
  obtain ⟨ds, hd, hD, e0⟩ := sp_draws (l + 6) ns 40 (by decide)
  obtain ⟨n, en⟩ : ∃ n : Nat, (1 + ix ds 20 % 4) = (n : Int) := ⟨(1 + ix ds 20 % 4).toNat, by omega⟩
  obtain ⟨m, em⟩ : ∃ m : Nat, ix ds 29 % 5 = (m : Int) := ⟨(ix ds 29 % 5).toNat, by omega⟩
  have hn : 1 ≤ n ∧ n ≤ 4 := by omega
  have hm : m ≤ 4 := by omega
  have L1 := sp_light (l + 5) ds (.d (.list (ds.map .int))) (.inl rfl) (by omega)
  have L2 := sp_light (l + 5) (ds.drop 6) (.d (.list ((ds.map .int).drop 6))) (.inl (by rw [List.map_drop])) (by rw [List.length_drop]; omega)
  have hA := lightOf_lt ds
  have hB := lightOf_lt (ds.drop 6)
  generalize hEA : lightOf ds = A at *
  generalize hEB : lightOf (ds.drop 6) = B at *
  have C2 := fun o2 o7 o8 => cols2 l ds n hd hn.2 en (some (.scr ns)) o2 none none none none o7 o8 none none (.d (.list (ds.map .int))) (.inl rfl)
  have C1 := fun o2 o3 o7 o8 => cols1 l ds m hd hm em (some (.scr ns)) o2 o3 none none none o7 o8 none none (.d (.list (ds.map .int))) (.inl rfl)
  have hcs := colsL_cl ds 12 n
  have hlc : (colsL ds 12 n).length = n := by unfold colsL; rw [List.length_map, List.length_range]
  obtain ⟨c0, ct, hc0⟩ : ∃ c0 ct, colsL ds 12 n = c0 :: ct := by
    cases h : colsL ds 12 n with
    | nil => rw [h] at hlc; simp at hlc; omega
    | cons a t => exact ⟨a, t, rfl⟩
  have hks : ∀ c ∈ colsL ds 21 m ++ (colsL ds 12 n).take (ix ds 30 % 3).toNat, Cl c := app_cl (colsL_cl ds 21 m) fun c hc => hcs c (List.mem_of_mem_take hc)
  have hl1 : (colsL ds 21 m).length = m := by unfold colsL; rw [List.length_map, List.length_range]
  have hkl : (colsL ds 21 m ++ (colsL ds 12 n).take (ix ds 30 % 3).toNat).length ≤ 6 := by
    rw [List.length_append, List.length_take]; omega
  obtain ⟨s1, s2, s3⟩ := stockL_ok hks
  have s4 := ssetD_cl hks (by omega)
  generalize hEC : colsL ds 12 n = C at *
  generalize hEK : colsL ds 21 m = K at *
  have e0 : callN base (l + 7) 18 [.scr ns, .d (.int 40)] = .ok (ol (ds.map .int)) [] := e0
  have i0 : idxD (eR C) (.int 0) = some (eC c0) := by rw [hc0]; unfold eR; walk_at "ev"
  have i1 : (List.map eC C)[0]? = some (eC c0) := by rw [hc0]; rfl
  have h30 : (ds.map PyData.int)[30]? = some (.int (ix ds 30)) := ix_get (by omega)
  have hsl : sliceO (.d (eR C)) none (some (ix ds 30 % 3)) = some (.d (.tuple ((C.take (ix ds 30 % 3).toNat).map eC))) := by
    unfold eR
    rw [slice_t, sliceD_to _ _ (by omega), List.map_take]
  have hadd : (K.map eC ++ (C.take (ix ds 30 % 3).toNat).map eC) = (K ++ C.take (ix ds 30 % 3).toNat).map eC := by rw [List.map_append]
  have htk := List.length_take_le (ix ds 30 % 3).toNat C
  obtain ⟨j6, j9, o10, g1⟩ := loop_rows l C _ hcs (by omega) s1 (by omega) s3 (some (.scr ns)) (some (.d (.list (ds.map .int)))) (some (.d (eL (meetL A B)))) (some (.d (eL A))) (some (.d (eL B)))
  have hfold : ∀ r, PyData.tuple (List.map eC r) = eR r := fun _ => rfl
  have c0c : Cl c0 := hcs c0 (by rw [hc0]; simp)
  have a20 : Lt B1 A := hA.mono (by decide +kernel)
  have a2 : Lt B2 A := hA.mono (by decide +kernel)
  have b2 : Lt B2 B := hB.mono (by decide +kernel)
  have t1 : callN base (l + 7) 13 [.d (eL A), .d (.tuple [])] = .ok (.d (eL A)) [] := by
    have := sp_through (l + 2) A [] a2 (fun _ z => (nomatch z)) (by decide)
    rw [thrL_nil a2] at this
    exact this
  have t2 : callN base (l + 7) 17 [.d (.tuple []), .d (.tuple [])] = .ok (.d (.tuple [])) [] := by
    have := sp_least_row (l + 2) [] [] (fun _ z => (nomatch z)) (fun _ z => (nomatch z)) (by decide) (by decide) rfl
    rw [fin1] at this
    exact this
  have t3 : callN base (l + 7) 17 [.d (.tuple [.tuple [.int 4, .int 4, .int 4]]), .d (.tuple [.tuple [.int 8, .int 8, .int 8]])] = .ok (.d (eR [[8, 8, 8], [8, 8, 8]])) [] := by
    have := sp_least_row (l + 2) [[4, 4, 4]] [[8, 8, 8]] (one_cl kc4) (one_cl ⟨rfl, by decide⟩) (by decide) (by decide) rfl
    rw [fin2] at this
    exact this
  have t4 := sp_refuses l A c0 hA c0c
  have eN : eqD (.tuple []) (.tuple []) = some true := by decide +kernel
  have e88 : eqD (eR [[8, 8, 8], [8, 8, 8]]) (.tuple [.tuple [.int 8, .int 8, .int 8], .tuple [.int 8, .int 8, .int 8]]) = some true := by decide +kernel
  have q1 := sp_lets (l + 3) A c0 a20 c0c
  have q2 := sp_letslaw (l + 5) A c0 (hA.mono (by decide +kernel)) c0c
  have q3 := sp_through (l + 2) A C a2 hcs (by omega)
  have q4 := sp_rowlaw (l + 4) A C a2 hcs (by omega)
  rw [← thr_row a2 C hcs] at q4
  have q5 := sp_through (l + 2) A C.reverse a2 (fun c hc => hcs c (by simpa using hc)) (by rw [List.length_reverse]; omega)
  rw [thrL_rev] at q5
  have hrv : revO (eR C) = some (.d (eR C.reverse)) := by unfold eR; rw [revO_t, List.map_reverse]
  have r1 := sp_meets (l + 3) A B a2 b2
  have r2 := sp_meetslaw (l + 5) A B (hA.mono (by decide +kernel)) (hB.mono (by decide +kernel))
  have r3 := sp_meets (l + 3) B A b2 a2
  rw [meetL_comm] at r3
  have hM : Lt B2 (meetL A B) := meetL_lt (hA.mono (by decide)) (hB.mono (by decide))
  have r4 := sp_through (l + 2) (meetL A B) C hM hcs (by omega)
  have r5 := sp_through (l + 2) B C b2 hcs (by omega)
  have r6 := sp_meets (l + 3) (thrL A C) (thrL B C) ((thrL_lt hA hcs (by omega)).mono (by decide +kernel)) ((thrL_lt hB hcs (by omega)).mono (by decide +kernel))
  rw [← thr_meets hA hB hcs] at r6
  rw [callN_eq t_law rfl]
  unfold r28 b28
  walk_at "ev"
  simp only [e0]; walk_at "ev"
  simp only [L1]; walk_at "ev"
  simp only [L2]; walk_at "ev"
  simp only [C2]; walk_at "ev"
  simp only [hfold]
  simp only [i1]; walk_at "ev"
  simp only [q1]; walk_at "ev"
  simp only [i0]; walk_at "ev"
  simp only [q2]; walk_at "ev"
  simp only [eqD_eL]; walk_at "ev"
  simp only [q3]; walk_at "ev"
  simp only [q4]; walk_at "ev"
  simp only [eqD_eL]; walk_at "ev"
  simp only [hrv]; walk_at "ev"
  simp only [q5]; walk_at "ev"
  simp only [q3]; walk_at "ev"
  simp only [eqD_eL]; walk_at "ev"

  simp only [r1]; walk_at "ev"
  simp only [r2]; walk_at "ev"
  simp only [eqD_eL]; walk_at "ev"
  simp only [r3]; walk_at "ev"
  simp only [eqD_eL]; walk_at "ev"
  simp only [r4]; walk_at "ev"
  simp only [q3]; walk_at "ev"
  simp only [r5]; walk_at "ev"
  simp only [r6]; walk_at "ev"
  simp only [eqD_eL]; walk_at "ev"
  simp only [C1]; walk_at "ev"
  simp only [h30]; walk_at "ev"
  simp only [hsl]; walk_at "ev"
  simp only [hadd, s4]; walk_at "ev"
  simp only [hfold]
  have hW : PyData.tuple [.tuple [.int 1, .int 1], .tuple [.int 1, .int 1], .tuple [.int 1, .int 1]] = eL whole3 := rfl
  simp only [hW]
  simp only [g1]; walk_at "ev"
  simp only [t1]; walk_at "ev"
  simp only [eqD_eL]; walk_at "ev"
  simp only [t2]; walk_at "ev"
  simp only [eN]; walk_at "ev"
  simp only [t3]; walk_at "ev"
  simp only [e88]; walk_at "ev"
  simp only [i0]; walk_at "ev"
  simp only [t4]; walk_at "ev"
theorem plain : ∀ ns : List Int, ns.length ≤ 63 → ∃ back, callN base 41 28 [.scr ns] = .ok (.d (.bool true)) back := fun ns _ => ⟨_, sp_law 33 ns⟩

end Lw.T
open PySem PySem.W PyProof.Rows Lw L2
set_option maxRecDepth 100000 in
set_option maxHeartbeats 0 in
theorem PySem.Challenge.cw_leadwright_k70_whole_lights_holds : PySem.Challenge.rw_leadwright_k70_whole_lights.Holds := by
  w_on; o_law; k_head; (case hw => w_witness2)
  k_fill
  refine Lw.law_walk (l := PySem.Challenge.rw_leadwright_k70_whole_lights) (n := 40 + 1) rfl rfl ⟨rfl, by decide, by decide⟩ (fun w h Y => PySem.W.kIn_of Y) ?F
  case F =>
    intro w mg fa h KX G hmg
    refine' Lw.cut_def (fns := Lw.T.fns) (blt := Lw.T.blt) (gls := Lw.T.gls) (exs := Lw.T.exs) (B := Lw.T.base) (i := 0) (name := "is_whole") (st := Lw.T.top 8) (ps := ["value", "least", "most"]) (N := Lw.T.N0) (r := Lw.T.r0) KX G ?a_1 ?l_1 ?c_1 ?k_1 Lw.T.s0 rfl rfl rfl Lw.T.c0 (fun _ _ _ _ _ _ us hl => match us, hl with | [_, _, _], _ => rfl) ?next_1
    (case a_1 => k_is); (case l_1 => k_is); (case c_1 => k_is); (case k_1 => k_is)
    intro D0
    refine' Lw.cut_def (fns := Lw.T.fns) (blt := Lw.T.blt) (gls := Lw.T.gls) (exs := Lw.T.exs) (B := Lw.T.base) (i := 1) (name := "ascends") (st := Lw.T.top 9) (ps := ["values"]) (N := Lw.T.N1) (r := Lw.T.r1) KX G ?a_2 ?l_2 ?c_2 ?k_2 Lw.T.s1 rfl rfl rfl Lw.T.c1 (fun _ _ _ _ _ _ us hl => match us, hl with | [_], _ => rfl) ?next_2
    (case a_2 => k_is); (case l_2 => k_is); (case c_2 => k_is); (case k_2 => k_is)
    intro D1
    refine' Lw.cut_def (fns := Lw.T.fns) (blt := Lw.T.blt) (gls := Lw.T.gls) (exs := Lw.T.exs) (B := Lw.T.base) (i := 2) (name := "divisor") (st := Lw.T.top 11) (ps := ["one", "other"]) (N := Lw.T.N2) (r := Lw.T.r2) KX G ?a_3 ?l_3 ?c_3 ?k_3 Lw.T.s2 rfl rfl rfl Lw.T.c2 (fun _ _ _ _ _ _ us hl => match us, hl with | [_, _], _ => rfl) ?next_3
    (case a_3 => k_is); (case l_3 => k_is); (case c_3 => k_is); (case k_3 => k_is)
    intro D2
    refine' Lw.cut_def (fns := Lw.T.fns) (blt := Lw.T.blt) (gls := Lw.T.gls) (exs := Lw.T.exs) (B := Lw.T.base) (i := 3) (name := "is_colour") (st := Lw.T.top 19) (ps := ["value"]) (N := Lw.T.N3) (r := Lw.T.r3) KX G ?a_4 ?l_4 ?c_4 ?k_4 Lw.T.s3 rfl rfl rfl Lw.T.c3 (fun _ _ _ _ _ _ us hl => match us, hl with | [_], _ => rfl) ?next_4
    (case a_4 => k_is); (case l_4 => k_is); (case c_4 => k_is); (case k_4 => k_is)
    intro D3
    refine' Lw.cut_def (fns := Lw.T.fns) (blt := Lw.T.blt) (gls := Lw.T.gls) (exs := Lw.T.exs) (B := Lw.T.base) (i := 4) (name := "_is_fraction") (st := Lw.T.top 20) (ps := ["value"]) (N := Lw.T.N4) (r := Lw.T.r4) KX G ?a_5 ?l_5 ?c_5 ?k_5 Lw.T.s4 rfl rfl rfl Lw.T.c4 (fun _ _ _ _ _ _ us hl => match us, hl with | [_], _ => rfl) ?next_5
    (case a_5 => k_is); (case l_5 => k_is); (case c_5 => k_is); (case k_5 => k_is)
    intro D4
    refine' Lw.cut_def (fns := Lw.T.fns) (blt := Lw.T.blt) (gls := Lw.T.gls) (exs := Lw.T.exs) (B := Lw.T.base) (i := 5) (name := "_check_light") (st := Lw.T.top 21) (ps := ["light"]) (N := Lw.T.N5) (r := Lw.T.r5) KX G ?a_6 ?l_6 ?c_6 ?k_6 Lw.T.s5 rfl rfl rfl Lw.T.c5 (fun _ _ _ _ _ _ us hl => match us, hl with | [_], _ => rfl) ?next_6
    (case a_6 => k_is); (case l_6 => k_is); (case c_6 => k_is); (case k_6 => k_is)
    intro D5
    refine' Lw.cut_def (fns := Lw.T.fns) (blt := Lw.T.blt) (gls := Lw.T.gls) (exs := Lw.T.exs) (B := Lw.T.base) (i := 6) (name := "check_colour") (st := Lw.T.top 22) (ps := ["colour"]) (N := Lw.T.N6) (r := Lw.T.r6) KX G ?a_7 ?l_7 ?c_7 ?k_7 Lw.T.s6 rfl rfl rfl Lw.T.c6 (fun _ _ _ _ _ _ us hl => match us, hl with | [_], _ => rfl) ?next_7
    (case a_7 => k_is); (case l_7 => k_is); (case c_7 => k_is); (case k_7 => k_is)
    intro D6
    refine' Lw.cut_def (fns := Lw.T.fns) (blt := Lw.T.blt) (gls := Lw.T.gls) (exs := Lw.T.exs) (B := Lw.T.base) (i := 7) (name := "_are_colours") (st := Lw.T.top 23) (ps := ["value", "most"]) (N := Lw.T.N7) (r := Lw.T.r7) KX G ?a_8 ?l_8 ?c_8 ?k_8 Lw.T.s7 rfl rfl rfl Lw.T.c7 (fun _ _ _ _ _ _ us hl => match us, hl with | [_, _], _ => rfl) ?next_8
    (case a_8 => k_is); (case l_8 => k_is); (case c_8 => k_is); (case k_8 => k_is)
    intro D7
    refine' Lw.cut_def (fns := Lw.T.fns) (blt := Lw.T.blt) (gls := Lw.T.gls) (exs := Lw.T.exs) (B := Lw.T.base) (i := 8) (name := "_check_colours") (st := Lw.T.top 24) (ps := ["colours"]) (N := Lw.T.N8) (r := Lw.T.r8) KX G ?a_9 ?l_9 ?c_9 ?k_9 Lw.T.s8 rfl rfl rfl Lw.T.c8 (fun _ _ _ _ _ _ us hl => match us, hl with | [_], _ => rfl) ?next_9
    (case a_9 => k_is); (case l_9 => k_is); (case c_9 => k_is); (case k_9 => k_is)
    intro D8
    refine' Lw.cut_def (fns := Lw.T.fns) (blt := Lw.T.blt) (gls := Lw.T.gls) (exs := Lw.T.exs) (B := Lw.T.base) (i := 9) (name := "_lowest") (st := Lw.T.top 25) (ps := ["up", "down"]) (N := Lw.T.N9) (r := Lw.T.r9) KX G ?a_10 ?l_10 ?c_10 ?k_10 Lw.T.s9 rfl rfl rfl Lw.T.c9 (fun _ _ _ _ _ _ us hl => match us, hl with | [_, _], _ => rfl) ?next_10
    (case a_10 => k_is); (case l_10 => k_is); (case c_10 => k_is); (case k_10 => k_is)
    intro D9
    refine' Lw.cut_def (fns := Lw.T.fns) (blt := Lw.T.blt) (gls := Lw.T.gls) (exs := Lw.T.exs) (B := Lw.T.base) (i := 10) (name := "_lets") (st := Lw.T.top 26) (ps := ["light", "colour"]) (N := Lw.T.N10) (r := Lw.T.r10) KX G ?a_11 ?l_11 ?c_11 ?k_11 Lw.T.s10 rfl rfl rfl Lw.T.c10 (fun _ _ _ _ _ _ us hl => match us, hl with | [_, _], _ => rfl) ?next_11
    (case a_11 => k_is); (case l_11 => k_is); (case c_11 => k_is); (case k_11 => k_is)
    intro D10
    refine' Lw.cut_def (fns := Lw.T.fns) (blt := Lw.T.blt) (gls := Lw.T.gls) (exs := Lw.T.exs) (B := Lw.T.base) (i := 11) (name := "lets") (st := Lw.T.top 27) (ps := ["light", "colour"]) (N := Lw.T.N11) (r := Lw.T.r11) KX G ?a_12 ?l_12 ?c_12 ?k_12 Lw.T.s11 rfl rfl rfl Lw.T.c11 (fun _ _ _ _ _ _ us hl => match us, hl with | [_, _], _ => rfl) ?next_12
    (case a_12 => k_is); (case l_12 => k_is); (case c_12 => k_is); (case k_12 => k_is)
    intro D11
    refine' Lw.cut_def (fns := Lw.T.fns) (blt := Lw.T.blt) (gls := Lw.T.gls) (exs := Lw.T.exs) (B := Lw.T.base) (i := 12) (name := "_product") (st := Lw.T.top 28) (ps := ["colours"]) (N := Lw.T.N12) (r := Lw.T.r12) KX G ?a_13 ?l_13 ?c_13 ?k_13 Lw.T.s12 rfl rfl rfl Lw.T.c12 (fun _ _ _ _ _ _ us hl => match us, hl with | [_], _ => rfl) ?next_13
    (case a_13 => k_is); (case l_13 => k_is); (case c_13 => k_is); (case k_13 => k_is)
    intro D12
    refine' Lw.cut_def (fns := Lw.T.fns) (blt := Lw.T.blt) (gls := Lw.T.gls) (exs := Lw.T.exs) (B := Lw.T.base) (i := 13) (name := "through") (st := Lw.T.top 29) (ps := ["light", "colours"]) (N := Lw.T.N13) (r := Lw.T.r13) KX G ?a_14 ?l_14 ?c_14 ?k_14 Lw.T.s13 rfl rfl rfl Lw.T.c13 (fun _ _ _ _ _ _ us hl => match us, hl with | [_, _], _ => rfl) ?next_14
    (case a_14 => k_is); (case l_14 => k_is); (case c_14 => k_is); (case k_14 => k_is)
    intro D13
    refine' Lw.cut_def (fns := Lw.T.fns) (blt := Lw.T.blt) (gls := Lw.T.gls) (exs := Lw.T.exs) (B := Lw.T.base) (i := 14) (name := "meets") (st := Lw.T.top 30) (ps := ["light", "other"]) (N := Lw.T.N14) (r := Lw.T.r14) KX G ?a_15 ?l_15 ?c_15 ?k_15 Lw.T.s14 rfl rfl rfl Lw.T.c14 (fun _ _ _ _ _ _ us hl => match us, hl with | [_, _], _ => rfl) ?next_15
    (case a_15 => k_is); (case l_15 => k_is); (case c_15 => k_is); (case k_15 => k_is)
    intro D14
    refine' Lw.cut_def (fns := Lw.T.fns) (blt := Lw.T.blt) (gls := Lw.T.gls) (exs := Lw.T.exs) (B := Lw.T.base) (i := 15) (name := "_same") (st := Lw.T.top 31) (ps := ["colours", "other"]) (N := Lw.T.N15) (r := Lw.T.r15) KX G ?a_16 ?l_16 ?c_16 ?k_16 Lw.T.s15 rfl rfl rfl Lw.T.c15 (fun _ _ _ _ _ _ us hl => match us, hl with | [_, _], _ => rfl) ?next_16
    (case a_16 => k_is); (case l_16 => k_is); (case c_16 => k_is); (case k_16 => k_is)
    intro D15
    refine' Lw.cut_def (fns := Lw.T.fns) (blt := Lw.T.blt) (gls := Lw.T.gls) (exs := Lw.T.exs) (B := Lw.T.base) (i := 16) (name := "same_colours") (st := Lw.T.top 32) (ps := ["colours", "other"]) (N := Lw.T.N16) (r := Lw.T.r16) KX G ?a_17 ?l_17 ?c_17 ?k_17 Lw.T.s16 rfl rfl rfl Lw.T.c16 (fun _ _ _ _ _ _ us hl => match us, hl with | [_, _], _ => rfl) ?next_17
    (case a_17 => k_is); (case l_17 => k_is); (case c_17 => k_is); (case k_17 => k_is)
    intro D16
    refine' Lw.cut_def (fns := Lw.T.fns) (blt := Lw.T.blt) (gls := Lw.T.gls) (exs := Lw.T.exs) (B := Lw.T.base) (i := 17) (name := "least_row") (st := Lw.T.top 33) (ps := ["colours", "stock"]) (N := Lw.T.N17) (r := Lw.T.r17) KX G ?a_18 ?l_18 ?c_18 ?k_18 Lw.T.s17 rfl rfl rfl Lw.T.c17 (fun _ _ _ _ _ _ us hl => match us, hl with | [_, _], _ => rfl) ?next_18
    (case a_18 => k_is); (case l_18 => k_is); (case c_18 => k_is); (case k_18 => k_is)
    intro D17
    refine' Lw.cut_def (fns := Lw.T.fns) (blt := Lw.T.blt) (gls := Lw.T.gls) (exs := Lw.T.exs) (B := Lw.T.base) (i := 18) (name := "_law_draws") (st := Lw.T.top 35) (ps := ["script", "many"]) (N := Lw.T.N18) (r := Lw.T.r18) KX G ?a_19 ?l_19 ?c_19 ?k_19 Lw.T.s18 rfl rfl rfl Lw.T.c18 (fun _ _ _ _ _ _ us hl => match us, hl with | [_, _], _ => rfl) ?next_19
    (case a_19 => k_is); (case l_19 => k_is); (case c_19 => k_is); (case k_19 => k_is)
    intro D18
    refine' Lw.cut_def (fns := Lw.T.fns) (blt := Lw.T.blt) (gls := Lw.T.gls) (exs := Lw.T.exs) (B := Lw.T.base) (i := 19) (name := "_law_lowest") (st := Lw.T.top 36) (ps := ["up", "down"]) (N := Lw.T.N19) (r := Lw.T.r19) KX G ?a_20 ?l_20 ?c_20 ?k_20 Lw.T.s19 rfl rfl rfl Lw.T.c19 (fun _ _ _ _ _ _ us hl => match us, hl with | [_, _], _ => rfl) ?next_20
    (case a_20 => k_is); (case l_20 => k_is); (case c_20 => k_is); (case k_20 => k_is)
    intro D19
    refine' Lw.cut_def (fns := Lw.T.fns) (blt := Lw.T.blt) (gls := Lw.T.gls) (exs := Lw.T.exs) (B := Lw.T.base) (i := 20) (name := "_law_light") (st := Lw.T.top 37) (ps := ["draws"]) (N := Lw.T.N20) (r := Lw.T.r20) KX G ?a_21 ?l_21 ?c_21 ?k_21 Lw.T.s20 rfl rfl rfl Lw.T.c20 (fun _ _ _ _ _ _ us hl => match us, hl with | [_], _ => rfl) ?next_21
    (case a_21 => k_is); (case l_21 => k_is); (case c_21 => k_is); (case k_21 => k_is)
    intro D20
    refine' Lw.cut_def (fns := Lw.T.fns) (blt := Lw.T.blt) (gls := Lw.T.gls) (exs := Lw.T.exs) (B := Lw.T.base) (i := 21) (name := "_law_colour") (st := Lw.T.top 38) (ps := ["number"]) (N := Lw.T.N21) (r := Lw.T.r21) KX G ?a_22 ?l_22 ?c_22 ?k_22 Lw.T.s21 rfl rfl rfl Lw.T.c21 (fun _ _ _ _ _ _ us hl => match us, hl with | [_], _ => rfl) ?next_22
    (case a_22 => k_is); (case l_22 => k_is); (case c_22 => k_is); (case k_22 => k_is)
    intro D21
    refine' Lw.cut_def (fns := Lw.T.fns) (blt := Lw.T.blt) (gls := Lw.T.gls) (exs := Lw.T.exs) (B := Lw.T.base) (i := 22) (name := "_law_lets") (st := Lw.T.top 39) (ps := ["light", "colour"]) (N := Lw.T.N22) (r := Lw.T.r22) KX G ?a_23 ?l_23 ?c_23 ?k_23 Lw.T.s22 rfl rfl rfl Lw.T.c22 (fun _ _ _ _ _ _ us hl => match us, hl with | [_, _], _ => rfl) ?next_23
    (case a_23 => k_is); (case l_23 => k_is); (case c_23 => k_is); (case k_23 => k_is)
    intro D22
    refine' Lw.cut_def (fns := Lw.T.fns) (blt := Lw.T.blt) (gls := Lw.T.gls) (exs := Lw.T.exs) (B := Lw.T.base) (i := 23) (name := "_law_row") (st := Lw.T.top 40) (ps := ["light", "colours"]) (N := Lw.T.N23) (r := Lw.T.r23) KX G ?a_24 ?l_24 ?c_24 ?k_24 Lw.T.s23 rfl rfl rfl Lw.T.c23 (fun _ _ _ _ _ _ us hl => match us, hl with | [_, _], _ => rfl) ?next_24
    (case a_24 => k_is); (case l_24 => k_is); (case c_24 => k_is); (case k_24 => k_is)
    intro D23
    refine' Lw.cut_def (fns := Lw.T.fns) (blt := Lw.T.blt) (gls := Lw.T.gls) (exs := Lw.T.exs) (B := Lw.T.base) (i := 24) (name := "_law_meets") (st := Lw.T.top 41) (ps := ["one", "two"]) (N := Lw.T.N24) (r := Lw.T.r24) KX G ?a_25 ?l_25 ?c_25 ?k_25 Lw.T.s24 rfl rfl rfl Lw.T.c24 (fun _ _ _ _ _ _ us hl => match us, hl with | [_, _], _ => rfl) ?next_25
    (case a_25 => k_is); (case l_25 => k_is); (case c_25 => k_is); (case k_25 => k_is)
    intro D24
    refine' Lw.cut_def (fns := Lw.T.fns) (blt := Lw.T.blt) (gls := Lw.T.gls) (exs := Lw.T.exs) (B := Lw.T.base) (i := 25) (name := "_law_rows") (st := Lw.T.top 42) (ps := ["stock"]) (N := Lw.T.N25) (r := Lw.T.r25) KX G ?a_26 ?l_26 ?c_26 ?k_26 Lw.T.s25 rfl rfl rfl Lw.T.c25 (fun _ _ _ _ _ _ us hl => match us, hl with | [_], _ => rfl) ?next_26
    (case a_26 => k_is); (case l_26 => k_is); (case c_26 => k_is); (case k_26 => k_is)
    intro D25
    refine' Lw.cut_def (fns := Lw.T.fns) (blt := Lw.T.blt) (gls := Lw.T.gls) (exs := Lw.T.exs) (B := Lw.T.base) (i := 26) (name := "_law_error") (st := Lw.T.top 43) (ps := ["call", "one", "two"]) (N := Lw.T.N26) (r := Lw.T.r26) KX G ?a_27 ?l_27 ?c_27 ?k_27 Lw.T.s26 rfl rfl rfl Lw.T.c26 (fun _ _ _ _ _ _ us hl => match us, hl with | [_, _, _], _ => rfl) ?next_27
    (case a_27 => k_is); (case l_27 => k_is); (case c_27 => k_is); (case k_27 => k_is)
    intro D26
    refine' Lw.cut_def (fns := Lw.T.fns) (blt := Lw.T.blt) (gls := Lw.T.gls) (exs := Lw.T.exs) (B := Lw.T.base) (i := 27) (name := "_law_refuses") (st := Lw.T.top 44) (ps := ["light", "colour"]) (N := Lw.T.N27) (r := Lw.T.r27) KX G ?a_28 ?l_28 ?c_28 ?k_28 Lw.T.s27 rfl rfl rfl Lw.T.c27 (fun _ _ _ _ _ _ us hl => match us, hl with | [_, _], _ => rfl) ?next_28
    (case a_28 => k_is); (case l_28 => k_is); (case c_28 => k_is); (case k_28 => k_is)
    intro D27
    refine' Lw.cut_def (fns := Lw.T.fns) (blt := Lw.T.blt) (gls := Lw.T.gls) (exs := Lw.T.exs) (B := Lw.T.base) (i := 28) (name := "law") (st := Lw.T.top 45) (ps := ["script"]) (N := Lw.T.N28) (r := Lw.T.r28) KX G ?a_29 ?l_29 ?c_29 ?k_29 Lw.T.s28 rfl rfl rfl Lw.T.c28 (fun _ _ _ _ _ _ us hl => match us, hl with | [_], _ => rfl) ?next_29
    (case a_29 => k_is); (case l_29 => k_is); (case c_29 => k_is); (case k_29 => k_is)
    intro D28
    refine' Lw.cut_none (x := "abs") KX G ?a_30 ?next_30
    (case a_30 => k_is)
    intro z_abs
    refine' Lw.cut_none (x := "all") KX G ?a_31 ?next_31
    (case a_31 => k_is)
    intro z_all
    refine' Lw.cut_none (x := "bool") KX G ?a_32 ?next_32
    (case a_32 => k_is)
    intro z_bool
    refine' Lw.cut_none (x := "int") KX G ?a_33 ?next_33
    (case a_33 => k_is)
    intro z_int
    refine' Lw.cut_none (x := "isinstance") KX G ?a_34 ?next_34
    (case a_34 => k_is)
    intro z_isinstance
    refine' Lw.cut_none (x := "len") KX G ?a_35 ?next_35
    (case a_35 => k_is)
    intro z_len
    refine' Lw.cut_none (x := "list") KX G ?a_36 ?next_36
    (case a_36 => k_is)
    intro z_list
    refine' Lw.cut_none (x := "max") KX G ?a_37 ?next_37
    (case a_37 => k_is)
    intro z_max
    refine' Lw.cut_none (x := "range") KX G ?a_38 ?next_38
    (case a_38 => k_is)
    intro z_range
    refine' Lw.cut_none (x := "set") KX G ?a_39 ?next_39
    (case a_39 => k_is)
    intro z_set
    refine' Lw.cut_none (x := "sorted") KX G ?a_40 ?next_40
    (case a_40 => k_is)
    intro z_sorted
    refine' Lw.cut_none (x := "tuple") KX G ?a_41 ?next_41
    (case a_41 => k_is)
    intro z_tuple
    refine' Lw.cut_none (x := "zip") KX G ?a_42 ?next_42
    (case a_42 => k_is)
    intro z_zip
    refine' Lw.cut_int (B := Lw.T.base) (x := "KINDS") (n := 3) KX G ?a_43 Lw.T.gl_KINDS ?next_43
    (case a_43 => k_is)
    intro g_KINDS
    refine' Lw.cut_int (B := Lw.T.base) (x := "MOST_LEAST") (n := 4) KX G ?a_44 Lw.T.gl_MOST_LEAST ?next_44
    (case a_44 => k_is)
    intro g_MOST_LEAST
    refine' Lw.cut_int (B := Lw.T.base) (x := "MOST_NUMBER") (n := 1000000000000000000000000000000000000000000000000000000000000) KX G ?a_45 Lw.T.gl_MOST_NUMBER ?next_45
    (case a_45 => k_is)
    intro g_MOST_NUMBER
    refine' Lw.cut_int (B := Lw.T.base) (x := "MOST_ROW") (n := 20) KX G ?a_46 Lw.T.gl_MOST_ROW ?next_46
    (case a_46 => k_is)
    intro g_MOST_ROW
    refine' Lw.cut_int (B := Lw.T.base) (x := "MOST_STOCK") (n := 8) KX G ?a_47 Lw.T.gl_MOST_STOCK ?next_47
    (case a_47 => k_is)
    intro g_MOST_STOCK
    refine' Lw.cut_int (B := Lw.T.base) (x := "PARTS") (n := 16) KX G ?a_48 Lw.T.gl_PARTS ?next_48
    (case a_48 => k_is)
    intro g_PARTS
    refine' Lw.cut_exc (x := "BadColour") KX G F.excBase_ValueError ?a_49 ?e_49 ?k_49 ?s_49 ?t_49 ?next_49
    (case a_49 => k_is); (case e_49 => k_exc); (case k_49 => k_is); (case s_49 => k_is); (case t_49 => k_is)
    intro C_BadColour m_BadColour x_BadColour
    refine' Lw.cut_exc (x := "BadColours") KX G F.excBase_ValueError ?a_50 ?e_50 ?k_50 ?s_50 ?t_50 ?next_50
    (case a_50 => k_is); (case e_50 => k_exc); (case k_50 => k_is); (case s_50 => k_is); (case t_50 => k_is)
    intro C_BadColours m_BadColours x_BadColours
    refine' Lw.cut_exc (x := "BadLight") KX G F.excBase_ValueError ?a_51 ?e_51 ?k_51 ?s_51 ?t_51 ?next_51
    (case a_51 => k_is); (case e_51 => k_exc); (case k_51 => k_is); (case s_51 => k_is); (case t_51 => k_is)
    intro C_BadLight m_BadLight x_BadLight
    refine' Lw.cut_exc (x := "BadStock") KX G F.excBase_ValueError ?a_52 ?e_52 ?k_52 ?s_52 ?t_52 ?next_52
    (case a_52 => k_is); (case e_52 => k_exc); (case k_52 => k_is); (case s_52 => k_is); (case t_52 => k_is)
    intro C_BadStock m_BadStock x_BadStock
    refine' Lw.cut_exc (x := "TooGreat") KX G F.excBase_ValueError ?a_53 ?e_53 ?k_53 ?s_53 ?t_53 ?next_53
    (case a_53 => k_is); (case e_53 => k_exc); (case k_53 => k_is); (case s_53 => k_is); (case t_53 => k_is)
    intro C_TooGreat m_TooGreat x_TooGreat
    refine' Lw.cut_exm (x := "BadColour") (y := "BadColour") (b := true) KX G ?a_54 ?c_54 ?s_54 ?k_54 ?t_54 ?e_54 ?next_54
    (case a_54 => k_is); (case c_54 => k_is); (case s_54 => k_is); (case k_54 => k_is); (case t_54 => k_is); (case e_54 => first | rfl | k_is)
    intro e_BadColour_BadColour
    refine' Lw.cut_exm (x := "BadColour") (y := "BadColours") (b := false) KX G ?a_55 ?c_55 ?s_55 ?k_55 ?t_55 ?e_55 ?next_55
    (case a_55 => k_is); (case c_55 => k_is); (case s_55 => k_is); (case k_55 => k_is); (case t_55 => k_is); (case e_55 => first | rfl | k_is)
    intro e_BadColour_BadColours
    refine' Lw.cut_exm (x := "BadColour") (y := "BadLight") (b := false) KX G ?a_56 ?c_56 ?s_56 ?k_56 ?t_56 ?e_56 ?next_56
    (case a_56 => k_is); (case c_56 => k_is); (case s_56 => k_is); (case k_56 => k_is); (case t_56 => k_is); (case e_56 => first | rfl | k_is)
    intro e_BadColour_BadLight
    refine' Lw.cut_exm (x := "BadColour") (y := "BadStock") (b := false) KX G ?a_57 ?c_57 ?s_57 ?k_57 ?t_57 ?e_57 ?next_57
    (case a_57 => k_is); (case c_57 => k_is); (case s_57 => k_is); (case k_57 => k_is); (case t_57 => k_is); (case e_57 => first | rfl | k_is)
    intro e_BadColour_BadStock
    refine' Lw.cut_exm (x := "BadColour") (y := "TooGreat") (b := false) KX G ?a_58 ?c_58 ?s_58 ?k_58 ?t_58 ?e_58 ?next_58
    (case a_58 => k_is); (case c_58 => k_is); (case s_58 => k_is); (case k_58 => k_is); (case t_58 => k_is); (case e_58 => first | rfl | k_is)
    intro e_BadColour_TooGreat
    refine' Lw.cut_exm (x := "BadColours") (y := "BadColour") (b := false) KX G ?a_59 ?c_59 ?s_59 ?k_59 ?t_59 ?e_59 ?next_59
    (case a_59 => k_is); (case c_59 => k_is); (case s_59 => k_is); (case k_59 => k_is); (case t_59 => k_is); (case e_59 => first | rfl | k_is)
    intro e_BadColours_BadColour
    refine' Lw.cut_exm (x := "BadColours") (y := "BadColours") (b := true) KX G ?a_60 ?c_60 ?s_60 ?k_60 ?t_60 ?e_60 ?next_60
    (case a_60 => k_is); (case c_60 => k_is); (case s_60 => k_is); (case k_60 => k_is); (case t_60 => k_is); (case e_60 => first | rfl | k_is)
    intro e_BadColours_BadColours
    refine' Lw.cut_exm (x := "BadColours") (y := "BadLight") (b := false) KX G ?a_61 ?c_61 ?s_61 ?k_61 ?t_61 ?e_61 ?next_61
    (case a_61 => k_is); (case c_61 => k_is); (case s_61 => k_is); (case k_61 => k_is); (case t_61 => k_is); (case e_61 => first | rfl | k_is)
    intro e_BadColours_BadLight
    refine' Lw.cut_exm (x := "BadColours") (y := "BadStock") (b := false) KX G ?a_62 ?c_62 ?s_62 ?k_62 ?t_62 ?e_62 ?next_62
    (case a_62 => k_is); (case c_62 => k_is); (case s_62 => k_is); (case k_62 => k_is); (case t_62 => k_is); (case e_62 => first | rfl | k_is)
    intro e_BadColours_BadStock
    refine' Lw.cut_exm (x := "BadColours") (y := "TooGreat") (b := false) KX G ?a_63 ?c_63 ?s_63 ?k_63 ?t_63 ?e_63 ?next_63
    (case a_63 => k_is); (case c_63 => k_is); (case s_63 => k_is); (case k_63 => k_is); (case t_63 => k_is); (case e_63 => first | rfl | k_is)
    intro e_BadColours_TooGreat
    refine' Lw.cut_exm (x := "BadLight") (y := "BadColour") (b := false) KX G ?a_64 ?c_64 ?s_64 ?k_64 ?t_64 ?e_64 ?next_64
    (case a_64 => k_is); (case c_64 => k_is); (case s_64 => k_is); (case k_64 => k_is); (case t_64 => k_is); (case e_64 => first | rfl | k_is)
    intro e_BadLight_BadColour
    refine' Lw.cut_exm (x := "BadLight") (y := "BadColours") (b := false) KX G ?a_65 ?c_65 ?s_65 ?k_65 ?t_65 ?e_65 ?next_65
    (case a_65 => k_is); (case c_65 => k_is); (case s_65 => k_is); (case k_65 => k_is); (case t_65 => k_is); (case e_65 => first | rfl | k_is)
    intro e_BadLight_BadColours
    refine' Lw.cut_exm (x := "BadLight") (y := "BadLight") (b := true) KX G ?a_66 ?c_66 ?s_66 ?k_66 ?t_66 ?e_66 ?next_66
    (case a_66 => k_is); (case c_66 => k_is); (case s_66 => k_is); (case k_66 => k_is); (case t_66 => k_is); (case e_66 => first | rfl | k_is)
    intro e_BadLight_BadLight
    refine' Lw.cut_exm (x := "BadLight") (y := "BadStock") (b := false) KX G ?a_67 ?c_67 ?s_67 ?k_67 ?t_67 ?e_67 ?next_67
    (case a_67 => k_is); (case c_67 => k_is); (case s_67 => k_is); (case k_67 => k_is); (case t_67 => k_is); (case e_67 => first | rfl | k_is)
    intro e_BadLight_BadStock
    refine' Lw.cut_exm (x := "BadLight") (y := "TooGreat") (b := false) KX G ?a_68 ?c_68 ?s_68 ?k_68 ?t_68 ?e_68 ?next_68
    (case a_68 => k_is); (case c_68 => k_is); (case s_68 => k_is); (case k_68 => k_is); (case t_68 => k_is); (case e_68 => first | rfl | k_is)
    intro e_BadLight_TooGreat
    refine' Lw.cut_exm (x := "BadStock") (y := "BadColour") (b := false) KX G ?a_69 ?c_69 ?s_69 ?k_69 ?t_69 ?e_69 ?next_69
    (case a_69 => k_is); (case c_69 => k_is); (case s_69 => k_is); (case k_69 => k_is); (case t_69 => k_is); (case e_69 => first | rfl | k_is)
    intro e_BadStock_BadColour
    refine' Lw.cut_exm (x := "BadStock") (y := "BadColours") (b := false) KX G ?a_70 ?c_70 ?s_70 ?k_70 ?t_70 ?e_70 ?next_70
    (case a_70 => k_is); (case c_70 => k_is); (case s_70 => k_is); (case k_70 => k_is); (case t_70 => k_is); (case e_70 => first | rfl | k_is)
    intro e_BadStock_BadColours
    refine' Lw.cut_exm (x := "BadStock") (y := "BadLight") (b := false) KX G ?a_71 ?c_71 ?s_71 ?k_71 ?t_71 ?e_71 ?next_71
    (case a_71 => k_is); (case c_71 => k_is); (case s_71 => k_is); (case k_71 => k_is); (case t_71 => k_is); (case e_71 => first | rfl | k_is)
    intro e_BadStock_BadLight
    refine' Lw.cut_exm (x := "BadStock") (y := "BadStock") (b := true) KX G ?a_72 ?c_72 ?s_72 ?k_72 ?t_72 ?e_72 ?next_72
    (case a_72 => k_is); (case c_72 => k_is); (case s_72 => k_is); (case k_72 => k_is); (case t_72 => k_is); (case e_72 => first | rfl | k_is)
    intro e_BadStock_BadStock
    refine' Lw.cut_exm (x := "BadStock") (y := "TooGreat") (b := false) KX G ?a_73 ?c_73 ?s_73 ?k_73 ?t_73 ?e_73 ?next_73
    (case a_73 => k_is); (case c_73 => k_is); (case s_73 => k_is); (case k_73 => k_is); (case t_73 => k_is); (case e_73 => first | rfl | k_is)
    intro e_BadStock_TooGreat
    refine' Lw.cut_exm (x := "TooGreat") (y := "BadColour") (b := false) KX G ?a_74 ?c_74 ?s_74 ?k_74 ?t_74 ?e_74 ?next_74
    (case a_74 => k_is); (case c_74 => k_is); (case s_74 => k_is); (case k_74 => k_is); (case t_74 => k_is); (case e_74 => first | rfl | k_is)
    intro e_TooGreat_BadColour
    refine' Lw.cut_exm (x := "TooGreat") (y := "BadColours") (b := false) KX G ?a_75 ?c_75 ?s_75 ?k_75 ?t_75 ?e_75 ?next_75
    (case a_75 => k_is); (case c_75 => k_is); (case s_75 => k_is); (case k_75 => k_is); (case t_75 => k_is); (case e_75 => first | rfl | k_is)
    intro e_TooGreat_BadColours
    refine' Lw.cut_exm (x := "TooGreat") (y := "BadLight") (b := false) KX G ?a_76 ?c_76 ?s_76 ?k_76 ?t_76 ?e_76 ?next_76
    (case a_76 => k_is); (case c_76 => k_is); (case s_76 => k_is); (case k_76 => k_is); (case t_76 => k_is); (case e_76 => first | rfl | k_is)
    intro e_TooGreat_BadLight
    refine' Lw.cut_exm (x := "TooGreat") (y := "BadStock") (b := false) KX G ?a_77 ?c_77 ?s_77 ?k_77 ?t_77 ?e_77 ?next_77
    (case a_77 => k_is); (case c_77 => k_is); (case s_77 => k_is); (case k_77 => k_is); (case t_77 => k_is); (case e_77 => first | rfl | k_is)
    intro e_TooGreat_BadStock
    refine' Lw.cut_exm (x := "TooGreat") (y := "TooGreat") (b := true) KX G ?a_78 ?c_78 ?s_78 ?k_78 ?t_78 ?e_78 ?next_78
    (case a_78 => k_is); (case c_78 => k_is); (case s_78 => k_is); (case k_78 => k_is); (case t_78 => k_is); (case e_78 => first | rfl | k_is)
    intro e_TooGreat_TooGreat
    refine' Lw.law_at (n := 40) (i := 28) (B := Lw.T.base) (fns := Lw.T.fns) (blt := Lw.T.blt) (gls := Lw.T.gls) (exs := Lw.T.exs) (st := Lw.T.top 45) (N := Lw.T.N28) (r := Lw.T.r28) KX G hmg ?a_79 ?l_79 ?c_79 ?k_79 Lw.T.s28 rfl rfl rfl Lw.T.c28 (fun _ _ _ _ _ _ _ => rfl) ?hd ?hblt ?hgls ?hexs ?hexm Lw.T.plain
    (case a_79 => k_is); (case l_79 => k_is); (case c_79 => k_is); (case k_79 => k_is)
    case hd =>
      intro i name hi
      rcases i with _ | i
      · cases hi; exact D0
      rcases i with _ | i
      · cases hi; exact D1
      rcases i with _ | i
      · cases hi; exact D2
      rcases i with _ | i
      · cases hi; exact D3
      rcases i with _ | i
      · cases hi; exact D4
      rcases i with _ | i
      · cases hi; exact D5
      rcases i with _ | i
      · cases hi; exact D6
      rcases i with _ | i
      · cases hi; exact D7
      rcases i with _ | i
      · cases hi; exact D8
      rcases i with _ | i
      · cases hi; exact D9
      rcases i with _ | i
      · cases hi; exact D10
      rcases i with _ | i
      · cases hi; exact D11
      rcases i with _ | i
      · cases hi; exact D12
      rcases i with _ | i
      · cases hi; exact D13
      rcases i with _ | i
      · cases hi; exact D14
      rcases i with _ | i
      · cases hi; exact D15
      rcases i with _ | i
      · cases hi; exact D16
      rcases i with _ | i
      · cases hi; exact D17
      rcases i with _ | i
      · cases hi; exact D18
      rcases i with _ | i
      · cases hi; exact D19
      rcases i with _ | i
      · cases hi; exact D20
      rcases i with _ | i
      · cases hi; exact D21
      rcases i with _ | i
      · cases hi; exact D22
      rcases i with _ | i
      · cases hi; exact D23
      rcases i with _ | i
      · cases hi; exact D24
      rcases i with _ | i
      · cases hi; exact D25
      rcases i with _ | i
      · cases hi; exact D26
      rcases i with _ | i
      · cases hi; exact D27
      rcases i with _ | i
      · cases hi; exact D28
      cases hi
    case hblt =>
      intro x hx
      simp only [Lw.T.blt, List.mem_cons, List.not_mem_nil, or_false] at hx
      rcases hx with rfl | rfl | rfl | rfl | rfl | rfl | rfl | rfl | rfl | rfl | rfl | rfl | rfl <;> assumption
    case hgls =>
      intro x hx
      simp only [Lw.T.gls, List.mem_cons, List.not_mem_nil, or_false] at hx
      rcases hx with rfl | rfl | rfl | rfl | rfl | rfl <;> assumption
    case hexs =>
      intro x hx
      simp only [Lw.T.exs, List.mem_cons, List.not_mem_nil, or_false] at hx
      rcases hx with rfl | rfl | rfl | rfl | rfl <;> assumption
    case hexm =>
      intro x y b hb
      obtain ⟨hx, hy, rfl⟩ := Lw.T.exm_of hb
      simp only [Lw.T.exs, List.mem_cons, List.not_mem_nil, or_false] at hx hy
      rcases hx with rfl | rfl | rfl | rfl | rfl <;> rcases hy with rfl | rfl | rfl | rfl | rfl <;> assumption
