import PyProof.Rows.All
import Wide.All
import OpenK.AllK
import Wide.FinOn
import HandS.ForMost
import KE.KeyNested
import KE.KDictKeyed
import KE.SortData
import KE.DataCmp
import KE.DataMinMax
import HandS.TupAny
import HandS.IsInst
import HandS.Deep
import HandS.Wide
import HandS.Conv
import HandS.TupMul
import HandS.Exc
import HandS.ExcOwn
import HandS.TryMany
import HandS.CallSlots
import HandS.WordsExc
import HandS.Comp
import HandS.Zip
import HandS.TupSets
import KE.KDictCopyH
import KE.GoesMore
import KE.GoesZip
import KE.GoesRaise
import HandS.Style
import KE.KRevSl
import KE.KDictDisplayH
import PySem.Challenge.RW_leadwright_k27_whole_bounds_of_sheets
set_option Elab.async false
set_option linter.all false
set_option maxRecDepth 100000
set_option maxHeartbeats 1000000
set_option maxRecDepth 100000
/-! Lw1: owned things over the abstract heap; frozen data lie in a sub-heap F, owned trees beside it. -/
namespace Lw
open PySem L2

/-! ### what a variable holds -/
inductive O where
  | d (x : PyData)
  | lst (os : List O)
  | dct (ks : List PyData) (os : List O)
  | ins (C : Str) (ns : List Str) (os : List O)
  | scr (ns : List Int)

mutual
def O.toD : O → Option PyData
  | .d x => some x
  | .lst os => match O.toDs os with
    | some xs => some (.list xs)
    | none => none
  | .dct _ _ => none
  | .ins _ _ _ => none
  | .scr _ => none
def O.toDs : List O → Option (List PyData)
  | [] => some []
  | o :: os => match O.toD o, O.toDs os with
    | some x, some xs => some (x :: xs)
    | _, _ => none
end
theorem O.toDs_map (xs : List PyData) : O.toDs (xs.map O.d) = some xs := by
  induction xs with
  | nil => rfl
  | cons x xs ih => rw [List.map_cons, O.toDs, ih]; simp [O.toD]
theorem O.toD_lst (xs : List PyData) : O.toD (.lst (xs.map O.d)) = some (.list xs) := by
  rw [O.toD, O.toDs_map]

abbrev AS := Addr → Prop
def keyD : Key → PyData
  | .inl i => .int i
  | .inr x => .str x

/-! ### frozen data -/
def Sub (F H : Hp) : Prop := ∀ a o, F a = some o → H a = some o
theorem Sub.refl (F : Hp) : Sub F F := fun _ _ h => h
theorem Sub.trans {F G H : Hp} (a : Sub F G) (b : Sub G H) : Sub F H := fun x o h => b x o (a x o h)
theorem Sub.rd {F H : Hp} {a : Addr} {u : HO} (e : Sub F H) (h : Rd F a u) : Rd H a u := by
  rcases h with h | ⟨o, h⟩
  · exact .inl (e _ _ h)
  · exact .inr ⟨o, e _ _ h⟩
theorem Sub.sqL {K : PySem.W.Frag} {F H : Hp} {a : Addr} {xs : List V} (e : Sub F H) (h : SqL K F a xs) : SqL K H a xs := by
  rcases h with h | h
  · exact .inl (e.rd h)
  · exact .inr h
theorem Sub.sqT {K : PySem.W.Frag} {F H : Hp} {a : Addr} {xs : List V} (e : Sub F H) (h : SqT K F a xs) : SqT K H a xs := by
  rcases h with h | h
  · exact .inl (e.rd h)
  · exact .inr h
theorem Sub.new {H : Hp} {p : Addr} {o : HO} (h : H p = none) : Sub H (upd H p o) := fun a u e => by
  rw [upd_ne (ne_of_none e h)]; exact e

mutual
/-- data that stand in a heap: lists tracked, tuples tracked or of the written part -/
inductive Dq (K : PySem.W.Frag) (H : Hp) : V → PyData → Prop
  | non : Dq K H .non .none
  | bl (b : Bool) : Dq K H (.bl b) (.bool b)
  | int (i : Int) : Dq K H (.int i) (.int i)
  | str (x : Str) : Dq K H (.str x) (.str x)
  | lst {a : Addr} {xs : List V} {ds : List PyData} : H a = some (.lst xs) → DqAll K H xs ds → Dq K H (.ref a) (.list ds)
  | tup {a : Addr} {xs : List V} {ds : List PyData} : SqT K H a xs → DqAll K H xs ds → Dq K H (.ref a) (.tuple ds)
inductive DqAll (K : PySem.W.Frag) (H : Hp) : List V → List PyData → Prop
  | nil : DqAll K H [] []
  | cons {v : V} {vs : List V} {d : PyData} {ds : List PyData} : Dq K H v d → DqAll K H vs ds → DqAll K H (v :: vs) (d :: ds)
end
section
variable {K : PySem.W.Frag} {F F' H H' : Hp}
mutual
theorem Dq.dp : ∀ (d : PyData) (v : V), Dq K F v d → Dp K F v d
  | .none, _, h => by cases h; exact .non
  | .bool b, _, h => by cases h; exact .bl b
  | .int i, _, h => by cases h; exact .int i
  | .str x, _, h => by cases h; exact .str x
  | .list ds, _, h => by
    cases h with
    | lst hs ha => exact .lst (SqL.of hs) (Dq.dpAll ds _ ha)
  | .tuple ds, _, h => by
    cases h with
    | tup hs ha => exact .tup hs (Dq.dpAll ds _ ha)
  | .dict _, _, h => by cases h
theorem Dq.dpAll : ∀ (ds : List PyData) (vs : List V), DqAll K F vs ds → DpAll K F vs ds
  | [], _, h => by cases h; exact .nil
  | d :: ds, _, h => by
    cases h with
    | cons h1 h2 => exact .cons (Dq.dp d _ h1) (Dq.dpAll ds _ h2)
end
end
section
variable {K : PySem.W.Frag} {F F' H H' : Hp}
mutual
theorem Dq.mono (e : Sub F H) : ∀ (d : PyData) (v : V), Dq K F v d → Dq K H v d
  | .none, _, h => by cases h; exact .non
  | .bool b, _, h => by cases h; exact .bl b
  | .int i, _, h => by cases h; exact .int i
  | .str x, _, h => by cases h; exact .str x
  | .list ds, _, h => by
    cases h with
    | lst hs ha => exact .lst (e _ _ hs) (Dq.monoAll e ds _ ha)
  | .tuple ds, _, h => by
    cases h with
    | tup hs ha => exact .tup (e.sqT hs) (Dq.monoAll e ds _ ha)
  | .dict _, _, h => by cases h
theorem Dq.monoAll (e : Sub F H) : ∀ (ds : List PyData) (vs : List V), DqAll K F vs ds → DqAll K H vs ds
  | [], _, h => by cases h; exact .nil
  | d :: ds, _, h => by
    cases h with
    | cons h1 h2 => exact .cons (Dq.mono e d _ h1) (Dq.monoAll e ds _ h2)
end
theorem DqAll.len : ∀ {vs : List V} {ds : List PyData}, DqAll K F vs ds → vs.length = ds.length
  | _, _, .nil => rfl
  | _, _, .cons _ t => by rw [List.length_cons, List.length_cons, DqAll.len t]
theorem DqAll.get : ∀ {vs : List V} {ds : List PyData} {i : Nat} {v : V}, DqAll K F vs ds → vs[i]? = some v → ∃ d, ds[i]? = some d ∧ Dq K F v d
  | _, _, _, _, .nil, e => by simp at e
  | _, _, 0, _, .cons h _, e => by simp at e; subst e; exact ⟨_, rfl, h⟩
  | _, _, i + 1, v, .cons _ t, e => by
    obtain ⟨d, h1, h2⟩ := DqAll.get (i := i) (v := v) t (by simpa using e)
    exact ⟨d, by simpa using h1, h2⟩
theorem DqAll.getD : ∀ {vs : List V} {ds : List PyData} {i : Nat} {d : PyData}, DqAll K F vs ds → ds[i]? = some d → ∃ v, vs[i]? = some v ∧ Dq K F v d
  | _, _, _, _, .nil, e => by simp at e
  | _, _, 0, _, .cons h _, e => by simp at e; subst e; exact ⟨_, rfl, h⟩
  | _, _, i + 1, d, .cons _ t, e => by
    obtain ⟨v, h1, h2⟩ := DqAll.getD (i := i) (d := d) t (by simpa using e)
    exact ⟨v, by simpa using h1, h2⟩
theorem DqAll.append : ∀ {vs ws : List V} {ds es : List PyData}, DqAll K F vs ds → DqAll K F ws es → DqAll K F (vs ++ ws) (ds ++ es)
  | _, _, _, _, .nil, t => t
  | _, _, _, _, .cons h s, t => .cons h (DqAll.append s t)
theorem DqAll.take : ∀ {vs : List V} {ds : List PyData} (n : Nat), DqAll K F vs ds → DqAll K F (vs.take n) (ds.take n)
  | _, _, 0, _ => .nil
  | _, _, _ + 1, .nil => .nil
  | _, _, n + 1, .cons h t => .cons h (DqAll.take n t)
theorem DqAll.drop : ∀ {vs : List V} {ds : List PyData} (n : Nat), DqAll K F vs ds → DqAll K F (vs.drop n) (ds.drop n)
  | _, _, 0, t => t
  | _, _, _ + 1, .nil => .nil
  | _, _, n + 1, .cons _ t => DqAll.drop n t
theorem DqAll.set : ∀ {vs : List V} {ds : List PyData} (n : Nat) {v : V} {d : PyData}, Dq K F v d → DqAll K F vs ds → DqAll K F (vs.set n v) (ds.set n d)
  | _, _, _, _, _, _, .nil => .nil
  | _, _, 0, _, _, h, .cons _ t => .cons h t
  | _, _, n + 1, _, _, h, .cons q t => .cons q (DqAll.set n h t)
theorem DqAll.rev : ∀ {vs : List V} {ds : List PyData}, DqAll K F vs ds → DqAll K F vs.reverse ds.reverse
  | _, _, .nil => .nil
  | _, _, .cons h t => by
    rw [List.reverse_cons, List.reverse_cons]
    exact (DqAll.rev t).append (.cons h .nil)
theorem DqAll.flat : ∀ {vs : List V} {ds : List PyData} (n : Nat), DqAll K F vs ds → DqAll K F (List.replicate n vs).flatten (List.replicate n ds).flatten
  | _, _, 0, _ => .nil
  | vs, ds, n + 1, t => by
    rw [List.replicate_succ, List.replicate_succ, List.flatten_cons, List.flatten_cons]
    exact t.append (DqAll.flat n t)
end

/-! ### dicts -/
mutual
/-- data as a key -/
def toKey : PyData → Option NestedKey
  | .none => some .none
  | .int i => some (.num i)
  | .str x => some (.text x)
  | .tuple xs => match toKeys xs with
    | some ks => some (.tup ks)
    | none => none
  | _ => none
def toKeys : List PyData → Option (List NestedKey)
  | [] => some []
  | x :: xs => match toKey x, toKeys xs with
    | some k, some ks => some (k :: ks)
    | _, _ => none
end
mutual
theorem toKey_data : ∀ (x : PyData) (k : NestedKey), toKey x = some k → k.data = x
  | .none, k, h => by simp only [toKey] at h; cases h; rfl
  | .int i, k, h => by simp only [toKey] at h; cases h; rfl
  | .str i, k, h => by simp only [toKey] at h; cases h; rfl
  | .bool i, k, h => by simp only [toKey] at h; cases h
  | .list i, k, h => by simp only [toKey] at h; cases h
  | .dict i, k, h => by simp only [toKey] at h; cases h
  | .tuple xs, k, h => by
    simp only [toKey] at h
    cases q : toKeys xs with
    | none => rw [q] at h; cases h
    | some ks =>
      rw [q] at h
      cases h
      show PyData.tuple (NestedKey.datas ks) = _
      rw [toKeys_data xs ks q]
theorem toKeys_data : ∀ (xs : List PyData) (ks : List NestedKey), toKeys xs = some ks → NestedKey.datas ks = xs
  | [], ks, h => by simp only [toKeys] at h; cases h; rfl
  | x :: xs, ks, h => by
    simp only [toKeys] at h
    cases q : toKey x with
    | none => rw [q] at h; cases h
    | some k =>
      cases q2 : toKeys xs with
      | none => rw [q, q2] at h; cases h
      | some ks' =>
        rw [q, q2] at h
        cases h
        show k.data :: NestedKey.datas ks' = _
        rw [toKey_data x k q, toKeys_data xs ks' q2]
end
/-- a tuple as a key -/
def keyT (x : PyData) : Option NestedKey := match toKey x with
  | some (.tup ks) => if (NestedKey.tup ks).depth ≤ 8 then some (.tup ks) else none
  | _ => none
/-- the classes' addresses; the world (texts' hashes) -/
structure ClW where
  f : Str → Option Addr
  w : World
instance : CoeFun ClW fun _ => Str → Option Addr := ⟨ClW.f⟩
abbrev NX := List (NestedKey × Addr × Value)
def entN (w : World) (x : NestedKey × Addr × Value) : DictEntry := ⟨x.1.hash w, .ref x.2.1, x.2.2⟩
/-- a dict whose keys are tuples (of ints, texts, None, such tuples) -/
def dcO (w : World) (d : Addr) (xs : NX) : HO := .ext fun h => ∃ o es ep, h.get? d = some o ∧ o.ExactDict ∧ o.data = .dict es ep ∧ es.toList = xs.map (entN w)
def KeysN (K : PySem.W.Frag) (F : Hp) (xs : NX) : Prop := ∀ x ∈ xs, Dq K F (.ref x.2.1) x.1.data ∧ x.1.depth ≤ 8
theorem KeysN.mono {K : PySem.W.Frag} {F F' : Hp} {xs : NX} (e : Sub F F') (h : KeysN K F xs) : KeysN K F' xs := fun x hx => ⟨Dq.mono e _ _ (h x hx).1, (h x hx).2⟩
/-! ### owned trees -/
mutual
inductive OR (K : PySem.W.Frag) (cl : ClW) (F H : Hp) : O → V → AS → Prop
  | d {v : V} {x : PyData} : Dq K F v x → OR K cl F H (.d x) v (fun _ => False)
  | scr {a : Addr} {ns : List Int} : SqL K F a (ns.map V.int) → OR K cl F H (.scr ns) (.ref a) (fun _ => False)
  | lst {p : Addr} {vs : List V} {os : List O} {A : AS} : H p = some (.lst vs) → ORs K cl F H os vs A → ¬ A p → F p = none → OR K cl F H (.lst os) (.ref p) (fun a => a = p ∨ A a)
  | dct {p : Addr} {xs : NX} {os : List O} {vs : List V} {A : AS} : H p = some (dcO cl.w p xs) → KeysN K F xs ∧ Vals vs (xs.map (·.2.2)) ∧ (xs.map (·.1)).Nodup ∧ xs.length ≤ sizeLine ∧ (p == sysModules) = false → ORs K cl F H os vs A → ¬ A p → F p = none →
      OR K cl F H (.dct (xs.map (·.1.data)) os) (.ref p) (fun a => a = p ∨ A a)
  | ins {p C dx : Addr} {c : Str} {fs : List (Str × V)} {os : List O} {A : AS} : H p = some (.ins C dx fs) → cl c = some C → ORs K cl F H os (fs.map (·.2)) A → ¬ A p → F p = none →
      OR K cl F H (.ins c (fs.map (·.1)) os) (.ref p) (fun a => a = p ∨ A a)
inductive ORs (K : PySem.W.Frag) (cl : ClW) (F H : Hp) : List O → List V → AS → Prop
  | nil : ORs K cl F H [] [] (fun _ => False)
  | cons {o : O} {os : List O} {v : V} {vs : List V} {A B : AS} : OR K cl F H o v A → ORs K cl F H os vs B → (∀ a, A a → B a → False) → ORs K cl F H (o :: os) (v :: vs) (fun a => A a ∨ B a)
end

section
variable {K : PySem.W.Frag} {cl : ClW} {F F' H H' : Hp}
mutual
theorem OR.frame (e : Sub F F') : ∀ {o : O} {v : V} {A : AS}, OR K cl F H o v A → (∀ a, A a → H' a = H a) → (∀ a, A a → F' a = none) → OR K cl F' H' o v A
  | _, _, _, .d h, _, _ => .d (Dq.mono e _ _ h)
  | _, _, _, .scr h, _, _ => .scr (e.sqL h)
  | _, _, _, .lst h t n f, k, g => .lst ((k _ (.inl rfl)).trans h) (ORs.frame e t (fun a q => k a (.inr q)) fun a q => g a (.inr q)) n (g _ (.inl rfl))
  | _, _, _, .dct h c t n f, k, g => .dct ((k _ (.inl rfl)).trans h) ⟨c.1.mono e, c.2⟩ (ORs.frame e t (fun a q => k a (.inr q)) fun a q => g a (.inr q)) n (g _ (.inl rfl))
  | _, _, _, .ins h c t n f, k, g => .ins ((k _ (.inl rfl)).trans h) c (ORs.frame e t (fun a q => k a (.inr q)) fun a q => g a (.inr q)) n (g _ (.inl rfl))
theorem ORs.frame (e : Sub F F') : ∀ {os : List O} {vs : List V} {A : AS}, ORs K cl F H os vs A → (∀ a, A a → H' a = H a) → (∀ a, A a → F' a = none) → ORs K cl F' H' os vs A
  | _, _, _, .nil, _, _ => .nil
  | _, _, _, .cons h t n, k, g => .cons (OR.frame e h (fun a q => k a (.inl q)) fun a q => g a (.inl q)) (ORs.frame e t (fun a q => k a (.inr q)) fun a q => g a (.inr q)) n
end
mutual
theorem OR.own : ∀ {o : O} {v : V} {A : AS}, OR K cl F H o v A → ∀ a, A a → F a = none ∧ H a ≠ none
  | _, _, _, .d _, _, q => q.elim
  | _, _, _, .scr _, _, q => q.elim
  | _, _, _, .lst h t n f, a, q => by
    rcases q with rfl | q
    · exact ⟨f, by rw [h]; simp⟩
    · exact ORs.own t a q
  | _, _, _, .dct h _ t n f, a, q => by
    rcases q with rfl | q
    · exact ⟨f, by rw [h]; simp⟩
    · exact ORs.own t a q
  | _, _, _, .ins h _ t n f, a, q => by
    rcases q with rfl | q
    · exact ⟨f, by rw [h]; simp⟩
    · exact ORs.own t a q
theorem ORs.own : ∀ {os : List O} {vs : List V} {A : AS}, ORs K cl F H os vs A → ∀ a, A a → F a = none ∧ H a ≠ none
  | _, _, _, .nil, _, q => q.elim
  | _, _, _, .cons h t n, a, q => by
    rcases q with q | q
    · exact OR.own h a q
    · exact ORs.own t a q
end
mutual
theorem OR.dp {G : Hp} (e : Sub F G) : ∀ {o : O} {v : V} {A : AS}, OR K cl F H o v A → (∀ a, A a → G a = H a) → ∀ x, o.toD = some x → Dq K G v x
  | _, _, _, .d h, _, x, q => by
    rw [O.toD] at q
    cases q
    exact Dq.mono e _ _ h
  | _, _, _, .lst (os := os) h t n f, k, x, q => by
    rw [O.toD] at q
    cases hq : O.toDs os with
    | none => rw [hq] at q; cases q
    | some xs =>
      rw [hq] at q
      cases q
      exact .lst ((k _ (.inl rfl)).trans h) (ORs.dp e t (fun a q => k a (.inr q)) xs hq)
  | _, _, _, .scr h, k, x, q => by rw [O.toD] at q; cases q
  | _, _, _, .dct h _ t n f, k, x, q => by rw [O.toD] at q; cases q
  | _, _, _, .ins h _ t n f, k, x, q => by rw [O.toD] at q; cases q
theorem ORs.dp {G : Hp} (e : Sub F G) : ∀ {os : List O} {vs : List V} {A : AS}, ORs K cl F H os vs A → (∀ a, A a → G a = H a) → ∀ xs, O.toDs os = some xs → DqAll K G vs xs
  | _, _, _, .nil, _, xs, q => by
    rw [O.toDs] at q; cases q
    exact .nil
  | _, _, _, .cons (o := o) (os := os) h t n, k, xs, q => by
    rw [O.toDs] at q
    cases h1 : O.toD o with
    | none => rw [h1] at q; cases q
    | some y =>
      cases h2 : O.toDs os with
      | none => rw [h1, h2] at q; cases q
      | some ys =>
        rw [h1, h2] at q
        cases q
        exact .cons (OR.dp e h (fun a q => k a (.inl q)) y h1) (ORs.dp e t (fun a q => k a (.inr q)) ys h2)
end
theorem ORs.ofData : ∀ {vs : List V} {ds : List PyData}, DqAll K F vs ds → ORs K cl F H (ds.map O.d) vs (fun _ => False)
  | _, _, .nil => .nil
  | _, _, .cons h t => by
    have e : (fun a : Addr => False ∨ False) = fun _ => False := by funext a; simp
    have := ORs.cons (OR.d (cl := cl) (H := H) h) (ORs.ofData t) (fun _ q _ => q)
    rw [e] at this
    exact this
theorem ORs.data : ∀ {vs : List V} {ds : List PyData} {A : AS}, ORs K cl F H (ds.map O.d) vs A → DqAll K F vs ds ∧ ∀ a, ¬ A a
  | _, [], _, h => by cases h; exact ⟨.nil, fun _ q => q⟩
  | _, d :: ds, _, h => by
    cases h with
    | cons h t n =>
      cases h with
      | d h =>
        obtain ⟨q1, q2⟩ := ORs.data t
        exact ⟨.cons h q1, fun a q => q.elim id (q2 a)⟩
theorem ORs.len : ∀ {os : List O} {vs : List V} {A : AS}, ORs K cl F H os vs A → os.length = vs.length
  | _, _, _, .nil => rfl
  | _, _, _, .cons _ t _ => by rw [List.length_cons, List.length_cons, ORs.len t]
theorem OR.cast {o : O} {v : V} {A B : AS} (h : OR K cl F H o v A) (e : ∀ a, A a ↔ B a) : OR K cl F H o v B := by
  have : A = B := by funext a; exact propext (e a)
  rw [← this]; exact h
theorem ORs.cast {o : List O} {v : List V} {A B : AS} (h : ORs K cl F H o v A) (e : ∀ a, A a ↔ B a) : ORs K cl F H o v B := by
  have : A = B := by funext a; exact propext (e a)
  rw [← this]; exact h
end

/-! ### the slots -/
abbrev Ro := List (Option O)
inductive RS (K : PySem.W.Frag) (cl : ClW) (F H : Hp) : Ro → St → AS → Prop
  | nil : RS K cl F H [] [] (fun _ => False)
  | no {os : Ro} {v : Option V} {vs : St} {B : AS} : RS K cl F H os vs B → RS K cl F H (none :: os) (v :: vs) B
  | yes {o : O} {os : Ro} {v : V} {vs : St} {A B : AS} : OR K cl F H o v A → RS K cl F H os vs B → (∀ a, A a → B a → False) → RS K cl F H (some o :: os) (some v :: vs) (fun a => A a ∨ B a)

section
variable {K : PySem.W.Frag} {cl : ClW} {F F' H H' : Hp}
theorem RS.len : ∀ {os : Ro} {vs : St} {A : AS}, RS K cl F H os vs A → os.length = vs.length
  | _, _, _, .nil => rfl
  | _, _, _, .no t => by rw [List.length_cons, List.length_cons, RS.len t]
  | _, _, _, .yes _ t _ => by rw [List.length_cons, List.length_cons, RS.len t]
theorem RS.cast {o : Ro} {v : St} {A B : AS} (h : RS K cl F H o v A) (e : ∀ a, A a ↔ B a) : RS K cl F H o v B := by
  have : A = B := by funext a; exact propext (e a)
  rw [← this]; exact h
theorem RS.frame (e : Sub F F') : ∀ {os : Ro} {vs : St} {A : AS}, RS K cl F H os vs A → (∀ a, A a → H' a = H a) → (∀ a, A a → F' a = none) → RS K cl F' H' os vs A
  | _, _, _, .nil, _, _ => .nil
  | _, _, _, .no t, k, g => .no (RS.frame e t k g)
  | _, _, _, .yes h t n, k, g => .yes (h.frame e (fun a q => k a (.inl q)) fun a q => g a (.inl q)) (RS.frame e t (fun a q => k a (.inr q)) fun a q => g a (.inr q)) n
theorem RS.own : ∀ {os : Ro} {vs : St} {A : AS}, RS K cl F H os vs A → ∀ a, A a → F a = none ∧ H a ≠ none
  | _, _, _, .nil, _, q => q.elim
  | _, _, _, .no t, a, q => RS.own t a q
  | _, _, _, .yes h t n, a, q => by
    rcases q with q | q
    · exact h.own a q
    · exact RS.own t a q
/-- the slot i taken out -/
theorem RS.out : ∀ {os : Ro} {vs : St} {A : AS} {i : Nat} {o : O}, RS K cl F H os vs A → os[i]? = some (some o) →
    ∃ v Ai B, vs[i]? = some (some v) ∧ OR K cl F H o v Ai ∧ RS K cl F H (os.set i none) vs B ∧ (∀ a, Ai a → B a → False) ∧ ∀ a, A a ↔ Ai a ∨ B a
  | _, _, _, _, _, .nil, e => by simp at e
  | _, _, _, 0, _, .no t, e => by simp at e
  | _, _, _, i + 1, o, .no t, e => by
    obtain ⟨v, Ai, B, h1, h2, h3, h4, h5⟩ := RS.out (i := i) (o := o) t (by simpa using e)
    exact ⟨v, Ai, B, by simpa using h1, h2, by rw [List.set_cons_succ]; exact .no h3, h4, h5⟩
  | _, _, _, 0, _, .yes h t n, e => by
    simp at e; subst e
    exact ⟨_, _, _, rfl, h, by rw [List.set_cons_zero]; exact .no t, n, fun a => Iff.rfl⟩
  | _, _, _, i + 1, o, .yes h t n, e => by
    obtain ⟨v, Ai, B, h1, h2, h3, h4, h5⟩ := RS.out (i := i) (o := o) t (by simpa using e)
    refine ⟨v, Ai, _, by simpa using h1, h2, by rw [List.set_cons_succ]; exact .yes h h3 (fun a p q => n a p ((h5 a).mpr (.inr q))), fun a p q => ?_, fun a => ?_⟩
    · rcases q with q | q
      · exact n a q ((h5 a).mpr (.inl p))
      · exact h4 a p q
    · constructor
      · rintro (q | q)
        · exact .inr (.inl q)
        · rcases (h5 a).mp q with q | q
          · exact .inl q
          · exact .inr (.inr q)
      · rintro (q | q | q)
        · exact .inr ((h5 a).mpr (.inl q))
        · exact .inl q
        · exact .inr ((h5 a).mpr (.inr q))
/-- a slot given up -/
theorem RS.drop : ∀ {os : Ro} {vs : St} {A : AS} (i : Nat) (w : Option V), RS K cl F H os vs A → ∃ B, RS K cl F H (os.set i none) (vs.set i w) B ∧ ∀ a, B a → A a
  | _, _, _, _, _, .nil => ⟨_, .nil, fun _ q => q⟩
  | _, _, _, 0, w, .no t => ⟨_, .no t, fun _ q => q⟩
  | _, _, _, i + 1, w, .no t => by
    obtain ⟨B, h1, h2⟩ := RS.drop i w t
    exact ⟨B, .no h1, h2⟩
  | _, _, _, 0, w, .yes h t n => ⟨_, .no t, fun _ q => .inr q⟩
  | _, _, _, i + 1, w, .yes h t n => by
    obtain ⟨B, h1, h2⟩ := RS.drop i w t
    exact ⟨_, .yes h h1 (fun a p q => n a p (h2 a q)), fun a q => q.elim .inl fun q => .inr (h2 a q)⟩
/-- a slot filled -/
theorem RS.put : ∀ {os : Ro} {vs : St} {A : AS} {i : Nat} {o : O} {v : V} {Ao : AS}, RS K cl F H os vs A → os[i]? = some none → OR K cl F H o v Ao → (∀ a, Ao a → A a → False) →
    RS K cl F H (os.set i (some o)) (vs.set i (some v)) (fun a => A a ∨ Ao a)
  | _, _, _, _, _, _, _, .nil, e, _, _ => by simp at e
  | _, _, _, 0, _, _, _, .no t, e, h, n => (RS.yes h t n).cast fun a => Or.comm
  | _, _, _, i + 1, _, _, _, .no t, e, h, n => .no (RS.put t (by simpa using e) h n)
  | _, _, _, 0, _, _, _, .yes _ t _, e, h, n => by simp at e
  | _, _, _, i + 1, _, _, _, .yes h0 t n0, e, h, n => by
    have q := RS.yes h0 (RS.put t (by simpa using e) h (fun a p q => n a p (.inr q))) (fun a p q => by
      rcases q with q | q
      · exact n0 a p q
      · exact n a q (.inl p))
    rw [List.set_cons_succ, List.set_cons_succ]
    refine q.cast fun a => ?_
    constructor
    · rintro (q | q | q)
      · exact .inl (.inl q)
      · exact .inl (.inr q)
      · exact .inr q
    · rintro ((q | q) | q)
      · exact .inl q
      · exact .inr (.inl q)
      · exact .inr (.inr q)
/-- x = ..: what stood there is given up -/
theorem RS.store {os : Ro} {vs : St} {A Ao : AS} {i : Nat} {o : O} {v : V} (h : RS K cl F H os vs A) (hi : i < os.length) (ho : OR K cl F H o v Ao) (n : ∀ a, Ao a → A a → False) :
    ∃ B, RS K cl F H (os.set i (some o)) (vs.set i (some v)) B ∧ ∀ a, B a → A a ∨ Ao a := by
  obtain ⟨B, h1, h2⟩ := RS.drop i none h
  have e : (os.set i none)[i]? = some none := by rw [List.getElem?_set_self hi]
  have q := RS.put h1 e ho (fun a p q => n a p (h2 a q))
  rw [List.set_set, List.set_set] at q
  exact ⟨_, q, fun a q => q.elim (fun q => .inl (h2 a q)) .inr⟩
end

theorem set_self {α : Type} : ∀ {l : List α} {i : Nat} {x : α}, l[i]? = some x → l.set i x = l
  | [], _, _, h => by simp at h
  | a :: l, 0, x, h => by simp at h; subst h; rfl
  | a :: l, i + 1, x, h => by rw [List.set_cons_succ, set_self (by simpa using h)]
/-! ### the state of a body: frozen part, owned addresses, slots; and a step -/
structure SR (K : PySem.W.Frag) (cl : ClW) (F : Hp) (A : AS) (ro : Ro) (σ : St) (H : Hp) : Prop where
  rs : RS K cl F H ro σ A
  sub : Sub F H
structure Stp (F H : Hp) (A : AS) (F' H' : Hp) (A' : AS) : Prop where
  fr : Sub F F'
  kp : ∀ a o, H a = some o → ¬ A a → H' a = some o
  nf : ∀ a, F' a ≠ none → F a ≠ none ∨ H a = none ∨ A a
  na : ∀ a, A' a → A a ∨ H a = none
section
variable {K : PySem.W.Frag} {cl : ClW} {F F' F'' H H' H'' : Hp} {A A' A'' : AS} {ro ro' : Ro} {σ : St}
theorem Stp.refl : Stp F H A F H A := ⟨.refl _, fun _ _ h _ => h, fun _ h => .inl h, fun _ h => .inl h⟩
theorem Stp.trans (a : Stp F H A F' H' A') (b : Stp F' H' A' F'' H'' A'') : Stp F H A F'' H'' A'' := by
  refine ⟨a.fr.trans b.fr, fun x o h n => ?_, fun x h => ?_, fun x h => ?_⟩
  · refine b.kp x o (a.kp x o h n) fun q => ?_
    rcases a.na x q with q | q
    · exact n q
    · rw [h] at q; cases q
  · rcases b.nf x h with q | q | q
    · exact a.nf x q
    · by_cases hA : A x
      · exact .inr (.inr hA)
      · cases e : H x with
        | none => exact .inr (.inl rfl)
        | some o => rw [a.kp x o e hA] at q; cases q
    · rcases a.na x q with q | q
      · exact .inr (.inr q)
      · exact .inr (.inl q)
  · rcases b.na x h with q | q
    · exact a.na x q
    · by_cases hA : A x
      · exact .inl hA
      · cases e : H x with
        | none => exact .inr rfl
        | some o => rw [a.kp x o e hA] at q; cases q
/-- a tree held beside the owned ones stays -/
theorem OR.step {o : O} {v : V} {Ao : AS} (h : OR K cl F H o v Ao) (n : ∀ a, Ao a → A a → False) (st : Stp F H A F' H' A') : OR K cl F' H' o v Ao ∧ ∀ a, Ao a → A' a → False := by
  have key : ∀ a, Ao a → ∃ o, H a = some o := fun a q => by
    cases e : H a with
    | none => exact absurd e (h.own a q).2
    | some o => exact ⟨o, rfl⟩
  refine ⟨h.frame st.fr (fun a q => ?_) (fun a q => ?_), fun a q r => ?_⟩
  · obtain ⟨o, e⟩ := key a q
    rw [e, st.kp a o e (n a q)]
  · cases e : F' a with
    | none => rfl
    | some u =>
      exfalso
      rcases st.nf a (by rw [e]; simp) with z | z | z
      · exact z (h.own a q).1
      · exact (h.own a q).2 z
      · exact n a q z
  · rcases st.na a r with z | z
    · exact n a q z
    · exact (h.own a q).2 z
theorem ORs.step {o : List O} {v : List V} {Ao : AS} (h : ORs K cl F H o v Ao) (n : ∀ a, Ao a → A a → False) (st : Stp F H A F' H' A') : ORs K cl F' H' o v Ao ∧ ∀ a, Ao a → A' a → False := by
  have key : ∀ a, Ao a → ∃ o, H a = some o := fun a q => by
    cases e : H a with
    | none => exact absurd e (h.own a q).2
    | some o => exact ⟨o, rfl⟩
  refine ⟨h.frame st.fr (fun a q => ?_) (fun a q => ?_), fun a q r => ?_⟩
  · obtain ⟨o, e⟩ := key a q
    rw [e, st.kp a o e (n a q)]
  · cases e : F' a with
    | none => rfl
    | some u =>
      exfalso
      rcases st.nf a (by rw [e]; simp) with z | z | z
      · exact z (h.own a q).1
      · exact (h.own a q).2 z
      · exact n a q z
  · rcases st.na a r with z | z
    · exact n a q z
    · exact (h.own a q).2 z
/-- the frozen part together with a tree -/
noncomputable def frz (F H : Hp) (Ai : AS) : Hp := fun a => open Classical in if Ai a then H a else F a
theorem frz_yes {Ai : AS} {a : Addr} (h : Ai a) : frz F H Ai a = H a := by unfold frz; rw [if_pos h]
theorem frz_no {Ai : AS} {a : Addr} (h : ¬ Ai a) : frz F H Ai a = F a := by unfold frz; rw [if_neg h]
theorem frz_sub {Ai : AS} (n : ∀ a, Ai a → F a = none) : Sub F (frz F H Ai) := fun a o e => by
  by_cases h : Ai a
  · rw [n a h] at e; cases e
  · rw [frz_no h]; exact e
theorem frz_in {Ai : AS} (s : Sub F H) : Sub (frz F H Ai) H := fun a o e => by
  by_cases h : Ai a
  · rw [frz_yes h] at e; exact e
  · rw [frz_no h] at e; exact s a o e
/-- a tree beside the owned ones is frozen -/
theorem SR.freezeTemp {o : O} {v : V} {Ao : AS} {x : PyData} (S : SR K cl F A ro σ H) (h : OR K cl F H o v Ao) (n : ∀ a, Ao a → A a → False) (hx : o.toD = some x) :
    ∃ F', Sub F F' ∧ (∀ a, F' a ≠ none → F a ≠ none ∨ Ao a) ∧ SR K cl F' A ro σ H ∧ Dq K F' v x := by
  refine ⟨frz F H Ao, frz_sub fun a q => (h.own a q).1, fun a q => ?_, ⟨S.rs.frame (frz_sub fun a q => (h.own a q).1) (fun _ _ => rfl) (fun a q => ?_), frz_in S.sub⟩, h.dp (frz_sub fun a q => (h.own a q).1) (fun a q => frz_yes q) x hx⟩
  · by_cases z : Ao a
    · exact .inr z
    · rw [frz_no z] at q; exact .inl q
  · rw [frz_no fun z => n a z q]
    exact (S.rs.own a q).1
/-- a slot's tree is frozen -/
theorem SR.freezeSlot {o : O} {i : Nat} {x : PyData} (S : SR K cl F A ro σ H) (hi : ro[i]? = some (some o)) (hx : o.toD = some x) :
    ∃ v F' A', σ[i]? = some (some v) ∧ Dq K F' v x ∧ SR K cl F' A' (ro.set i (some (.d x))) σ H ∧ Stp F H A F' H A' := by
  obtain ⟨v, Ai, B, h1, h2, h3, h4, h5⟩ := S.rs.out hi
  have S3 : SR K cl F B (ro.set i none) σ H := ⟨h3, S.sub⟩
  obtain ⟨F', q1, q2, q3, q4⟩ := S3.freezeTemp h2 h4 hx
  have hl : i < ro.length := (List.getElem?_eq_some_iff.mp hi).1
  have hp := q3.rs.put (i := i) (o := .d x) (v := v) (by rw [List.getElem?_set_self hl]) (.d q4) (fun _ z => z.elim)
  rw [List.set_set] at hp
  have es : σ.set i (some v) = σ := set_self h1
  rw [es] at hp
  refine ⟨v, F', B, h1, q4, ⟨hp.cast fun a => by simp, q3.sub⟩, ⟨q1, fun a o e _ => e, fun a q => ?_, fun a q => .inl ((h5 a).mpr (.inr q))⟩⟩
  rcases q2 a q with z | z
  · exact .inl z
  · exact .inr (.inr ((h5 a).mpr (.inl z)))
/-- a new object, tracked, in the frozen part -/
theorem SR.newF {p : Addr} {ob : HO} (S : SR K cl F A ro σ H) (hp : H p = none) : SR K cl (upd F p ob) A ro σ (upd H p ob) ∧ Stp F H A (upd F p ob) (upd H p ob) A := by
  have fp : F p = none := by
    cases e : F p with
    | none => rfl
    | some u => rw [S.sub p u e] at hp; cases hp
  have nA : ∀ a, A a → a ≠ p := fun a q z => by subst z; exact (S.rs.own _ q).2 hp
  refine ⟨⟨S.rs.frame (Sub.new fp) (fun a q => by rw [upd_ne (nA a q)]) (fun a q => by rw [upd_ne (nA a q)]; exact (S.rs.own a q).1), fun a o e => ?_⟩, Sub.new fp, fun a o e _ => Sub.new hp a o e, fun a q => ?_, fun a q => .inl q⟩
  · by_cases z : a = p
    · subst z; rw [upd_same] at e ⊢; exact e
    · rw [upd_ne z] at e ⊢; exact S.sub a o e
  · by_cases z : a = p
    · subst z; exact .inr (.inl hp)
    · rw [upd_ne z] at q; exact .inl q
/-- a new object, tracked, owned beside -/
theorem SR.newO {p : Addr} {ob : HO} (S : SR K cl F A ro σ H) (hp : H p = none) : SR K cl F A ro σ (upd H p ob) ∧ Stp F H A F (upd H p ob) A ∧ F p = none ∧ ¬ A p := by
  have fp : F p = none := by
    cases e : F p with
    | none => rfl
    | some u => rw [S.sub p u e] at hp; cases hp
  have nA : ∀ a, A a → a ≠ p := fun a q z => by subst z; exact (S.rs.own _ q).2 hp
  exact ⟨⟨S.rs.frame (.refl _) (fun a q => by rw [upd_ne (nA a q)]) (fun a q => (S.rs.own a q).1), S.sub.trans (Sub.new hp)⟩, ⟨.refl _, fun a o e _ => Sub.new hp a o e, fun a q => .inl q, fun a q => .inl q⟩, fp, fun q => nA p q rfl⟩
end
end Lw

set_option maxRecDepth 100000
/-! Lw2: the compact syntax and its evaluator, over plain data. -/
namespace Lw
open PySem L2

/-! ### outcomes -/
/-- an exception: its class, its fields -/
structure Exn where
  cls : Str
inductive Out (α : Type) where
  | ok (a : α) (ro : Ro)
  | exc (x : Exn) (ro : Ro)
  | stuck
namespace Out
def bind {α β : Type} : Out α → (α → Ro → Out β) → Out β
  | ok a ro, f => f a ro
  | exc x ro, _ => exc x ro
  | stuck, _ => stuck
@[simp] theorem bind_ok {α β : Type} (a : α) (ro : Ro) (f : α → Ro → Out β) : (ok a ro).bind f = f a ro := rfl
@[simp] theorem bind_exc {α β : Type} (x : Exn) (ro : Ro) (f : α → Ro → Out β) : (exc x ro).bind f = exc x ro := rfl
@[simp] theorem bind_stuck {α β : Type} (f : α → Ro → Out β) : (stuck : Out α).bind f = stuck := rfl
/-- no exception may leave -/
def fin {α β : Type} : Out α → (α → Ro → Out β) → Out β
  | ok a ro, f => f a ro
  | _, _ => stuck
def ofOpt {α : Type} : Option α → Ro → Out α
  | some a, ro => ok a ro
  | none, _ => stuck
@[simp] theorem ofOpt_some {α : Type} (a : α) (ro : Ro) : ofOpt (some a) ro = ok a ro := rfl
@[simp] theorem ofOpt_none {α : Type} (ro : Ro) : ofOpt (none : Option α) ro = stuck := rfl
end Out
/-- a call's outcome: the value, and what the parameters hold then -/
inductive FOut where
  | ok (o : O) (back : List (Option O))
  | exc (x : Exn) (back : List (Option O))
  | stuck
/-- a step within an owned tree -/
inductive Sel where
  | f (n : Str)
  | i (k : Nat)
  | k (x : PyData)
/-- a value on the way: a thing of its own, or what stands in a slot (within its tree) -/
inductive Hd where
  | tm (x : O)
  | sl (i : Nat) (p : List Sel)

/-! ### operations on data -/
def lenOk (n : Nat) : Bool := decide (n ≤ 16777216)
def mulOk (i j : Int) : Bool := decide (i.natAbs.log2 + j.natAbs.log2 < 1000000)
def binO : Operator → PyData → PyData → Option O
  | .Add, .int i, .int j => some (.d (.int (i + j)))
  | .Sub, .int i, .int j => some (.d (.int (i - j)))
  | .Sub, .bool p, .bool q => some (.d (.int (PyProof.Rows.b2i p - PyProof.Rows.b2i q)))
  | .Mult, .int i, .int j => if mulOk i j then some (.d (.int (i * j))) else none
  | .FloorDiv, .int i, .int j => if 0 < j ∧ j.natAbs.log2 < 9000 then some (.d (.int (i / j))) else none
  | .Mod, .int i, .int j => if 0 < j then some (.d (.int (i % j))) else none
  | .Pow, .int i, .int j => if 0 ≤ j ∧ j ≤ 1000000 ∧ i.natAbs < 2 ^ 64 then some (.d (.int (i ^ j.toNat))) else none
  | .Add, .tuple xs, .tuple ys => if lenOk (xs.length + ys.length) then some (.d (.tuple (xs ++ ys))) else none
  | .Add, .list xs, .list ys => if lenOk (xs.length + ys.length) then some (.lst ((xs ++ ys).map .d)) else none
  | .Mult, .list xs, .int n => if -(2 ^ 62) ≤ n ∧ n < 2 ^ 62 ∧ lenOk (xs.length * n.toNat) then some (.lst ((List.replicate n.toNat xs).flatten.map .d)) else none
  | .Mult, .tuple xs, .int n => if 2 ≤ n ∧ n ≤ 1000 ∧ xs.length ≤ 1000 ∧ xs ≠ [] then some (.d (.tuple (List.replicate n.toNat xs).flatten)) else none
  | _, _, _ => none
/-- an index from either end -/
def ixD (n : Nat) (i : Int) : Option Nat := if 0 ≤ i then (if i < n then some i.toNat else none) else if -(n : Int) ≤ i then some (i + n).toNat else none
def idxD : PyData → PyData → Option PyData
  | .tuple xs, .int i => (ixD xs.length i).bind fun k => xs[k]?
  | .list xs, .int i => (ixD xs.length i).bind fun k => xs[k]?
  | _, _ => none
def cutD (n d : Nat) : Option Int → Nat
  | none => d
  | some v => if v < 0 then (v + (n : Int)).toNat else min v.toNat n
def sliceD (xs : List PyData) (lo hi : Option Int) : List PyData := (xs.drop (cutD xs.length 0 lo)).take (cutD xs.length xs.length hi - cutD xs.length 0 lo)
def eqD (a b : PyData) : Option Bool := match a, b with
  | .int i, .int j => some (decide (i = j))
  | .str x, .str y => some (decide (x = y))
  | _, _ => if SeqAt.shaped a && SeqAt.shaped b then some (PyData.eqv a b) else none
def intsD : List PyData → Option (List Int)
  | [] => some []
  | .int i :: xs => match intsD xs with
    | some is => some (i :: is)
    | none => none
  | _ :: _ => none
def boolsD : List PyData → Option (List Bool)
  | [] => some []
  | .bool i :: xs => match boolsD xs with
    | some is => some (i :: is)
    | none => none
  | _ :: _ => none
def notNone : PyData → Bool
  | .none => false
  | _ => true
/-- data that the order of the model tells apart -/
def ordOk (a b : PyData) : Bool := PySem.W.alike a b && notNone a && decide (a.depth ≤ 60)
def ltD : PyData → PyData → Option Bool
  | .int i, .int j => some (decide (i < j))
  | a, b => if ordOk a b then some (PySem.W.dataLt a b) else none
def leD : PyData → PyData → Option Bool
  | .int i, .int j => some (decide (i ≤ j))
  | a, b => if ordOk a b then some (!PySem.W.dataLt b a) else none
def itemsD : PyData → Option (List PyData)
  | .list xs => some xs
  | .tuple xs => some xs
  | _ => none
def inD (x : PyData) : PyData → Option Bool
  | .list ys => if SeqAt.shaped x && SeqAt.shaped (.list ys) then some (ys.any fun z => PyData.eqv z x) else none
  | .tuple ys => if SeqAt.shaped x && SeqAt.shaped (.tuple ys) then some (ys.any fun z => PyData.eqv z x) else none
  | _ => none
def gtD : PyData → PyData → Option Bool
  | .int i, .int j => some (decide (j < i))
  | a, b => if ordOk a b then some (PySem.W.dataLt b a) else none
def geD : PyData → PyData → Option Bool
  | .int i, .int j => some (decide (j ≤ i))
  | a, b => if ordOk a b then some (!PySem.W.dataLt a b) else none
/-- is this bool -/
def isB (b : Bool) : PyData → Bool
  | .bool c => c == b
  | _ => false
def cmpD : CmpOp → PyData → PyData → Option Bool
  | .Eq, a, b => eqD a b
  | .NotEq, a, b => (eqD a b).map (!·)
  | .Lt, a, b => ltD a b
  | .LtE, a, b => leD a b
  | .Gt, a, b => gtD a b
  | .GtE, a, b => geD a b
  | .In, a, b => inD a b
  | .NotIn, a, b => (inD a b).map (!·)
  | .Is, a, .none => some (!notNone a)
  | .IsNot, a, .none => some (notNone a)
  | .Is, a, .bool b => some (isB b a)
  | .IsNot, a, .bool b => some (!isB b a)
  | _, _, _ => none
/-- built-in classes, for isinstance -/
inductive Tn where
  | int | bool | str | tuple | list
  deriving DecidableEq
def Tn.s : Tn → String
  | .int => "int"
  | .bool => "bool"
  | .str => "str"
  | .tuple => "tuple"
  | .list => "list"
def isiD : Tn → PyData → Option Bool
  | .int, .int _ => some true
  | .int, .bool _ => some true
  | .bool, .bool _ => some true
  | .str, .str _ => some true
  | .tuple, .tuple _ => some true
  | .list, .list _ => some true
  | _, _ => some false
/-- built-in functions -/
inductive Pr where
  | len | int | abs | max | min | sum | all | any | tuple | list | sorted
  deriving DecidableEq
/-- methods of lists -/
inductive Mt where
  | append | extend | pop
  deriving DecidableEq
def Mt.nm : Mt → Str
  | .append => "append" | .extend => "extend" | .pop => "pop"
/-! ### the syntax -/
inductive CE where
  | var (i : Nat)
  | int (n : Int) | bl (b : Bool) | non | str (s : Str)
  | glob (x : Str)
  | bin (op : Operator) (a b : CE)
  | neg (a : CE)
  | not (a : CE)
  | and (a b : CE) | or (a b : CE) | one (a : CE)
  | cmp (op : CmpOp) (a b : CE)
  | chain (o1 o2 : CmpOp) (a b c : CE)
  | ifx (c a b : CE)
  | tup (as : CE) | lst (as : CE)
  | idx (a i : CE)
  | slc (a lo hi : CE)
  | call (f : Nat) (as : CE)
  | prim (p : Pr) (as : CE)
  | isi (a : CE) (T : Tn)
  | mth (m : Mt) (o as : CE)
  | comp (q : Bool) (own : List (Str × Nat)) (elt tg it ifs : CE)
  | seq (e : CE) | rng (as : CE) | enum (as : CE) | zip (as : CE)
  | share (i : Nat) (e : CE)
  | rgl (t : Bool) (a b : CE)
  | rev (a : CE)
  | sset (a : CE)
  | nox (a : CE)
  | attr (d : Str) (a : CE) (f : Str) | meth (d m : Str) (f : Nat) (o as : CE) | new (d : Str) (f : Nat) (as : CE)
  | mv (i : Nat) | fr (i : Nat) | at_ (a i : CE)
  | dnew | done (a b : CE) | dget (d i : CE) | din (n : Bool) (i d : CE) | dsort (d : CE)
  | bad
  | nil | cons (a as : CE)

/-- the static surroundings of a body -/
structure ClsD where
  nm : Str
  init : Nat
  mts : List (Str × Nat)
  fl : List Str
structure CC where
  N : List Str
  sc : Scope
  fns : List Str
  blt : List Str
  gls : List Str
  calm : Bool
  fnB : Option (List (Str × NameKind))
  exs : List Str
  fx : List Nat
  cls : List ClsD
  hds : List Str
structure GE where
  call : Nat → List O → FOut
  glob : Str → Option PyData
  wf : Nat
  exm : Str → Str → Option Bool

/-! ### reading handles -/
mutual
def O.flat : O → Option PyData
  | .d x => some x
  | .lst os => (O.flats os).map .list
  | _ => none
def O.flats : List O → Option (List PyData)
  | [] => some []
  | .d x :: os => match O.flats os with
    | some xs => some (x :: xs)
    | none => none
  | _ :: _ => none
end
/-- a slice of data (or of the script) -/
def sliceO (x : O) (lo hi : Option Int) : Option O := match x with
  | .d (.tuple xs) => some (.d (.tuple (sliceD xs lo hi)))
  | .scr ns => some (.lst ((sliceD (ns.map .int) lo hi).map .d))
  | x => match x.flat with
    | some (.list xs) => some (.lst ((sliceD xs lo hi).map .d))
    | _ => none
/-- by names -/
def getN : List Str → List O → Str → Option O
  | n :: ns, o :: os, m => if n = m then some o else getN ns os m
  | _, _, _ => none
def O.sel : O → Sel → Option O
  | .lst os, .i k => os[k]?
  | .ins _ ns os, .f n => getN ns os n
  | _, _ => none
def O.walk : List Sel → O → Option O
  | [], o => some o
  | s :: p, o => match o.sel s with
    | some o => O.walk p o
    | none => none
/-- within a tree -/
def Hd.deep : Hd → Bool
  | .sl _ (_ :: _) => true
  | _ => false
def Hd.look (ro : Ro) : Hd → Option O
  | .tm x => some x
  | .sl i p => match ro[i]? with
    | some (some o) => O.walk p o
    | _ => none
/-- as data, for operations that keep no part of it -/
def Hd.lookD (ro : Ro) (h : Hd) : Option PyData := (h.look ro).bind O.toD
/-- as data whose items are frozen -/
def Hd.lookF (ro : Ro) (h : Hd) : Option PyData := (h.look ro).bind O.flat
/-- an operand: a thing of its own is frozen -/
def Hd.opd (ro : Ro) : Hd → Option PyData
  | .tm o => o.toD
  | .sl i p => Hd.lookF ro (.sl i p)
/-- as frozen data (a slot's tree is frozen for good) -/
def Hd.esc (h : Hd) (ro : Ro) : Out PyData := match h with
  | .tm x => .ofOpt x.toD ro
  | .sl i [] => match ro[i]? with
    | some (some (.d x)) => .ok x ro
    | some (some o) => match o.toD with
      | some x => .ok x (ro.set i (some (.d x)))
      | none => .stuck
    | _ => .stuck
  | .sl _ _ => .stuck
/-- to be stored: a thing of its own stays one -/
def Hd.sto (h : Hd) (ro : Ro) : Out O := match h with
  | .tm x => .ok x ro
  | .sl i p => (Hd.esc (.sl i p) ro).bind fun x ro => .ok (.d x) ro
def Hd.bool (ro : Ro) (h : Hd) : Option Bool := match h.lookD ro with
  | some (.bool b) => some b
  | _ => none
def escs : List Hd → Ro → Out (List PyData)
  | [], ro => .ok [] ro
  | h :: hs, ro => (h.esc ro).bind fun x ro => (escs hs ro).bind fun xs ro => .ok (x :: xs) ro
/-- an argument: frozen data, or the script -/
def Hd.arg (h : Hd) (ro : Ro) : Out O := match h.look ro with
  | some (.scr ns) => .ok (.scr ns) ro
  | _ => (h.esc ro).bind fun x ro => .ok (.d x) ro
def argsO : List Hd → Ro → Out (List O)
  | [], ro => .ok [] ro
  | h :: hs, ro => (h.arg ro).bind fun x ro => (argsO hs ro).bind fun xs ro => .ok (x :: xs) ro
def stos : List Hd → Ro → Out (List O)
  | [], ro => .ok [] ro
  | h :: hs, ro => (h.sto ro).bind fun x ro => (stos hs ro).bind fun xs ro => .ok (x :: xs) ro
def looksD (ro : Ro) : List Hd → Option (List PyData)
  | [] => some []
  | h :: hs => match h.lookD ro, looksD ro hs with
    | some x, some xs => some (x :: xs)
    | _, _ => none
/-- a slice's part -/
def partD (ro : Ro) (hs : List Hd) : Option (Option Int) := match looksD ro hs with
  | some [] => some none
  | some [.int i] => some (some i)
  | _ => none
/-- scalars, lists of scalars -/
def scalD : PyData → Bool
  | .none => true
  | .bool _ => true
  | .int _ => true
  | .str _ => true
  | _ => false
def flatO : O → Bool
  | .d x => scalD x
  | .lst os => os.all fun o => match o with
    | .d x => scalD x
    | _ => false
  | _ => false
def looksF (ro : Ro) : List Hd → Option (List PyData)
  | [] => some []
  | h :: hs => match h.lookF ro, looksF ro hs with
    | some x, some xs => some (x :: xs)
    | _, _ => none
mutual
def asgT : CE → PyData → Ro → Option Ro
  | .var i, x, ro => some (ro.set i (some (.d x)))
  | .tup ts, .tuple xs, ro => asgTs ts xs ro
  | _, _, _ => none
def asgTs : CE → List PyData → Ro → Option Ro
  | .nil, [], ro => some ro
  | .cons t ts, x :: xs, ro => match asgT t x ro with
    | some ro => asgTs ts xs ro
    | none => none
  | _, _, _ => none
end
/-! ### built-in functions -/
def rangeD (lo hi : Int) : List PyData := (List.range (hi - lo).toNat).map fun (k : Nat) => PyData.int (lo + (k : Int))
def allAlike (xs : List PyData) : Bool := (xs.all fun a => xs.all fun b => PySem.W.alike a b) && xs.all notNone && decide (PyData.depthAll xs ≤ 60)
def notTup : PyData → Bool
  | .tuple _ => false
  | _ => true
def fullTup : PyData → Bool
  | .tuple (_ :: _) => true
  | _ => false
def insD (x : PyData) : List PyData → List PyData
  | [] => [x]
  | y :: ys => if PySem.W.dataLt y x then y :: insD x ys else x :: y :: ys
def insSort : List PyData → List PyData
  | [] => []
  | x :: xs => insD x (insSort xs)
def sortD (xs : List PyData) : Option (List PyData) := if allAlike xs && (xs.all fullTup || xs.all notTup) && lenOk xs.length then some (insSort xs) else none
/-- tuples of ints -/
def tupsD : List PyData → Option (List (List Int))
  | [] => some []
  | .tuple xs :: ys => match intsD xs, tupsD ys with
    | some a, some b => some (a :: b)
    | _, _ => none
  | _ :: _ => none
def dedupL : List (List Int) → List (List Int)
  | [] => []
  | k :: ks => if ks.contains k then dedupL ks else k :: dedupL ks
/-- sorted(set(xs)), xs less than 64 tuples of ints of one length, none below 0 -/
def ssetD (xs : List PyData) : Option (List PyData) := match tupsD xs with
  | some ks => if ks.length < 64 ∧ (ks.all fun k => decide (1 ≤ k.length ∧ k.length = (ks.headD []).length) && k.all fun n => decide (0 ≤ n)) then some (insSort ((dedupL ks).map fun k => .tuple (k.map .int))) else none
  | none => none
/-- built-in functions that keep no part of their arguments but frozen items -/
def lenO : List PyData → Option O
  | [.list xs] => some (.d (.int xs.length))
  | [.tuple xs] => some (.d (.int xs.length))
  | _ => none
def intO : List PyData → Option O
  | [.int i] => some (.d (.int i))
  | [.bool b] => some (.d (.int (if b then 1 else 0)))
  | _ => none
def absO : List PyData → Option O
  | [.int i] => some (.d (.int (if i < 0 then -i else i)))
  | _ => none
def maxO : List PyData → Option O
  | [.int i, .int j] => some (.d (.int (if j > i then j else i)))
  | [.list (x :: xs)] => if allAlike (x :: xs) then some (.d (PySem.W.maxD x xs)) else none
  | [.tuple (x :: xs)] => if allAlike (x :: xs) then some (.d (PySem.W.maxD x xs)) else none
  | [.tuple a, .tuple b] => if allAlike [.tuple a, .tuple b] then some (.d (PySem.W.maxD (.tuple a) [.tuple b])) else none
  | _ => none
def minO : List PyData → Option O
  | [.int i, .int j] => some (.d (.int (if j < i then j else i)))
  | [.list (x :: xs)] => if allAlike (x :: xs) then some (.d (PySem.W.minD x xs)) else none
  | [.tuple (x :: xs)] => if allAlike (x :: xs) then some (.d (PySem.W.minD x xs)) else none
  | [.tuple a, .tuple b] => if allAlike [.tuple a, .tuple b] then some (.d (PySem.W.minD (.tuple a) [.tuple b])) else none
  | _ => none
def sumO : List PyData → Option O
  | [.list xs] => (intsD xs).map fun is => .d (.int is.sum)
  | [.tuple xs] => (intsD xs).map fun is => .d (.int is.sum)
  | _ => none
def allO : List PyData → Option O
  | [.list xs] => (boolsD xs).map fun bs => .d (.bool (bs.all id))
  | _ => none
def anyO : List PyData → Option O
  | [.list xs] => (boolsD xs).map fun bs => .d (.bool (bs.any id))
  | _ => none
def tupleO : List PyData → Option O
  | [.list xs] => some (.d (.tuple xs))
  | [.tuple xs] => some (.d (.tuple xs))
  | _ => none
def listO : List PyData → Option O
  | [.list xs] => some (.lst (xs.map .d))
  | [.tuple xs] => some (.lst (xs.map .d))
  | _ => none
def sortedO : List PyData → Option O
  | [.list xs] => (sortD xs).map fun ys => .lst (ys.map .d)
  | _ => none
def primO : Pr → List PyData → Option O
  | .len => lenO
  | .int => intO
  | .abs => absO
  | .max => maxO
  | .min => minO
  | .sum => sumO
  | .all => allO
  | .any => anyO
  | .tuple => tupleO
  | .list => listO
  | .sorted => sortedO

/-! ### trees rewritten -/
/-- by names, one put -/
def setN : List Str → List O → Str → O → List O
  | n :: ns, o :: os, m, x => if n = m then x :: os else o :: setN ns os m x
  | _, os, _, _ => os
def O.put : List Sel → O → O → Option O
  | [], s, _ => some s
  | .i k :: p, s, .lst os => match os[k]? with
    | some o => match O.put p s o with
      | some o' => some (.lst (os.set k o'))
      | none => none
    | none => none
  | .f n :: p, s, .ins C ns os => match getN ns os n with
    | some o => match O.put p s o with
      | some o' => some (.ins C ns (setN ns os n o'))
      | none => none
    | none => none
  | _, _, _ => none
/-- methods of lists: the value, the list then -/
def mthL : Mt → List O → List O → Option (O × List O)
  | .append, os, [x] => if lenOk (os.length + 1) then some (.d .none, os ++ [x]) else none
  | .extend, os, [.lst xs] => if lenOk (os.length + xs.length) then some (.d .none, os ++ xs) else none
  | .extend, os, [.d (.list xs)] => if lenOk (os.length + xs.length) then some (.d .none, os ++ xs.map .d) else none
  | .pop, os, [] => os.getLast?.map fun o => (o, os.dropLast)
  | _, _, _ => none
def mthR (m : Mt) (i : Nat) (p : List Sel) (xs : List O) (ro : Ro) : Out Hd := match ro[i]? with
  | some (some t) => match O.walk p t with
    | some (.lst os) => match mthL m os xs with
      | some (r, os') => match O.put p (.lst os') t with
        | some t' => .ok (.tm r) (ro.set i (some t'))
        | none => .stuck
      | none => .stuck
    | _ => .stuck
  | _ => .stuck
/-- an item within a tree -/
def itR (h : Hd) (i : Option PyData) (ro : Ro) : Out Hd := match h with
  | .sl j p => match Hd.look ro (.sl j p) with
    | some (.lst os) => match i with
      | some (.int n) => match ixD os.length n with
        | some k => match os[k]? with
          | some (.d x) => .ok (.tm (.d x)) ro
          | some _ => .ok (.sl j (p ++ [.i k])) ro
          | none => .stuck
        | none => .stuck
      | _ => .stuck
    | _ => .stuck
  | _ => .stuck
/-- an attribute of an instance -/
def atR (d f : Str) (h : Hd) (ro : Ro) : Out Hd := match h with
  | .tm (.ins c ns os) => if c = d then (match getN ns os f with
    | some o => .ok (.tm o) ro
    | none => .stuck) else .stuck
  | .sl i p => match Hd.look ro (.sl i p) with
    | some (.ins c ns os) => if c = d then (match getN ns os f with
      | some (.d x) => .ok (.tm (.d x)) ro
      | some _ => .ok (.sl i (p ++ [.f f])) ro
      | none => .stuck) else .stuck
    | _ => .stuck
  | _ => .stuck
/-- an instance of a class, without a field of that name -/
def isIns (d m : Str) : Option O → Bool
  | some (.ins c ns _) => decide (c = d) && !(ns.contains m)
  | _ => false
/-- a method's call: the instance is lent (or given away) -/
def meR (f : List O → FOut) (d m : Str) (h : Hd) (xs : List O) (ro : Ro) : Out Hd := match h with
  | .tm o => match f (o :: xs) with
    | .ok o _ => .ok (.tm o) ro
    | _ => .stuck
  | .sl i p => match ro[i]? with
    | some (some t) => match O.walk p t with
      | some (.ins c ns os) => match f (.ins c ns os :: xs) with
        | .ok o (some t' :: _) => match O.put p t' t with
          | some t2 => .ok (.tm o) (ro.set i (some t2))
          | none => .stuck
        | _ => .stuck
      | _ => .stuck
    | _ => .stuck
def isLst : Option O → Bool
  | some (.lst _) => true
  | _ => false
/-- what stands at a key -/
def dGet : List PyData → List O → NestedKey → Option O
  | k :: ks, o :: os, x => if toKey k = some x then some o else dGet ks os x
  | _, _, _ => none
/-- a key's value put, or a new one at the end -/
def dPut : List PyData → List O → PyData → NestedKey → O → List PyData × List O
  | a :: ks, o :: os, x, k, y => if toKey a = some k then (a :: ks, y :: os) else (a :: (dPut ks os x k y).1, o :: (dPut ks os x k y).2)
  | _, _, x, _, y => ([x], [y])
/-! ### the evaluator -/
/-- the loop of a comprehension: f does one item -/
def cLoop (f : PyData → Ro → Out (Option O)) : List PyData → Ro → Out (List O)
  | [], ro => .ok [] ro
  | x :: xs, ro => (f x ro).bind fun o ro => (cLoop f xs ro).bind fun os ro => .ok (match o with | some o => o :: os | none => os) ro
def wipeR : List (Str × Nat) → Ro → Ro
  | [], ro => ro
  | p :: ps, ro => (wipeR ps ro).set p.2 none
def unwipe (old : Ro) : List (Str × Nat) → Ro → Ro
  | [], ro => ro
  | p :: ps, ro => unwipe old ps (ro.set p.2 (old[p.2]?.join))
/-- a comprehension's end: its own slots as they were -/
def cEnd (ro0 : Ro) (own : List (Str × Nat)) (r : Out (List O)) : Out Hd := match r with
  | .ok os ro => .ok (.tm (.lst os)) (unwipe ro0 own (wipeR own ro))
  | .exc x ro => .exc x (unwipe ro0 own (wipeR own ro))
  | .stuck => .stuck
def isNil : CE → Bool
  | .nil => true
  | _ => false
/-- a comprehension's own slots hold no owned tree -/
def quietOwn (ro : Ro) : List (Str × Nat) → Bool
  | [] => true
  | p :: ps => (match ro[p.2]? with
    | some none => true
    | some (some (.d _)) => true
    | _ => false) && quietOwn ro ps
/-- enumerate -/
def enumD (xs : List PyData) : List PyData := List.zipWith (fun (k : Nat) a => .tuple [.int (k : Int), a]) (List.range xs.length) xs
/-- zip -/
def zipD (xs ys : List PyData) : List PyData := List.zipWith (fun a b => .tuple [a, b]) xs ys
/-- tuple(range(i, j)), list(range(i, j)) -/
def rglO (t : Bool) (i j : Int) : Option Hd := if -(2 ^ 62) ≤ i ∧ i < 2 ^ 62 ∧ -(2 ^ 62) ≤ j ∧ j < 2 ^ 62 ∧ (j - i).toNat ≤ 2 ^ 24 then some (.tm (if t then .d (.tuple (rangeD i j)) else .lst ((rangeD i j).map .d))) else none
/-- what changes no owned tree -/
def qt : CE → Bool
  | .bin _ a b => qt a && qt b
  | .neg a => qt a
  | .not a => qt a
  | .and a b => qt a && qt b
  | .or a b => qt a && qt b
  | .one a => qt a
  | .cmp _ a b => qt a && qt b
  | .chain _ _ a b c => qt a && qt b && qt c
  | .ifx c a b => qt c && qt a && qt b
  | .tup as => qt as
  | .lst as => qt as
  | .idx a i => qt a && qt i
  | .slc a lo hi => qt a && qt lo && qt hi
  | .call _ as => qt as
  | .prim _ as => qt as
  | .isi a _ => qt a
  | .comp _ _ elt _ it ifs => qt elt && qt it && qt ifs
  | .seq e => qt e
  | .rng as => qt as
  | .enum as => qt as
  | .zip as => qt as
  | .cons a as => qt a && qt as
  | .mth _ _ _ => false
  | .attr _ a _ => qt a
  | .meth _ _ _ _ _ => false
  | .new _ _ _ => false
  | .share _ e => qt e
  | .rgl _ a b => qt a && qt b
  | .rev a => qt a
  | .sset a => qt a
  | .nox a => qt a
  | .dget a b => qt a && qt b
  | .done _ _ => false
  | .mv _ => false
  | .fr _ => false
  | .at_ a i => qt a && qt i
  | .dsort a => qt a
  | .din _ a b => qt a && qt b
  | _ => true
/-- a value within a tree may wait for quiet code alone -/
def okD (h : Hd) (b : CE) : Bool := !h.deep || qt b
mutual
def ev (G : GE) : CE → Ro → Out Hd
  | .var i, ro => match ro[i]? with
    | some (some _) => .ok (.sl i []) ro
    | _ => .stuck
  | .int n, ro => .ok (.tm (.d (.int n))) ro
  | .bl b, ro => .ok (.tm (.d (.bool b))) ro
  | .non, ro => .ok (.tm (.d .none)) ro
  | .str s, ro => .ok (.tm (.d (.str s))) ro
  | .glob x, ro => match G.glob x with
    | some d => .ok (.tm (.d d)) ro
    | none => .stuck
  | .bin op a b, ro => (ev G a ro).bind fun h1 ro => if okD h1 b then (ev G b ro).bind fun h2 ro => match h1.opd ro, h2.opd ro with
    | some x, some y => .ofOpt ((binO op x y).map .tm) ro
    | _, _ => .stuck
    else .stuck
  | .neg a, ro => (ev G a ro).bind fun h ro => match h.lookD ro with
    | some (.int i) => .ok (.tm (.d (.int (-i)))) ro
    | _ => .stuck
  | .not a, ro => (ev G a ro).bind fun h ro => match h.bool ro with
    | some b => .ok (.tm (.d (.bool (!b)))) ro
    | none => .stuck
  | .and a b, ro => (ev G a ro).bind fun h ro => match h.bool ro with
    | some true => ev G b ro
    | some false => .ok (.tm (.d (.bool false))) ro
    | none => .stuck
  | .or a b, ro => (ev G a ro).bind fun h ro => match h.bool ro with
    | some false => ev G b ro
    | some true => .ok (.tm (.d (.bool true))) ro
    | none => .stuck
  | .one a, ro => ev G a ro
  | .cmp op a b, ro => (ev G a ro).bind fun h1 ro => if okD h1 b then (ev G b ro).bind fun h2 ro => match h1.lookD ro, h2.lookD ro with
    | some x, some y => .ofOpt ((cmpD op x y).map fun b => .tm (.d (.bool b))) ro
    | _, _ => .stuck
    else .stuck
  | .chain o1 o2 a b c, ro => (ev G a ro).bind fun h1 ro => if okD h1 b then (ev G b ro).bind fun h2 ro => match h1.lookD ro, h2.lookD ro with
    | some x, some y => match cmpD o1 x y with
      | some true => if okD h2 c then (ev G c ro).bind fun h3 ro => match h2.lookD ro, h3.lookD ro with
        | some y, some z => .ofOpt ((cmpD o2 y z).map fun b => .tm (.d (.bool b))) ro
        | _, _ => .stuck
        else .stuck
      | some false => .ok (.tm (.d (.bool false))) ro
      | none => .stuck
    | _, _ => .stuck
    else .stuck
  | .ifx c a b, ro => (ev G c ro).bind fun h ro => match h.bool ro with
    | some true => ev G a ro
    | some false => ev G b ro
    | none => .stuck
  | .tup as, ro => (evs G as ro).bind fun hs ro => (escs hs ro).bind fun xs ro => if lenOk xs.length then .ok (.tm (.d (.tuple xs))) ro else .stuck
  | .lst as, ro => (evs G as ro).bind fun hs ro => (stos hs ro).bind fun os ro => if lenOk os.length then .ok (.tm (.lst os)) ro else .stuck
  | .idx a i, ro => (ev G a ro).bind fun h1 ro => if okD h1 i then (ev G i ro).bind fun h2 ro => match h1.lookF ro, h2.lookD ro with
    | some x, some y => .ofOpt ((idxD x y).map fun z => .tm (.d z)) ro
    | _, _ => .stuck
    else .stuck
  | .slc a lo hi, ro => (ev G a ro).bind fun h1 ro => if okD h1 lo && okD h1 hi then (evs G lo ro).bind fun l ro => match partD ro l with
    | some l => (evs G hi ro).bind fun u ro => match h1.look ro, partD ro u with
      | some x, some u => .ofOpt ((sliceO x l u).map .tm) ro
      | _, _ => .stuck
    | none => .stuck
    else .stuck
  | .call f as, ro => (evs G as ro).bind fun hs ro => (argsO hs ro).bind fun xs ro => match G.call f xs with
    | .ok o _ => .ok (.tm o) ro
    | .exc x _ => .exc x ro
    | .stuck => .stuck
  | .prim p as, ro => (evs G as ro).bind fun hs ro => match looksF ro hs with
    | some xs => .ofOpt ((primO p xs).map .tm) ro
    | none => .stuck
  | .isi a T, ro => (ev G a ro).bind fun h ro => match h.lookD ro with
    | some x => .ofOpt ((isiD T x).map fun b => .tm (.d (.bool b))) ro
    | none => .stuck
  | .comp q own elt tg it ifs, ro => (evI G (!q) it ro).bind fun xs ro0 =>
      if quietOwn ro0 own && (!q || (qt elt && qt ifs)) && lenOk xs.length then
        cEnd ro0 own (cLoop (fun x ro => match asgT tg x (wipeR own ro) with
          | some ro => (evB G ifs ro).bind fun b ro => if b then (ev G elt ro).bind fun h ro => (h.sto ro).bind fun o ro => .ok (some o) (wipeR own ro) else .ok none (wipeR own ro)
          | none => .stuck) xs ro0)
      else .stuck
  | .mth m o as, ro => (ev G o ro).bind fun h ro => match h with
    | .sl i p => if isLst (Hd.look ro (.sl i p)) && okD (.sl i p) as then (evs G as ro).bind fun hs ro => (stos hs ro).bind fun xs ro => mthR m i p xs ro else .stuck
    | _ => .stuck
  | .attr d a f, ro => (ev G a ro).bind fun h ro => atR d f h ro
  | .meth d m f o as, ro => (ev G o ro).bind fun h ro => if isIns d m (Hd.look ro h) && okD h as then (evs G as ro).bind fun hs ro => (argsO hs ro).bind fun xs ro => meR (G.call f) d m h xs ro else .stuck
  | .new d f as, ro => (evs G as ro).bind fun hs ro => (argsO hs ro).bind fun xs ro => match G.call f (.ins d [] [] :: xs) with
    | .ok (.d .none) (some (.ins c ns os) :: _) => if c = d then .ok (.tm (.ins c ns os)) ro else .stuck
    | _ => .stuck
  | .share i e, ro => match ro[i]? with
    | some (some o) => match o.toD with
      | some x => if qt e then (ev G e (ro.set i (some (.d x)))).fin fun h _ => match h with
        | .tm o => if flatO o then .ok (.tm o) ro else .stuck
        | _ => .stuck
        else .stuck
      | none => .stuck
    | _ => .stuck
  | .dnew, ro => .ok (.tm (.dct [] [])) ro
  | .fr i, ro => (Hd.esc (.sl i []) ro).bind fun _ ro => .ok (.sl i []) ro
  | .at_ a i, ro => (ev G a ro).bind fun h1 ro => if okD h1 i then (ev G i ro).bind fun h2 ro => itR h1 (h2.lookD ro) ro
    else .stuck
  | .mv i, ro => match ro[i]? with
    | some (some o) => .ok (.tm o) (ro.set i none)
    | _ => .stuck
  | .done a b, ro => (ev G a ro).bind fun h1 ro => if okD h1 b then (ev G b ro).bind fun h2 ro => match h1.look ro, h2.look ro with
    | some (.d x), some (.d y) => match keyT x with
      | some _ => .ok (.tm (.dct [x] [.d y])) ro
      | none => .stuck
    | _, _ => .stuck
    else .stuck
  | .dget d i, ro => (ev G d ro).bind fun h1 ro => if okD h1 i then (ev G i ro).bind fun h2 ro => match h1.look ro, h2.lookD ro with
    | some (.dct ks os), some x => match keyT x with
      | some k => match dGet ks os k with
        | some (.d y) => .ok (.tm (.d y)) ro
        | _ => .stuck
      | none => .stuck
    | _, _ => .stuck
    else .stuck
  | .din n i d, ro => (ev G i ro).bind fun h1 ro => if okD h1 d then (ev G d ro).bind fun h2 ro => match h1.lookD ro, h2.look ro with
    | some x, some (.dct ks os) => match keyT x with
      | some k => .ok (.tm (.d (.bool (xor n (dGet ks os k).isSome)))) ro
      | none => .stuck
    | _, _ => .stuck
    else .stuck
  | .dsort a, ro => (ev G a ro).bind fun h ro => match h.look ro with
    | some (.dct ks _) => .ofOpt ((sortD ks).map fun ys => .tm (.lst (ys.map .d))) ro
    | _ => .stuck
  | .sset a, ro => (ev G a ro).bind fun h ro => match h.lookF ro with
    | some (.list xs) => .ofOpt ((ssetD xs).map fun ys => .tm (.lst (ys.map .d))) ro
    | _ => .stuck
  | .bad, _ => .stuck
  | .nox a, ro => match ev G a ro with
    | .exc _ _ => .stuck
    | r => r
  | .rev a, ro => (ev G a ro).bind fun h ro => match h.lookF ro with
    | some (.tuple xs) => .ok (.tm (.d (.tuple xs.reverse))) ro
    | some (.list xs) => .ok (.tm (.lst (xs.reverse.map .d))) ro
    | _ => .stuck
  | .rgl t a b, ro => if isNil b then (ev G a ro).bind fun h1 ro => match h1.lookD ro with
      | some (.int n) => .ofOpt (rglO t 0 n) ro
      | _ => .stuck
    else (ev G a ro).bind fun h1 ro => if okD h1 b then (ev G b ro).bind fun h2 ro => match h1.lookD ro, h2.lookD ro with
      | some (.int i), some (.int j) => .ofOpt (rglO t i j) ro
      | _, _ => .stuck
      else .stuck
  | .nil, _ => .stuck
  | .cons _ _, _ => .stuck
  | .seq _, _ => .stuck
  | .rng _, _ => .stuck
  | .enum _, _ => .stuck
  | .zip _, _ => .stuck
def evs (G : GE) : CE → Ro → Out (List Hd)
  | .nil, ro => .ok [] ro
  | .cons a as, ro => (ev G a ro).bind fun h ro => if okD h as then (evs G as ro).bind fun hs ro => .ok (h :: hs) ro else .stuck
  | _, _ => .stuck
/-- the tests of a comprehension's clause: none, or one -/
def evB (G : GE) : CE → Ro → Out Bool
  | .nil, ro => .ok true ro
  | .cons a .nil, ro => (ev G a ro).bind fun h ro => .ofOpt (h.bool ro) ro
  | _, _ => .stuck
/-- what a loop walks; z: what is walked is frozen for good -/
def evI (G : GE) (z : Bool) : CE → Ro → Out (List PyData)
  | .rng as, ro => (evs G as ro).bind fun hs ro => match looksD ro hs with
    | some [.int n] => if -(2 ^ 62) ≤ n ∧ n < 2 ^ 62 then .ok (rangeD 0 n) ro else .stuck
    | some [.int m, .int n] => if -(2 ^ 62) ≤ m ∧ m < 2 ^ 62 ∧ -(2 ^ 62) ≤ n ∧ n < 2 ^ 62 then .ok (rangeD m n) ro else .stuck
    | _ => .stuck
  | .seq e, ro => (ev G e ro).bind fun h ro => if z then (h.esc ro).bind fun x ro => .ofOpt (itemsD x) ro else .ofOpt ((h.lookF ro).bind itemsD) ro
  | .enum as, ro => (evs G as ro).bind fun hs ro => (if z then escs hs ro else .ofOpt (looksF ro hs) ro).bind fun xs ro => match xs with
    | [x] => .ofOpt ((itemsD x).map enumD) ro
    | _ => .stuck
  | .zip as, ro => (evs G as ro).bind fun hs ro => (if z then escs hs ro else .ofOpt (looksF ro hs) ro).bind fun xs ro => match xs with
    | [x, y] => match itemsD x, itemsD y with
      | some xs, some ys => .ok (zipD xs ys) ro
      | _, _ => .stuck
    | _ => .stuck
  | _, _ => .stuck
end
end Lw
namespace Lw
open PySem L2
example : (match ev ⟨fun _ _ => .stuck, fun _ => none, 0, fun _ _ => none⟩ (.prim .sum (.cons (.comp true [("x", 1)] (.bin .Mult (.var 1) (.int 3)) (.var 1) (.rng (.cons (.int 5) .nil)) .nil) .nil)) [none, none] with | .ok (.tm (.d (.int i))) _ => i | _ => 0) = 30 := by decide +kernel
end Lw

set_option maxRecDepth 100000
/-! LwH: min, max of two data that are alike (to be hooked into minO, maxO and pr_min, pr_max). -/
namespace Lw
open PySem PySem.Spec PyProof.Rows PySem.W PySem.Calls
section
variable {prog : Program} {w : World} {A : Around} {E : Value → Shared → Prop} {s : Shared}
theorem min_two_data {a b : Value} {x y : PyData} {as : List Addr} {Q : Value → Shared → Prop} (hh : A.handled = none) (hr : ReadsAll s.heap [a, b] [x, y] as) (ha : AlikeAll [x, y]) (hu : A.units + 1 + PyData.depthAll [x, y] < cLine)
    (h : ∀ (i : Nat) v h' tk bs, [a, b][i]? = some v → Reads h' v (minD x [y]) bs → (∀ b o, s.heap.get? b = some o → h'.get? b = some o) → Q v { s with heap := h', toks := tk }) :
    wpAny (model prog w) A (call (.builtin "min") [a, b]) Q E s := by
  have hname : (toString "min" ++ toString ".loop" : String) = "min.loop" := by decide
  refine call_function_tree F.kind_min F.plain_min F.entry_min (F.args_min2 _ _) ?_
  show wpAny _ A.in1 (Builtin.Builtins.bindParams "min" ["key", "default"] 0 ⟨[], []⟩ >>= _) _ _ s
  refine wpAny_bind (wpAny_of_eq (show Builtin.Builtins.bindParams "min" ["key", "default"] 0 ⟨[], []⟩ = pure [none, none] from rfl) ?_)
  show wpAny _ A.in1 (newTuple [a, b] >>= _) _ _ s
  refine wpAny_bind (wpAny_newObj_type ?_)
  have hT : (s.heap.push { cls := .type "tuple", data := .seq #[a, b] }).IsTuple s.heap.objs.size #[a, b] := ⟨_, Heap.get?_push_size _ rfl, rfl, 0, rfl⟩
  have k1 : ∀ c o, s.heap.get? c = some o → (s.heap.push { cls := .type "tuple", data := .seq #[a, b] }).get? c = some o := fun c o e => Heap.get?_push_of_some _ e
  have hr1 : ReadsAll (s.heap.push { cls := .type "tuple", data := .seq #[a, b] }) (#[a, b] : Array Value).toList [x, y] as := PyProof.Rows.ReadsAll.keeps k1 hr
  refine wpAny_bind (iter_tupleW (A := A.in1) (s := { s with heap := s.heap.push { cls := .type "tuple", data := .seq #[a, b] } }) hh hT fun s₂ e W st hfp hw hk => ?_)
  refine wpAny_bind (wpAny_newObj_type ?_)
  have hSf : s₂.heap.objs.size ∉ _ := fun hm => Nat.lt_irrefl _ (hfp _ hm)
  rw [hname]
  refine wpAny_pure ⟨plainId_quiet F.plain_min_loop _, codeAny_min_loop_firstH W _ hw _ (cmpIn_lt (A := A.in1) hr1 ha (by show A.units + 1 + _ < _; exact hu)) s₂.heap.objs.size hSf (fresh_in hk) _ (show 0 < 2 from Nat.succ_pos 1) (fun c o e => Heap.get?_push_of_some _ (hk c o e))
    (W.frame 0 s₂ _ s₂.toks st (Nat.le_refl _) fun c _ o e => Heap.get?_push_of_some _ e) (Heap.get?_push_size _ rfl) fun v s' hP hm => ?_⟩
  obtain ⟨h', tk, rfl, hk'⟩ := moved_old e rfl (Moved.drop_new (tk := s₂.toks) hm (Nat.le_refl _))
  obtain ⟨bs, r, _, _, _⟩ := readsAll_atA hr1 _ v hP
  have e2 := (argBest_fold dataLt PyData.none x [y] 1 (Nat.le_refl _)).2
  refine h (argBest (fun i j => dataLt ([x, y].getD i .none) ([x, y].getD j .none)) 1) v h' tk bs (by rw [← hP, ← Array.getElem?_toList]; rfl) (reads_keeps hk' (by unfold minD; rw [show [y].take 1 = [y] from rfl] at e2; rw [← e2]; exact r)) fun c o e => hk' c o (k1 c o e)
theorem max_two_data {a b : Value} {x y : PyData} {as : List Addr} {Q : Value → Shared → Prop} (hh : A.handled = none) (hr : ReadsAll s.heap [a, b] [x, y] as) (ha : AlikeAll [x, y]) (hu : A.units + 1 + PyData.depthAll [x, y] < cLine)
    (h : ∀ (i : Nat) v h' tk bs, [a, b][i]? = some v → Reads h' v (maxD x [y]) bs → (∀ b o, s.heap.get? b = some o → h'.get? b = some o) → Q v { s with heap := h', toks := tk }) :
    wpAny (model prog w) A (call (.builtin "max") [a, b]) Q E s := by
  have hname : (toString "max" ++ toString ".loop" : String) = "max.loop" := by decide
  refine call_function_tree F.kind_max F.plain_max F.entry_max (F.args_max2 _ _) ?_
  show wpAny _ A.in1 (Builtin.Builtins.bindParams "max" ["key", "default"] 0 ⟨[], []⟩ >>= _) _ _ s
  refine wpAny_bind (wpAny_of_eq (show Builtin.Builtins.bindParams "max" ["key", "default"] 0 ⟨[], []⟩ = pure [none, none] from rfl) ?_)
  show wpAny _ A.in1 (newTuple [a, b] >>= _) _ _ s
  refine wpAny_bind (wpAny_newObj_type ?_)
  have hT : (s.heap.push { cls := .type "tuple", data := .seq #[a, b] }).IsTuple s.heap.objs.size #[a, b] := ⟨_, Heap.get?_push_size _ rfl, rfl, 0, rfl⟩
  have k1 : ∀ c o, s.heap.get? c = some o → (s.heap.push { cls := .type "tuple", data := .seq #[a, b] }).get? c = some o := fun c o e => Heap.get?_push_of_some _ e
  have hr1 : ReadsAll (s.heap.push { cls := .type "tuple", data := .seq #[a, b] }) (#[a, b] : Array Value).toList [x, y] as := PyProof.Rows.ReadsAll.keeps k1 hr
  refine wpAny_bind (iter_tupleW (A := A.in1) (s := { s with heap := s.heap.push { cls := .type "tuple", data := .seq #[a, b] } }) hh hT fun s₂ e W st hfp hw hk => ?_)
  refine wpAny_bind (wpAny_newObj_type ?_)
  have hSf : s₂.heap.objs.size ∉ _ := fun hm => Nat.lt_irrefl _ (hfp _ hm)
  rw [hname]
  refine wpAny_pure ⟨plainId_quiet F.plain_max_loop _, codeAny_max_loop_firstH W _ hw _ (cmpIn_gt (A := A.in1) hr1 ha (by show A.units + 1 + _ < _; exact hu)) s₂.heap.objs.size hSf (fresh_in hk) _ (show 0 < 2 from Nat.succ_pos 1) (fun c o e => Heap.get?_push_of_some _ (hk c o e))
    (W.frame 0 s₂ _ s₂.toks st (Nat.le_refl _) fun c _ o e => Heap.get?_push_of_some _ e) (Heap.get?_push_size _ rfl) fun v s' hP hm => ?_⟩
  obtain ⟨h', tk, rfl, hk'⟩ := moved_old e rfl (Moved.drop_new (tk := s₂.toks) hm (Nat.le_refl _))
  obtain ⟨bs, r, _, _, _⟩ := readsAll_atA hr1 _ v hP
  have e2 := (argBest_fold (fun a b => dataLt b a) PyData.none x [y] 1 (Nat.le_refl _)).2
  refine h (argBest (fun i j => dataLt ([x, y].getD j .none) ([x, y].getD i .none)) 1) v h' tk bs (by rw [← hP, ← Array.getElem?_toList]; rfl) (reads_keeps hk' (by unfold maxD; rw [show [y].take 1 = [y] from rfl] at e2; rw [← e2]; exact r)) fun c o e => hk' c o (k1 c o e)
end
end Lw

set_option maxRecDepth 100000
/-! Lw3: what the operations of the model do with data that stand in a heap. -/
namespace Lw
open PySem L2

/-- data whose items are frozen in F; a list itself stands in H -/
def FV (K : PySem.W.Frag) (F H : Hp) (v : V) : PyData → Prop
  | .list xs => ∃ p vs, v = .ref p ∧ H p = some (.lst vs) ∧ DqAll K F vs xs
  | x => Dq K F v x
/-- a result: a scalar, an old tuple, a new tuple, a new list -/
def Res (K : PySem.W.Frag) (F H : Hp) : O → V → Hp → Prop
  | .d (.tuple xs), v, H' => (H' = H ∧ Dq K F v (.tuple xs)) ∨ ∃ p vs, v = .ref p ∧ H p = none ∧ H' = upd H p (.tup vs) ∧ DqAll K F vs xs
  | .d x, v, H' => H' = H ∧ Dq K F v x
  | .lst os, v, H' => ∃ p vs xs, os = xs.map O.d ∧ v = .ref p ∧ H p = none ∧ H' = upd H p (.lst vs) ∧ DqAll K F vs xs
  | _, _, _ => False
section
variable {K : PySem.W.Frag} {F H : Hp}
theorem FV.dq {v : V} {x : PyData} (s : Sub F H) (h : FV K F H v x) : Dq K H v x := by
  cases x with
  | list xs =>
    obtain ⟨p, vs, rfl, h1, h2⟩ := h
    exact .lst h1 (Dq.monoAll s _ _ h2)
  | none => exact Dq.mono s _ _ h
  | bool b => exact Dq.mono s _ _ h
  | int b => exact Dq.mono s _ _ h
  | str b => exact Dq.mono s _ _ h
  | tuple b => exact Dq.mono s _ _ h
  | dict b => exact Dq.mono s _ _ h
theorem Dq.fv {v : V} {x : PyData} (s : Sub F H) (h : Dq K F v x) : FV K F H v x := by
  cases x with
  | list xs =>
    cases h with
    | lst h1 h2 => exact ⟨_, _, rfl, s _ _ h1, h2⟩
  | none => exact h
  | bool b => exact h
  | int b => exact h
  | str b => exact h
  | tuple b => exact h
  | dict b => exact h
theorem Dq.int_eq {v : V} {i : Int} (h : Dq K F v (.int i)) : v = .int i := by cases h; rfl
theorem Dq.bool_eq {v : V} {i : Bool} (h : Dq K F v (.bool i)) : v = .bl i := by cases h; rfl
theorem Dq.str_eq {v : V} {i : Str} (h : Dq K F v (.str i)) : v = .str i := by cases h; rfl
theorem Dq.non_eq {v : V} (h : Dq K F v .none) : v = .non := by cases h; rfl
theorem Dq.tup_eq {v : V} {xs : List PyData} (h : Dq K F v (.tuple xs)) : ∃ a vs, v = .ref a ∧ SqT K F a vs ∧ DqAll K F vs xs := by
  cases h with
  | tup h1 h2 => exact ⟨_, _, rfl, h1, h2⟩
theorem Dq.lst_eq {v : V} {xs : List PyData} (h : Dq K F v (.list xs)) : ∃ a vs, v = .ref a ∧ F a = some (.lst vs) ∧ DqAll K F vs xs := by
  cases h with
  | lst h1 h2 => exact ⟨_, _, rfl, h1, h2⟩
theorem DqAll.ints : ∀ {vs : List V} {xs : List PyData} {is : List Int}, DqAll K F vs xs → intsD xs = some is → vs = is.map V.int
  | _, _, _, .nil, e => by rw [intsD] at e; cases e; rfl
  | _, _, is, .cons (d := d) (ds := ds) h t, e => by
    cases d with
    | int i =>
      rw [intsD] at e
      cases q : intsD ds with
      | none => rw [q] at e; cases e
      | some js =>
        rw [q] at e
        cases e
        rw [h.int_eq, DqAll.ints t q]
        rfl
    | none => rw [intsD] at e; cases e; intro i z; cases z
    | bool _ => rw [intsD] at e; cases e; intro i z; cases z
    | str _ => rw [intsD] at e; cases e; intro i z; cases z
    | list _ => rw [intsD] at e; cases e; intro i z; cases z
    | tuple _ => rw [intsD] at e; cases e; intro i z; cases z
    | dict _ => rw [intsD] at e; cases e; intro i z; cases z
theorem DqAll.bools : ∀ {vs : List V} {xs : List PyData} {is : List Bool}, DqAll K F vs xs → boolsD xs = some is → vs = is.map V.bl
  | _, _, _, .nil, e => by rw [boolsD] at e; cases e; rfl
  | _, _, is, .cons (d := d) (ds := ds) h t, e => by
    cases d with
    | bool i =>
      rw [boolsD] at e
      cases q : boolsD ds with
      | none => rw [q] at e; cases e
      | some js =>
        rw [q] at e
        cases e
        rw [h.bool_eq, DqAll.bools t q]
        rfl
    | none => rw [boolsD] at e; cases e; intro i z; cases z
    | int _ => rw [boolsD] at e; cases e; intro i z; cases z
    | str _ => rw [boolsD] at e; cases e; intro i z; cases z
    | list _ => rw [boolsD] at e; cases e; intro i z; cases z
    | tuple _ => rw [boolsD] at e; cases e; intro i z; cases z
    | dict _ => rw [boolsD] at e; cases e; intro i z; cases z
end

theorem lenOk_le {n : Nat} (h : lenOk n = true) : n ≤ sizeLine := by
  rw [sizeLine_eq]; exact of_decide_eq_true h

section
variable {X : Cx}
/-! ### operators -/
def rBin (K : PySem.W.Frag) (op : Operator) : R2 := fun x y H Q => ∃ F d e o, Sub F H ∧ FV K F H x d ∧ FV K F H y e ∧ binO op d e = some o ∧ ∀ v H', Res K F H o v H' → Q v H'
theorem op_bin (op : Operator) : OpR X (binaryOp op) (rBin X.K op) := by
  intro pins s σ H x y v u Q I rx ry h
  obtain ⟨F, d, e, o, hs, hx, hy, ho, q⟩ := h
  unfold binO at ho
  split at ho
  · -- int + int
    cases ho
    obtain rfl := Dq.int_eq hx
    obtain rfl := Dq.int_eq hy
    exact op_add pins s σ H _ _ v u Q I rx ry ⟨_, _, rfl, rfl, q _ _ ⟨rfl, .int _⟩⟩
  · cases ho
    obtain rfl := Dq.int_eq hx
    obtain rfl := Dq.int_eq hy
    exact op_sub pins s σ H _ _ v u Q I rx ry ⟨_, _, rfl, rfl, q _ _ ⟨rfl, .int _⟩⟩
  · cases ho
    cases hx
    cases hy
    cases rx
    cases ry
    exact PyProof.Rows.sub_bool ⟨.int _, H, I.tok _, ⟨_, rfl⟩, q _ _ ⟨rfl, .int _⟩⟩
  · split at ho
    · rename_i hm
      cases ho
      obtain rfl := Dq.int_eq hx
      obtain rfl := Dq.int_eq hy
      exact op_mulW pins s σ H _ _ v u Q I rx ry ⟨_, _, rfl, rfl, (by unfold CMulW; exact of_decide_eq_true hm), q _ _ ⟨rfl, .int _⟩⟩
    · cases ho
  · split at ho
    · rename_i hm
      cases ho
      obtain rfl := Dq.int_eq hx
      obtain rfl := Dq.int_eq hy
      exact op_fdivW pins s σ H _ _ v u Q I rx ry ⟨_, _, rfl, rfl, hm, q _ _ ⟨rfl, .int _⟩⟩
    · cases ho
  · split at ho
    · rename_i hm
      cases ho
      obtain rfl := Dq.int_eq hx
      obtain rfl := Dq.int_eq hy
      exact op_mod pins s σ H _ _ v u Q I rx ry ⟨_, _, rfl, rfl, hm, q _ _ ⟨rfl, .int _⟩⟩
    · cases ho
  · split at ho
    · rename_i hm
      cases ho
      obtain rfl := Dq.int_eq hx
      obtain rfl := Dq.int_eq hy
      exact op_pow pins s σ H _ _ v u Q I rx ry ⟨_, _, rfl, rfl, hm, q _ _ ⟨rfl, .int _⟩⟩
    · cases ho
  · -- tuple + tuple
    split at ho
    · rename_i xs ys hm
      cases ho
      obtain ⟨a, vs, rfl, h1, h2⟩ := Dq.tup_eq hx
      obtain ⟨b, ws, rfl, h3, h4⟩ := Dq.tup_eq hy
      refine op_catA pins s σ H _ _ v u Q I rx ry ⟨_, _, _, _, rfl, rfl, hs.sqT h1, hs.sqT h3, by rw [h2.len, h4.len]; exact lenOk_le hm, fun e => ?_, fun n e => ?_, fun n m p hp => ?_⟩
      · subst e
        cases h2
        exact q _ _ (.inl ⟨rfl, hy⟩)
      · subst e
        cases h4
        refine q _ _ (.inl ⟨rfl, ?_⟩)
        rw [List.append_nil]
        exact hx
      · exact q _ _ (.inr ⟨p, _, rfl, hp, rfl, h2.append h4⟩)
    · cases ho
  · -- list + list
    split at ho
    · rename_i xs ys hm
      cases ho
      obtain ⟨a, vs, rfl, h1, h2⟩ := hx
      obtain ⟨b, ws, rfl, h3, h4⟩ := hy
      exact op_cat pins s σ H _ _ v u Q I rx ry ⟨_, _, _, _, rfl, rfl, h1, h3, by rw [h2.len, h4.len]; exact lenOk_le hm, fun p hp => q _ _ ⟨p, _, _, rfl, rfl, hp, rfl, h2.append h4⟩⟩
    · cases ho
  · -- list * int
    split at ho
    · rename_i xs n hm
      cases ho
      obtain ⟨a, vs, rfl, h1, h2⟩ := hx
      obtain rfl := Dq.int_eq hy
      obtain ⟨m1, m2, m3⟩ := hm
      exact op_rep pins s σ H _ _ v u Q I rx ry ⟨_, _, _, rfl, rfl, h1, by omega, by omega, by rw [h2.len]; exact lenOk_le m3, fun p hp => q _ _ ⟨p, _, _, rfl, rfl, hp, rfl, h2.flat _⟩⟩
    · cases ho
  · -- tuple * int
    split at ho
    · rename_i xs n hm
      cases ho
      obtain ⟨a, vs, rfl, h1, h2⟩ := Dq.tup_eq hx
      obtain rfl := Dq.int_eq hy
      obtain ⟨m1, m2, m3, m4⟩ := hm
      refine op_repT pins s σ H _ _ v u Q I rx ry ⟨_, _, _, rfl, rfl, hs.sqT h1, ?_, m1, m2, by rw [h2.len]; exact m3, fun p hp => q _ _ (.inr ⟨p, _, rfl, hp, rfl, h2.flat _⟩)⟩
      intro e
      subst e
      cases h2
      exact m4 rfl
    · cases ho
  · cases ho

/-! ### comparisons -/
theorem of_map_some {α β : Type} {f : α → β} {o : Option α} {b : β} (h : o.map f = some b) : ∃ a, o = some a ∧ f a = b := by
  cases o with
  | none => cases h
  | some a => exact ⟨a, rfl, Option.some.inj h⟩
def rCmp (K : PySem.W.Frag) (op : CmpOp) : R2 := fun x y H Q => ∃ d e b, Dq K H x d ∧ Dq K H y e ∧ cmpD op d e = some b ∧ Q (.bl b) H
section
variable {pins : List (Addr × Obj)} {s : Shared} {σ : St} {H : Hp} {x y : V} {v u : Value} {Q : VK} {d e : PyData} {b : Bool}
theorem eq_run (hu : X.A.units + 65 < cLine) (I : Inv X pins σ H s) (rx : RelV x v) (ry : RelV y u) (hx : Dq X.K H x d) (hy : Dq X.K H y e) (h : eqD d e = some b) (q : Q (.bl b) H) : wpAny (model X.prog X.w) X.A (compareOp .Eq v u) (EP X pins σ Q) X.xe s := by
  unfold eqD at h
  split at h
  · cases h
    obtain rfl := Dq.int_eq hx
    obtain rfl := Dq.int_eq hy
    refine op_eq pins s σ H _ _ v u Q I rx ry ⟨rfl, ?_⟩
    rw [dec_int, ← Bool.beq_eq_decide_eq] at *
    exact q
  · cases h
    obtain rfl := Dq.str_eq hx
    obtain rfl := Dq.str_eq hy
    refine op_eq pins s σ H _ _ v u Q I rx ry ⟨rfl, ?_⟩
    rw [dec_str, Bool.beq_eq_decide_eq]
    exact q
  · split at h
    · rename_i hs
      cases h
      rw [Bool.and_eq_true] at hs
      exact op_eqD (by omega) pins s σ H _ _ v u Q I rx ry ⟨_, _, hx.dp _ _, hy.dp _ _, hs.1, hs.2, q⟩
    · cases h
theorem ne_run (hu : X.A.units + 65 < cLine) (I : Inv X pins σ H s) (rx : RelV x v) (ry : RelV y u) (hx : Dq X.K H x d) (hy : Dq X.K H y e) (h : eqD d e = some b) (q : Q (.bl (!b)) H) : wpAny (model X.prog X.w) X.A (compareOp .NotEq v u) (EP X pins σ Q) X.xe s := by
  unfold eqD at h
  split at h
  · cases h
    obtain rfl := Dq.int_eq hx
    obtain rfl := Dq.int_eq hy
    refine op_ne pins s σ H _ _ v u Q I rx ry ⟨rfl, ?_⟩
    rw [dec_int, Bool.beq_eq_decide_eq]
    exact q
  · cases h
    obtain rfl := Dq.str_eq hx
    obtain rfl := Dq.str_eq hy
    refine op_ne pins s σ H _ _ v u Q I rx ry ⟨rfl, ?_⟩
    rw [dec_str, Bool.beq_eq_decide_eq]
    exact q
  · split at h
    · rename_i hs
      cases h
      rw [Bool.and_eq_true] at hs
      exact op_neD (by omega) pins s σ H _ _ v u Q I rx ry ⟨_, _, hx.dp _ _, hy.dp _ _, hs.1, hs.2, q⟩
    · cases h
theorem reads_of (I : Inv X pins σ H s) (rx : RelV x v) (hx : Dq X.K H x d) : ∃ as, Reads s.heap v d as := Dp.reads I d x v (hx.dp _ _) rx
theorem ordOk_of (h : ordOk d e = true) : PySem.W.alike d e = true ∧ d ≠ .none ∧ d.depth ≤ 60 := by
  unfold ordOk at h
  rw [Bool.and_eq_true, Bool.and_eq_true] at h
  refine ⟨h.1.1, ?_, of_decide_eq_true h.2⟩
  rintro rfl
  cases h.1.2
theorem min_depth {a b c : Nat} (h : a ≤ 60) (hu : c + 65 < cLine) : c + min a b < cLine := by
  have := Nat.min_le_left a b
  omega
theorem lt_run (hu : X.A.units + 65 < cLine) (I : Inv X pins σ H s) (rx : RelV x v) (ry : RelV y u) (hx : Dq X.K H x d) (hy : Dq X.K H y e) (h : ltD d e = some b) (q : Q (.bl b) H) : wpAny (model X.prog X.w) X.A (compareOp .Lt v u) (EP X pins σ Q) X.xe s := by
  unfold ltD at h
  split at h
  · cases h
    obtain rfl := Dq.int_eq hx
    obtain rfl := Dq.int_eq hy
    exact op_lt pins s σ H _ _ v u Q I rx ry ⟨_, _, rfl, rfl, q⟩
  · split at h
    · rename_i hs
      cases h
      obtain ⟨h1, h2, h3⟩ := ordOk_of hs
      obtain ⟨as, ra⟩ := reads_of I rx hx
      obtain ⟨bs, rb⟩ := reads_of I ry hy
      exact PySem.W.lt_data ra rb h1 h2 (min_depth h3 hu) ⟨.bl _, H, I, rfl, q⟩
    · cases h
theorem le_run (hu : X.A.units + 65 < cLine) (I : Inv X pins σ H s) (rx : RelV x v) (ry : RelV y u) (hx : Dq X.K H x d) (hy : Dq X.K H y e) (h : leD d e = some b) (q : Q (.bl b) H) : wpAny (model X.prog X.w) X.A (compareOp .LtE v u) (EP X pins σ Q) X.xe s := by
  unfold leD at h
  split at h
  · cases h
    obtain rfl := Dq.int_eq hx
    obtain rfl := Dq.int_eq hy
    exact op_le pins s σ H _ _ v u Q I rx ry ⟨_, _, rfl, rfl, q⟩
  · split at h
    · rename_i hs
      cases h
      obtain ⟨h1, h2, h3⟩ := ordOk_of hs
      obtain ⟨as, ra⟩ := reads_of I rx hx
      obtain ⟨bs, rb⟩ := reads_of I ry hy
      exact PySem.W.le_data ra rb h1 h2 (min_depth h3 hu) ⟨.bl _, H, I, rfl, q⟩
    · cases h
theorem gt_run (hu : X.A.units + 65 < cLine) (I : Inv X pins σ H s) (rx : RelV x v) (ry : RelV y u) (hx : Dq X.K H x d) (hy : Dq X.K H y e) (h : gtD d e = some b) (q : Q (.bl b) H) : wpAny (model X.prog X.w) X.A (compareOp .Gt v u) (EP X pins σ Q) X.xe s := by
  unfold gtD at h
  split at h
  · cases h
    obtain rfl := Dq.int_eq hx
    obtain rfl := Dq.int_eq hy
    exact op_gt pins s σ H _ _ v u Q I rx ry ⟨_, _, rfl, rfl, q⟩
  · split at h
    · rename_i hs
      cases h
      obtain ⟨h1, h2, h3⟩ := ordOk_of hs
      obtain ⟨as, ra⟩ := reads_of I rx hx
      obtain ⟨bs, rb⟩ := reads_of I ry hy
      exact PySem.W.gt_data ra rb h1 h2 (min_depth h3 hu) ⟨.bl _, H, I, rfl, q⟩
    · cases h
theorem ge_run (hu : X.A.units + 65 < cLine) (I : Inv X pins σ H s) (rx : RelV x v) (ry : RelV y u) (hx : Dq X.K H x d) (hy : Dq X.K H y e) (h : geD d e = some b) (q : Q (.bl b) H) : wpAny (model X.prog X.w) X.A (compareOp .GtE v u) (EP X pins σ Q) X.xe s := by
  unfold geD at h
  split at h
  · cases h
    obtain rfl := Dq.int_eq hx
    obtain rfl := Dq.int_eq hy
    exact op_ge pins s σ H _ _ v u Q I rx ry ⟨_, _, rfl, rfl, q⟩
  · split at h
    · rename_i hs
      cases h
      obtain ⟨h1, h2, h3⟩ := ordOk_of hs
      obtain ⟨as, ra⟩ := reads_of I rx hx
      obtain ⟨bs, rb⟩ := reads_of I ry hy
      exact PySem.W.ge_data ra rb h1 h2 (min_depth h3 hu) ⟨.bl _, H, I, rfl, q⟩
    · cases h
theorem in_run (hu : X.A.units + 65 < cLine) (I : Inv X pins σ H s) (rx : RelV x v) (ry : RelV y u) (hx : Dq X.K H x d) (hy : Dq X.K H y e) (h : inD d e = some b) (q : Q (.bl b) H) : wpAny (model X.prog X.w) X.A (compareOp .In v u) (EP X pins σ Q) X.xe s := by
  obtain ⟨as, ra⟩ := reads_of I rx hx
  obtain ⟨bs, rb⟩ := reads_of I ry hy
  unfold inD at h
  split at h
  · split at h
    · rename_i hs
      cases h
      rw [Bool.and_eq_true] at hs
      exact SeqAt.in_list_reads rb ra (SeqAt.canLay_of_shaped hs.2) (SeqAt.canLay_of_shaped hs.1) (PyProof.Rows.room_in_shaped hs.1 hu) ⟨.bl _, H, I, rfl, q⟩
    · cases h
  · split at h
    · rename_i hs
      cases h
      rw [Bool.and_eq_true] at hs
      exact SeqAt.in_tuple_reads rb ra (SeqAt.canLay_of_shaped hs.2) (SeqAt.canLay_of_shaped hs.1) (PyProof.Rows.room_in_shaped hs.1 hu) ⟨.bl _, H, I, rfl, q⟩
    · cases h
  · cases h
theorem notIn_run (hu : X.A.units + 65 < cLine) (I : Inv X pins σ H s) (rx : RelV x v) (ry : RelV y u) (hx : Dq X.K H x d) (hy : Dq X.K H y e) (h : inD d e = some b) (q : Q (.bl (!b)) H) : wpAny (model X.prog X.w) X.A (compareOp .NotIn v u) (EP X pins σ Q) X.xe s := by
  obtain ⟨as, ra⟩ := reads_of I rx hx
  obtain ⟨bs, rb⟩ := reads_of I ry hy
  unfold inD at h
  split at h
  · split at h
    · rename_i hs
      cases h
      rw [Bool.and_eq_true] at hs
      exact SeqAt.notIn_list_reads rb ra (SeqAt.canLay_of_shaped hs.2) (SeqAt.canLay_of_shaped hs.1) (PyProof.Rows.room_in_shaped hs.1 hu) ⟨.bl _, H, I, rfl, q⟩
    · cases h
  · split at h
    · rename_i hs
      cases h
      rw [Bool.and_eq_true] at hs
      exact SeqAt.notIn_tuple_reads rb ra (SeqAt.canLay_of_shaped hs.2) (SeqAt.canLay_of_shaped hs.1) (PyProof.Rows.room_in_shaped hs.1 hu) ⟨.bl _, H, I, rfl, q⟩
    · cases h
  · cases h
theorem non_of (h : Dq X.K H x d) : decide (x = V.non) = !notNone d := by
  cases h <;> rfl
theorem depth_item : ∀ {xs : List PyData} {x : PyData}, x ∈ xs → x.depth ≤ PyData.depthAll xs
  | y :: xs, x, h => by
    rw [PyData.depthAll]
    rcases List.mem_cons.mp h with rfl | h
    · exact Nat.le_max_left _ _
    · exact Nat.le_trans (depth_item h) (Nat.le_max_right _ _)
end
theorem op_isB {X : Cx} : OpR X (compareOp .Is) (fun x y H Q => ∃ b, y = .bl b ∧ Q (.bl (decide (x = .bl b))) H) := by
  intro pins s σ H x y v u Q I rx ry h
  obtain ⟨b, rfl, q⟩ := h
  cases ry
  cases x <;> first
    | (cases rx; exact wpAny_is_plain rfl ⟨_, H, I, by rfl, q⟩)
    | (obtain ⟨t, rfl⟩ := rx; exact wpAny_is_plain rfl ⟨_, H, I, by rfl, q⟩)
    | (cases rx; rename_i b'; cases b' <;> cases b <;> exact wpAny_is_plain rfl ⟨_, H, I, by rfl, q⟩)
theorem op_isNotB {X : Cx} : OpR X (compareOp .IsNot) (fun x y H Q => ∃ b, y = .bl b ∧ Q (.bl (!decide (x = .bl b))) H) := by
  intro pins s σ H x y v u Q I rx ry h
  obtain ⟨b, rfl, q⟩ := h
  cases ry
  cases x <;> first
    | (cases rx; exact wpAny_isNot_plain rfl ⟨_, H, I, by rfl, q⟩)
    | (obtain ⟨t, rfl⟩ := rx; exact wpAny_isNot_plain rfl ⟨_, H, I, by rfl, q⟩)
    | (cases rx; rename_i b'; cases b' <;> cases b <;> exact wpAny_isNot_plain rfl ⟨_, H, I, by rfl, q⟩)
theorem bool_of {K : PySem.W.Frag} {H : Hp} {x : V} {d : PyData} {b : Bool} (h : Dq K H x d) : decide (x = V.bl b) = isB b d := by
  cases h <;> first | (simp [isB]; done) | (rename_i b'; cases b' <;> cases b <;> rfl)
theorem op_cmp (hu : X.A.units + 65 < cLine) (op : CmpOp) : OpR X (compareOp op) (rCmp X.K op) := by
  intro pins s σ H x y v u Q I rx ry h
  obtain ⟨d, e, b, hx, hy, h, q⟩ := h
  unfold cmpD at h
  split at h
  · exact eq_run hu I rx ry hx hy h q
  · obtain ⟨c, h1, rfl⟩ := of_map_some h
    exact ne_run hu I rx ry hx hy h1 q
  · exact lt_run hu I rx ry hx hy h q
  · exact le_run hu I rx ry hx hy h q
  · exact gt_run hu I rx ry hx hy h q
  · exact ge_run hu I rx ry hx hy h q
  · exact in_run hu I rx ry hx hy h q
  · obtain ⟨c, h1, rfl⟩ := of_map_some h
    exact notIn_run hu I rx ry hx hy h1 q
  · cases h
    obtain rfl := Dq.non_eq hy
    refine op_isN pins s σ H _ _ v u Q I rx ry ⟨rfl, ?_⟩
    rw [non_of hx]
    exact q
  · cases h
    obtain rfl := Dq.non_eq hy
    refine op_notN pins s σ H _ _ v u Q I rx ry ⟨rfl, ?_⟩
    rw [non_of hx, Bool.not_not]
    exact q
  · cases h
    cases hy
    refine op_isB pins s σ H _ _ v u Q I rx ry ⟨_, rfl, ?_⟩
    rw [bool_of hx]
    exact q
  · cases h
    cases hy
    refine op_isNotB pins s σ H _ _ v u Q I rx ry ⟨_, rfl, ?_⟩
    rw [bool_of hx]
    exact q
  · cases h
/-! ### places and slices -/
def rIdx (K : PySem.W.Frag) : R2 := fun x y H Q => ∃ F d e z, Sub F H ∧ FV K F H x d ∧ Dq K H y e ∧ idxD d e = some z ∧ ∀ v, Dq K F v z → Q v H
theorem atI_of {xs : List PyData} {vs : List V} {K : PySem.W.Frag} {F : Hp} {i : Int} {z : PyData} (h : DqAll K F vs xs) (e : ((ixD xs.length i).bind fun k => xs[k]?) = some z) : ∃ v, atI vs i = some v ∧ Dq K F v z := by
  cases q : ixD xs.length i with
  | none => rw [q] at e; cases e
  | some k =>
    rw [q] at e
    obtain ⟨v, h1, h2⟩ := h.getD e
    refine ⟨v, ?_, h2⟩
    unfold atI
    have e2 : ixN vs.length i = ixD xs.length i := by rw [h.len]; rfl
    rw [e2, q]
    exact h1
theorem ix_idx : IxR X (rIdx X.K) := by
  intro value slice pins s σ H x y v u Q I rx ry h hs
  obtain ⟨F, d, e, z, hf, hx, hy, h, q⟩ := h
  unfold idxD at h
  split at h
  · obtain ⟨a, vs, rfl, h1, h2⟩ := Dq.tup_eq hx
    obtain rfl := Dq.int_eq hy
    obtain ⟨w, e1, e2⟩ := atI_of h2 h
    exact ix_tup value slice pins s σ H _ _ v u Q I rx ry ⟨_, _, _, w, rfl, rfl, hf.sqT h1, e1, q _ e2⟩ hs
  · obtain ⟨a, vs, rfl, h1, h2⟩ := hx
    obtain rfl := Dq.int_eq hy
    obtain ⟨w, e1, e2⟩ := atI_of h2 h
    exact ix_list value slice pins s σ H _ _ v u Q I rx ry ⟨_, _, _, w, rfl, rfl, SqL.of h1, e1, q _ e2⟩ hs
  · cases h
theorem cutD_eq (n d : Nat) (o : Option Int) : cutD n d o = HT.sIx n d o := by
  cases o with
  | none => rfl
  | some v => rfl
theorem sliceD_eq {K : PySem.W.Frag} {F : Hp} {vs : List V} {xs : List PyData} (h : DqAll K F vs xs) (lo hi : Option Int) : DqAll K F (cutV vs lo hi) (sliceD xs lo hi) := by
  unfold cutV sliceD
  rw [cutD_eq, cutD_eq, h.len]
  exact (h.drop _).take _
/-! ### items that are frozen -/
section
variable {K : PySem.W.Frag} {cl : ClW} {F H : Hp}
theorem ORs.flats : ∀ {os : List O} {vs : List V} {A : AS} {xs : List PyData}, ORs K cl F H os vs A → O.flats os = some xs → DqAll K F vs xs
  | _, _, _, _, .nil, e => by rw [O.flats] at e; cases e; exact .nil
  | _, _, _, _, .cons (o := o) (os := os) h t n, e => by
    cases o with
    | d x =>
      rw [O.flats] at e
      cases q : O.flats os with
      | none => rw [q] at e; cases e
      | some ys =>
        rw [q] at e
        cases e
        cases h with
        | d h => exact .cons h (ORs.flats t q)
    | lst _ => rw [O.flats] at e; cases e; intro x z; cases z
    | dct _ _ => rw [O.flats] at e; cases e; intro x z; cases z
    | ins _ _ _ => rw [O.flats] at e; cases e; intro x z; cases z
    | scr _ => rw [O.flats] at e; cases e; intro x z; cases z
theorem OR.fv {o : O} {v : V} {A : AS} {x : PyData} (s : Sub F H) (h : OR K cl F H o v A) (e : o.flat = some x) : FV K F H v x := by
  cases h with
  | d h => rw [O.flat] at e; cases e; exact h.fv s
  | lst h1 h2 h3 h4 =>
    rename_i os _
    rw [O.flat] at e
    cases q : O.flats os with
    | none => rw [q] at e; cases e
    | some ys =>
      rw [q] at e
      cases e
      exact ⟨_, _, rfl, h1, h2.flats q⟩
  | scr h => rw [O.flat] at e; cases e; (intro x z; cases z); (intro x z; cases z)
  | dct _ _ _ _ _ => rw [O.flat] at e; cases e; (intro x z; cases z); (intro x z; cases z)
  | ins _ _ _ _ _ => rw [O.flat] at e; cases e; (intro x z; cases z); (intro x z; cases z)
theorem DqAll.ofInts : ∀ ns : List Int, DqAll K F (ns.map V.int) (ns.map PyData.int)
  | [] => .nil
  | n :: ns => .cons (.int n) (DqAll.ofInts ns)
end
def rSlc (K : PySem.W.Frag) : V → Option Int → Option Int → Hp → VK → Prop := fun x lo hi H Q => ∃ F cl A o r, Sub F H ∧ OR K cl F H o x A ∧ sliceO o lo hi = some r ∧ ∀ v H', Res K F H r v H' → Q v H'
theorem sl_slc : SlR X (rSlc X.K) := by
  intro pins s σ H x v vl vu lo hi sl Q I rx hs pl pu h
  obtain ⟨F, cl, A, o, r, hf, ho, h, q⟩ := h
  unfold sliceO at h
  split at h
  · rename_i xs
    cases h
    cases ho with
    | d hx =>
      obtain ⟨a, vs, rfl, h1, h2⟩ := Dq.tup_eq hx
      refine sl_tupA pins s σ H _ v vl vu lo hi sl Q I rx hs pl pu ⟨_, _, rfl, hf.sqT h1, fun e => q _ _ (.inl ⟨rfl, ?_⟩), fun e p hp => q _ _ (.inr ⟨p, _, rfl, hp, rfl, sliceD_eq h2 lo hi⟩)⟩
      have e2 : sliceD xs lo hi = xs := by
        unfold sliceD
        rw [cutD_eq, cutD_eq, ← h2.len, e.1, e.2, List.drop_zero, Nat.sub_zero, h2.len, List.take_length]
      rw [e2]
      exact hx
  · cases h
    cases ho with
    | scr hx => exact sl_list pins s σ H _ v vl vu lo hi sl Q I rx hs pl pu ⟨_, _, rfl, hf.sqL hx, fun p hp => q _ _ ⟨p, _, _, rfl, rfl, hp, rfl, sliceD_eq (DqAll.ofInts _) lo hi⟩⟩
  · split at h
    · rename_i hfl
      cases h
      obtain ⟨a, vs, rfl, h1, h2⟩ := ho.fv hf hfl
      exact sl_list pins s σ H _ v vl vu lo hi sl Q I rx hs pl pu ⟨_, _, rfl, SqL.of h1, fun p hp => q _ _ ⟨p, _, _, rfl, rfl, hp, rfl, sliceD_eq h2 lo hi⟩⟩
    · cases h
/-! ### built-in functions -/
abbrev FVs (K : PySem.W.Frag) (F H : Hp) : List V → List PyData → Prop := Paired fun v x => FV K F H v x
def rPrim (K : PySem.W.Frag) (p : Pr) : List V → Hp → VK → Prop := fun vs H Q => ∃ F xs o, Sub F H ∧ FVs K F H vs xs ∧ primO p xs = some o ∧ ∀ v H', Res K F H o v H' → Q v H'
theorem fvs1 {K : PySem.W.Frag} {F H : Hp} {vs : List V} {x : PyData} (h : FVs K F H vs [x]) : ∃ v, vs = [v] ∧ FV K F H v x := by
  cases h with
  | cons a t => cases t; exact ⟨_, rfl, a⟩
theorem fvs2 {K : PySem.W.Frag} {F H : Hp} {vs : List V} {x y : PyData} (h : FVs K F H vs [x, y]) : ∃ v w, vs = [v, w] ∧ FV K F H v x ∧ FV K F H w y := by
  cases h with
  | cons a t =>
    cases t with
    | cons b t => cases t; exact ⟨_, _, rfl, a, b⟩
theorem pr_len : CallR X (.builtin "len") (rPrim X.K .len) := by
  intro pins s σ H vs us Q I r h
  obtain ⟨F, xs, o, hf, hv, h, q⟩ := h
  replace h : lenO xs = some o := h
  unfold lenO at h
  split at h
  · obtain ⟨v, rfl, p, vs, rfl, h1, h2⟩ := fvs1 hv
    cases h
    exact call_len_seq pins s σ H _ us Q I r ⟨_, _, rfl, .inl (SqL.of h1), by rw [h2.len]; exact q _ _ ⟨rfl, .int _⟩⟩
  · obtain ⟨v, rfl, h1⟩ := fvs1 hv
    obtain ⟨p, vs, rfl, h1, h2⟩ := Dq.tup_eq h1
    cases h
    exact call_len_seq pins s σ H _ us Q I r ⟨_, _, rfl, .inr (hf.sqT h1), by rw [h2.len]; exact q _ _ ⟨rfl, .int _⟩⟩
  · cases h
theorem pr_int : CallR X (.type "int") (rPrim X.K .int) := by
  intro pins s σ H vs us Q I r h
  obtain ⟨F, xs, o, hf, hv, h, q⟩ := h
  replace h : intO xs = some o := h
  unfold intO at h
  split at h
  · obtain ⟨v, rfl, h1⟩ := fvs1 hv
    obtain rfl := Dq.int_eq h1
    cases h
    exact call_int1 pins s σ H _ us Q I r (.inl ⟨_, rfl, q _ _ ⟨rfl, .int _⟩⟩)
  · obtain ⟨v, rfl, h1⟩ := fvs1 hv
    obtain rfl := Dq.bool_eq h1
    cases h
    exact call_int1 pins s σ H _ us Q I r (.inr ⟨_, rfl, q _ _ ⟨rfl, .int _⟩⟩)
  · cases h
theorem pr_abs : CallR X (.builtin "abs") (rPrim X.K .abs) := by
  intro pins s σ H vs us Q I r h
  obtain ⟨F, xs, o, hf, hv, h, q⟩ := h
  replace h : absO xs = some o := h
  unfold absO at h
  split at h
  · obtain ⟨v, rfl, h1⟩ := fvs1 hv
    obtain rfl := Dq.int_eq h1
    cases h
    exact call_abs pins s σ H _ us Q I r ⟨_, rfl, q _ _ ⟨rfl, .int _⟩⟩
  · cases h
theorem allAlike_of {xs : List PyData} (h : allAlike xs = true) : PySem.W.AlikeAll xs ∧ PyData.depthAll xs ≤ 60 := by
  unfold allAlike at h
  rw [Bool.and_eq_true, Bool.and_eq_true] at h
  obtain ⟨⟨h1, h2⟩, h3⟩ := h
  refine ⟨⟨fun x hx y hy => ?_, fun x hx e => ?_⟩, of_decide_eq_true h3⟩
  · exact List.all_eq_true.mp (List.all_eq_true.mp h1 x hx) y hy
  · have := List.all_eq_true.mp h2 x hx
    rw [e] at this
    cases this
/-- an item of alike data, told by what it reads as -/
theorem pick_item {K : PySem.W.Frag} {F : Hp} {ws : List V} {its : List Value} {xs : List PyData} {h : Heap} {as : List Addr} {m : PyData} {i : Nat} {u : Value} {bs : List Addr} (hd : DqAll K F ws xs) (hv : Vals ws its)
    (hr : ReadsAll h its xs as) (hm : m ∈ xs) (ha : PySem.W.AlikeAll xs) (hi : its[i]? = some u) (r : Reads h u m bs) : ∃ v, RelV v u ∧ Dq K F v m := by
  obtain ⟨cs, r1, hlt, hmem, _⟩ := PySem.W.readsAll_at hr i u hi
  have e : xs.getD i .none = m := PySem.W.alike_unique _ _ _ _ _ (ha.1 _ hmem _ hm) r1 r
  have hx : xs[i]? = some m := by
    rw [List.getD_eq_getElem?_getD] at e
    rw [List.getElem?_eq_getElem hlt] at e ⊢
    rw [← e]; rfl
  obtain ⟨v, h1, h2⟩ := hd.getD hx
  obtain ⟨u', h3, h4⟩ := hv.get h1
  rw [hi] at h3
  cases h3
  exact ⟨v, h4, h2⟩
theorem res_old {K : PySem.W.Frag} {F H : Hp} {v : V} {m : PyData} (hm : ∀ ys, m ≠ .list ys) (h : Dq K F v m) : Res K F H (.d m) v H := by
  cases m with
  | tuple xs => exact .inl ⟨rfl, h⟩
  | list xs => exact ⟨rfl, h⟩
  | none => exact ⟨rfl, h⟩
  | bool _ => exact ⟨rfl, h⟩
  | int _ => exact ⟨rfl, h⟩
  | str _ => exact ⟨rfl, h⟩
  | dict _ => exact ⟨rfl, h⟩
theorem res_old' {K : PySem.W.Frag} {F H : Hp} {v : V} {m : PyData} (h : Dq K F v m) : Res K F H (.d m) v H := by
  cases m with
  | tuple xs => exact .inl ⟨rfl, h⟩
  | list xs => exact ⟨rfl, h⟩
  | none => exact ⟨rfl, h⟩
  | bool _ => exact ⟨rfl, h⟩
  | int _ => exact ⟨rfl, h⟩
  | str _ => exact ⟨rfl, h⟩
  | dict _ => exact ⟨rfl, h⟩
theorem fold_mem {f : PyData → PyData → Bool} : ∀ (xs : List PyData) (x : PyData), xs.foldl (fun a y => if f a y then y else a) x ∈ x :: xs
  | [], x => List.mem_cons_self
  | y :: ys, x => by
    rw [List.foldl_cons]
    cases h : f x y with
    | true =>
      rw [if_pos rfl]
      exact List.mem_cons_of_mem _ (fold_mem ys y)
    | false =>
      rw [if_neg Bool.false_ne_true]
      rcases List.mem_cons.mp (fold_mem ys x) with e | e
      · rw [e]; exact List.mem_cons_self
      · exact List.mem_cons_of_mem _ (List.mem_cons_of_mem _ e)
theorem pr_max (hc : X.calm = true) (hu : X.A.units + 65 < cLine) : CallR X (.builtin "max") (rPrim X.K .max) := by
  intro pins s σ H vs us Q I r h
  obtain ⟨F, xs, o, hf, hv, h, q⟩ := h
  replace h : maxO xs = some o := h
  unfold maxO at h
  split at h
  · obtain ⟨v, w, rfl, h1, h2⟩ := fvs2 hv
    obtain rfl := Dq.int_eq h1
    obtain rfl := Dq.int_eq h2
    cases h
    exact call_max2 hc pins s σ H _ us Q I r ⟨_, _, rfl, q _ _ ⟨rfl, .int _⟩⟩
  · split at h
    · rename_i x xs ha
      obtain ⟨a1, a2⟩ := allAlike_of ha
      obtain ⟨v, rfl, p, ws, rfl, h1, h2⟩ := fvs1 hv
      cases h
      obtain ⟨its, rv, hl, _⟩ := I.list (SqL.of h1)
      obtain ⟨as, hr⟩ := Dp.readsAll I _ _ its (Dq.dpAll _ _ (Dq.monoAll hf _ _ h2)) rv
      rw [Vals.ref1 r]
      refine PySem.W.max_list_data (I.ok.hd hc) hl.isList (by simpa using hr) a1 (by omega) fun i u h' tk bs hi r2 hk => ?_
      have hr' : ReadsAll h' its (x :: xs) as := PyProof.Rows.ReadsAll.keeps hk hr
      obtain ⟨v, r3, d3⟩ := pick_item h2 rv hr' (fold_mem _ _) a1 (by simpa using hi) r2
      exact ⟨v, H, I.kept hk, r3, q _ _ (res_old' d3)⟩
    · cases h
  · split at h
    · rename_i x xs ha
      obtain ⟨a1, a2⟩ := allAlike_of ha
      obtain ⟨v, rfl, h1⟩ := fvs1 hv
      obtain ⟨p, ws, rfl, h1, h2⟩ := Dq.tup_eq h1
      cases h
      obtain ⟨its, rv, hl, _⟩ := I.tuple (hf.sqT h1)
      obtain ⟨as, hr⟩ := Dp.readsAll I _ _ its (Dq.dpAll _ _ (Dq.monoAll hf _ _ h2)) rv
      rw [Vals.ref1 r]
      refine PySem.W.max_tuple_data (I.ok.hd hc) hl (by simpa using hr) a1 (by omega) fun i u h' tk bs hi r2 hk => ?_
      have hr' : ReadsAll h' its (x :: xs) as := PyProof.Rows.ReadsAll.keeps hk hr
      obtain ⟨v, r3, d3⟩ := pick_item h2 rv hr' (fold_mem _ _) a1 (by simpa using hi) r2
      exact ⟨v, H, I.kept hk, r3, q _ _ (res_old' d3)⟩
    · cases h
  · split at h
    · rename_i xa xb ha
      obtain ⟨a1, a2⟩ := allAlike_of ha
      obtain ⟨v, w, rfl, h1, h2⟩ := fvs2 hv
      cases h
      have hd : DqAll X.K F [v, w] [.tuple xa, .tuple xb] := .cons h1 (.cons h2 .nil)
      obtain ⟨as, hr⟩ := Dp.readsAll I _ _ us (Dq.dpAll _ _ (Dq.monoAll hf _ _ hd)) r
      obtain ⟨u1, u2, rfl, _, _⟩ := vals2 r
      refine max_two_data (I.ok.hd hc) hr a1 (by omega) fun i u h' tk bs hi r2 hk => ?_
      have hr' : ReadsAll h' [u1, u2] [.tuple xa, .tuple xb] as := PyProof.Rows.ReadsAll.keeps hk hr
      obtain ⟨v, r3, d3⟩ := pick_item hd r hr' (fold_mem _ _) a1 hi r2
      exact ⟨v, H, I.kept hk, r3, q _ _ (res_old' d3)⟩
    · cases h
  · cases h
theorem pr_min (hc : X.calm = true) (hu : X.A.units + 65 < cLine) : CallR X (.builtin "min") (rPrim X.K .min) := by
  intro pins s σ H vs us Q I r h
  obtain ⟨F, xs, o, hf, hv, h, q⟩ := h
  replace h : minO xs = some o := h
  unfold minO at h
  split at h
  · obtain ⟨v, w, rfl, h1, h2⟩ := fvs2 hv
    obtain rfl := Dq.int_eq h1
    obtain rfl := Dq.int_eq h2
    cases h
    exact call_min2 hc pins s σ H _ us Q I r ⟨_, _, rfl, q _ _ ⟨rfl, .int _⟩⟩
  · split at h
    · rename_i x xs ha
      obtain ⟨a1, a2⟩ := allAlike_of ha
      obtain ⟨v, rfl, p, ws, rfl, h1, h2⟩ := fvs1 hv
      cases h
      obtain ⟨its, rv, hl, _⟩ := I.list (SqL.of h1)
      obtain ⟨as, hr⟩ := Dp.readsAll I _ _ its (Dq.dpAll _ _ (Dq.monoAll hf _ _ h2)) rv
      rw [Vals.ref1 r]
      refine PySem.W.min_list_data (I.ok.hd hc) hl.isList (by simpa using hr) a1 (by omega) fun i u h' tk bs hi r2 hk => ?_
      have hr' : ReadsAll h' its (x :: xs) as := PyProof.Rows.ReadsAll.keeps hk hr
      obtain ⟨v, r3, d3⟩ := pick_item h2 rv hr' (fold_mem (f := fun a y => PySem.W.dataLt y a) _ _) a1 (by simpa using hi) r2
      exact ⟨v, H, I.kept hk, r3, q _ _ (res_old' d3)⟩
    · cases h
  · split at h
    · rename_i x xs ha
      obtain ⟨a1, a2⟩ := allAlike_of ha
      obtain ⟨v, rfl, h1⟩ := fvs1 hv
      obtain ⟨p, ws, rfl, h1, h2⟩ := Dq.tup_eq h1
      cases h
      obtain ⟨its, rv, hl, _⟩ := I.tuple (hf.sqT h1)
      obtain ⟨as, hr⟩ := Dp.readsAll I _ _ its (Dq.dpAll _ _ (Dq.monoAll hf _ _ h2)) rv
      rw [Vals.ref1 r]
      refine PySem.W.min_tuple_data (I.ok.hd hc) hl (by simpa using hr) a1 (by omega) fun i u h' tk bs hi r2 hk => ?_
      have hr' : ReadsAll h' its (x :: xs) as := PyProof.Rows.ReadsAll.keeps hk hr
      obtain ⟨v, r3, d3⟩ := pick_item h2 rv hr' (fold_mem (f := fun a y => PySem.W.dataLt y a) _ _) a1 (by simpa using hi) r2
      exact ⟨v, H, I.kept hk, r3, q _ _ (res_old' d3)⟩
    · cases h
  · split at h
    · rename_i xa xb ha
      obtain ⟨a1, a2⟩ := allAlike_of ha
      obtain ⟨v, w, rfl, h1, h2⟩ := fvs2 hv
      cases h
      have hd : DqAll X.K F [v, w] [.tuple xa, .tuple xb] := .cons h1 (.cons h2 .nil)
      obtain ⟨as, hr⟩ := Dp.readsAll I _ _ us (Dq.dpAll _ _ (Dq.monoAll hf _ _ hd)) r
      obtain ⟨u1, u2, rfl, _, _⟩ := vals2 r
      refine min_two_data (I.ok.hd hc) hr a1 (by omega) fun i u h' tk bs hi r2 hk => ?_
      have hr' : ReadsAll h' [u1, u2] [.tuple xa, .tuple xb] as := PyProof.Rows.ReadsAll.keeps hk hr
      obtain ⟨v, r3, d3⟩ := pick_item hd r hr' (fold_mem (f := fun a y => PySem.W.dataLt y a) _ _) a1 hi r2
      exact ⟨v, H, I.kept hk, r3, q _ _ (res_old' d3)⟩
    · cases h
  · cases h
theorem pr_all (hc : X.calm = true) : CallR X (.builtin "all") (rPrim X.K .all) := by
  intro pins s σ H vs us Q I r h
  obtain ⟨F, xs, o, hf, hv, h, q⟩ := h
  replace h : allO xs = some o := h
  unfold allO at h
  split at h
  · obtain ⟨v, rfl, p, ws, rfl, h1, h2⟩ := fvs1 hv
    obtain ⟨bs, e1, e2⟩ := of_map_some h
    subst e2
    rw [h2.bools e1] at h1
    exact cr_all hc pins s σ H _ us Q I r ⟨_, _, rfl, SqL.of h1, q _ _ ⟨rfl, .bl _⟩⟩
  · cases h
theorem pr_any (hc : X.calm = true) : CallR X (.builtin "any") (rPrim X.K .any) := by
  intro pins s σ H vs us Q I r h
  obtain ⟨F, xs, o, hf, hv, h, q⟩ := h
  replace h : anyO xs = some o := h
  unfold anyO at h
  split at h
  · obtain ⟨v, rfl, p, ws, rfl, h1, h2⟩ := fvs1 hv
    obtain ⟨bs, e1, e2⟩ := of_map_some h
    subst e2
    rw [h2.bools e1] at h1
    exact cr_any hc pins s σ H _ us Q I r ⟨_, _, rfl, SqL.of h1, q _ _ ⟨rfl, .bl _⟩⟩
  · cases h
theorem pr_tuple : CallR X (.type "tuple") (rPrim X.K .tuple) := by
  intro pins s σ H vs us Q I r h
  obtain ⟨F, xs, o, hf, hv, h, q⟩ := h
  replace h : tupleO xs = some o := h
  unfold tupleO at h
  split at h
  · obtain ⟨v, rfl, p, ws, rfl, h1, h2⟩ := fvs1 hv
    cases h
    exact call_tuple_of pins s σ H _ us Q I r ⟨_, _, rfl, .inl ⟨SqL.of h1, fun l hl => q _ _ (.inr ⟨l, _, rfl, hl, rfl, h2⟩)⟩⟩
  · obtain ⟨v, rfl, h1⟩ := fvs1 hv
    obtain ⟨p, ws, rfl, h3, h4⟩ := Dq.tup_eq h1
    cases h
    exact call_tuple_of pins s σ H _ us Q I r ⟨_, _, rfl, .inr ⟨hf.sqT h3, q _ _ (.inl ⟨rfl, h1⟩)⟩⟩
  · cases h
theorem pr_list : CallR X (.type "list") (rPrim X.K .list) := by
  intro pins s σ H vs us Q I r h
  obtain ⟨F, xs, o, hf, hv, h, q⟩ := h
  replace h : listO xs = some o := h
  unfold listO at h
  split at h
  · obtain ⟨v, rfl, p, ws, rfl, h1, h2⟩ := fvs1 hv
    cases h
    exact call_list_of pins s σ H _ us Q I r ⟨_, _, rfl, .inl (SqL.of h1), fun l hl => q _ _ ⟨l, _, _, rfl, rfl, hl, rfl, h2⟩⟩
  · obtain ⟨v, rfl, h1⟩ := fvs1 hv
    obtain ⟨p, ws, rfl, h1, h2⟩ := Dq.tup_eq h1
    cases h
    exact call_list_of pins s σ H _ us Q I r ⟨_, _, rfl, .inr (hf.sqT h1), fun l hl => q _ _ ⟨l, _, _, rfl, rfl, hl, rfl, h2⟩⟩
  · cases h
/-! sum of a tuple -/
theorem sum_tup {prog : Program} {w : World} {A : Around} {E : Value → Shared → Prop} {s : Shared} {l : Addr} {its : List Value} {ns : List Int} {Q : Value → Shared → Prop} (hh : A.handled = none) (hl : s.heap.IsTuple l its.toArray) (hi : PyProof.Rows.IntsAre its ns)
    (h : ∀ h' tk t', (∀ b o, s.heap.get? b = some o → h'.get? b = some o) → Q (.int ns.sum t') { s with heap := h', toks := tk }) : wpAny (model prog w) A (call (.builtin "sum") [.ref l]) Q E s := by
  obtain ⟨xs, e⟩ := hi.allInts.items
  have hn : numsOf (intItems xs).toList = ns := by rw [← e]; exact hi.numsOf
  rw [nums_intItems] at hn
  rw [e] at hl
  have hlt : l < s.heap.objs.size := by obtain ⟨_, e, _⟩ := hl; exact Heap.lt_size e
  refine PySem.call_sum_walkG (wpAny_pyIter_tuple hl ?_)
  refine ⟨_, _, _, _, _, _, numAt xs, rfl, Walks.tuple (A := A.in1) hh _ l (Nat.ne_of_lt hlt) (intItems xs), ⟨⟨_, Heap.get?_push_size _ rfl, rfl, rfl⟩, hl.push _⟩, fun b hb => ?_, (fun _ _ => intItems_at), fun h' tk t' hk => ?_⟩
  · show b < (s.heap.push _).objs.size
    rw [Heap.size_push]
    rcases List.mem_cons.mp hb with rfl | hb
    · exact Nat.lt_succ_self _
    · rcases List.mem_cons.mp hb with rfl | hb
      · exact Nat.lt_succ_of_lt hlt
      · cases hb
  · have := h h' tk t' fun b o eo => hk b o (fun hb => absurd (Heap.lt_size eo) ((List.mem_singleton.mp hb) ▸ Nat.lt_irrefl _)) (Heap.get?_push_of_some _ eo)
    have e2 : preSum (numAt xs) (intItems xs).size = ns.sum := by
      rw [preSum_eq, List.take_of_length_le (by simp [intItems]), hn]
    rw [e2]
    exact this
theorem pr_sum (hc : X.calm = true) : CallR X (.builtin "sum") (rPrim X.K .sum) := by
  intro pins s σ H vs us Q I r h
  obtain ⟨F, xs, o, hf, hv, h, q⟩ := h
  replace h : sumO xs = some o := h
  unfold sumO at h
  split at h
  · obtain ⟨v, rfl, p, ws, rfl, h1, h2⟩ := fvs1 hv
    obtain ⟨ns, e1, e2⟩ := of_map_some h
    subst e2
    rw [h2.ints e1] at h1
    exact cr_sum hc pins s σ H _ us Q I r ⟨_, _, rfl, SqL.of h1, q _ _ ⟨rfl, .int _⟩⟩
  · obtain ⟨v, rfl, h1⟩ := fvs1 hv
    obtain ⟨p, ws, rfl, h1, h2⟩ := Dq.tup_eq h1
    obtain ⟨ns, e1, e2⟩ := of_map_some h
    subst e2
    rw [h2.ints e1] at h1
    obtain ⟨its, rv, hl, _⟩ := I.tuple (hf.sqT h1)
    rw [Vals.ref1 r]
    exact sum_tup (I.ok.hd hc) hl rv.ints fun h' tk t' hk => ⟨.int _, H, I.kept hk, ⟨_, rfl⟩, q _ _ ⟨rfl, .int _⟩⟩
  · cases h
/-! sorted -/
mutual
theorem eq_of_eqv : ∀ (x y : PyData), PySem.W.alike x y = true → PyData.eqv x y = true → x = y
  | .none, y, h, e => by cases y <;> simp_all [PySem.W.alike, PyData.eqv]
  | .bool a, y, h, e => by cases y <;> simp_all [PySem.W.alike, PyData.eqv]
  | .int a, y, h, e => by cases y <;> simp_all [PySem.W.alike, PyData.eqv]
  | .str a, y, h, e => by cases y <;> simp_all [PySem.W.alike, PyData.eqv]
  | .list xs, y, h, e => by
    cases y with
    | list ys =>
      rw [PySem.W.alike] at h
      rw [PyData.eqv] at e
      rw [eqAll_of_eqv xs ys h e]
    | _ => simp_all [PySem.W.alike]
  | .tuple xs, y, h, e => by
    cases y with
    | tuple ys =>
      rw [PySem.W.alike] at h
      rw [PyData.eqv] at e
      rw [eqAll_of_eqv xs ys h e]
    | _ => simp_all [PySem.W.alike]
  | .dict _, y, h, e => by cases y <;> simp_all [PySem.W.alike, PyData.eqv]
theorem eqAll_of_eqv : ∀ (xs ys : List PyData), PySem.W.alikeAll xs ys = true → PyData.eqvAll xs ys = true → xs = ys
  | [], [], _, _ => rfl
  | [], _ :: _, _, e => by rw [PyData.eqvAll] at e; cases e
  | _ :: _, [], _, e => by rw [PyData.eqvAll] at e; cases e
  | x :: xs, y :: ys, h, e => by
    rw [PySem.W.alikeAll, Bool.and_eq_true] at h
    rw [PyData.eqvAll, Bool.and_eq_true] at e
    rw [eq_of_eqv x y h.1 e.1, eqAll_of_eqv xs ys h.2 e.2]
end
/-- two data that are alike and neither less are one -/
theorem lt_antisymm {x y : PyData} (h : PySem.W.alike x y = true) (h1 : PySem.W.dataLt x y = false) (h2 : PySem.W.dataLt y x = false) : x = y := by
  have e := PyProof.Rows.lex_total (O := PyProof.Rows.itemOrd) _ _ h1 h2
  cases hq : PyData.eqv x y with
  | true => exact eq_of_eqv x y h hq
  | false =>
    exfalso
    have t := (PySem.W.toks_eqv x y h).2 hq [.inl 5] [.inl 7]
    have t2 := (PySem.W.toks_eqv x y h).2 hq [.inl 7] [.inl 5]
    rw [e] at t t2
    rw [PySem.W.lex_pre] at t t2
    exact absurd (t.trans t2.symm) (by decide)
abbrev leB (a b : PyData) : Bool := !PySem.W.dataLt b a
theorem le_total (a b : PyData) : (leB a b || leB b a) = true := by
  unfold leB
  cases h : PySem.W.dataLt b a with
  | false => rfl
  | true =>
    cases h2 : PySem.W.dataLt a b with
    | false => rfl
    | true =>
      have := PyProof.Rows.lex_trans (O := PyProof.Rows.itemOrd) _ _ _ h h2
      rw [PyProof.Rows.lex_irrefl] at this
      cases this
theorem le_trans (a b c : PyData) (h1 : leB a b = true) (h2 : leB b c = true) : leB a c = true := by
  unfold leB at *
  cases h : PySem.W.dataLt c a with
  | false => rfl
  | true =>
    rcases PyProof.Rows.lex_negTrans (O := PyProof.Rows.itemOrd) (PySem.W.keyToks c) (PySem.W.keyToks b) (PySem.W.keyToks a) h with z | z
    · have : PySem.W.dataLt c b = true := z
      rw [this] at h2; cases h2
    · have : PySem.W.dataLt b a = true := z
      rw [this] at h1; cases h1
theorem insD_perm (x : PyData) : ∀ ys : List PyData, (insD x ys).Perm (x :: ys)
  | [] => .refl _
  | y :: ys => by
    rw [insD]
    split
    · exact ((insD_perm x ys).cons y).trans (.swap ..)
    · exact .refl _
theorem insSort_perm : ∀ xs : List PyData, (insSort xs).Perm xs
  | [] => .refl _
  | x :: xs => (insD_perm x _).trans ((insSort_perm xs).cons x)
theorem insD_sorted (x : PyData) : ∀ {ys : List PyData}, ys.Pairwise (fun a b => leB a b = true) → (insD x ys).Pairwise (fun a b => leB a b = true)
  | [], _ => by rw [insD]; exact List.pairwise_singleton _ _
  | y :: ys, h => by
    rw [insD]
    obtain ⟨h1, h2⟩ := List.pairwise_cons.mp h
    split
    · rename_i hlt
      refine List.pairwise_cons.mpr ⟨fun z hz => ?_, insD_sorted x h2⟩
      rcases List.mem_cons.mp ((insD_perm x ys).mem_iff.mp hz) with rfl | hz
      · have := le_total y z
        unfold leB at this ⊢
        rw [hlt] at this
        cases q : PySem.W.dataLt z y with
        | false => rfl
        | true => rw [q] at this; cases this
      · exact h1 z hz
    · rename_i hlt
      have hle : leB x y = true := by
        unfold leB
        cases q : PySem.W.dataLt y x with
        | false => rfl
        | true => exact absurd q hlt
      refine List.pairwise_cons.mpr ⟨fun z hz => ?_, h⟩
      rcases List.mem_cons.mp hz with rfl | hz
      · exact hle
      · exact le_trans _ _ _ hle (h1 z hz)
theorem insSort_sorted : ∀ xs : List PyData, (insSort xs).Pairwise (fun a b => leB a b = true)
  | [] => .nil
  | x :: xs => insD_sorted x (insSort_sorted xs)
theorem insSort_eq {xs : List PyData} (h : PySem.W.AlikeAll xs) : xs.mergeSort leB = insSort xs := by
  refine List.Perm.eq_of_pairwise (le := fun a b => leB a b = true) (fun a b ha hb h1 h2 => ?_) (List.pairwise_mergeSort le_trans le_total xs) (insSort_sorted xs) ((List.mergeSort_perm xs leB).trans (insSort_perm xs).symm)
  have ha' : a ∈ xs := (List.mergeSort_perm xs leB).mem_iff.mp ha
  have hb' : b ∈ xs := (insSort_perm xs).mem_iff.mp hb
  unfold leB at h1 h2
  refine lt_antisymm (h.1 a ha' b hb') ?_ ?_
  · cases q : PySem.W.dataLt a b with
    | false => rfl
    | true => rw [q] at h2; cases h2
  · cases q : PySem.W.dataLt b a with
    | false => rfl
    | true => rw [q] at h1; cases h1
theorem zip_each {R : Value → V × PyData → Prop} {vs : List V} {us : List Value} {xs : List PyData} (rv : Vals vs us) (hl : vs.length = xs.length) (hR : ∀ (i : Nat) (v : V) (u : Value) (x : PyData), vs[i]? = some v → us[i]? = some u → xs[i]? = some x → RelV v u → R u (v, x)) : PySem.W.EachIs R us (vs.zip xs) := by
  induction rv generalizing xs with
  | nil => exact .nil
  | cons r t ih =>
    cases xs with
    | nil => simp at hl
    | cons x xs =>
      exact .cons (hR 0 _ _ _ rfl rfl rfl r) (ih (by simpa using hl) fun i v u x h1 h2 h3 h4 => hR (i + 1) v u x (by simpa using h1) (by simpa using h2) (by simpa using h3) h4)
theorem each_vals {R : Value → V × PyData → Prop} (hR : ∀ u p, R u p → RelV p.1 u) : ∀ {us : List Value} {ps : List (V × PyData)}, PySem.W.EachIs R us ps → Vals (ps.map (·.1)) us
  | _, _, .nil => .nil
  | _, _, .cons a t => .cons (hR _ _ a) (each_vals hR t)
theorem dq_pairs {K : PySem.W.Frag} {F : Hp} : ∀ {ps : List (V × PyData)}, (∀ p ∈ ps, Dq K F p.1 p.2) → DqAll K F (ps.map (·.1)) (ps.map (·.2))
  | [], _ => .nil
  | p :: ps, h => .cons (h p List.mem_cons_self) (dq_pairs fun q hq => h q (List.mem_cons_of_mem _ hq))
theorem dq_zip {K : PySem.W.Frag} {F : Hp} : ∀ {vs : List V} {xs : List PyData}, DqAll K F vs xs → ∀ p ∈ vs.zip xs, Dq K F p.1 p.2
  | _, _, .nil, p, hp => by simp at hp
  | _, _, .cons h t, p, hp => by
    rw [List.zip_cons_cons] at hp
    rcases List.mem_cons.mp hp with rfl | hp
    · exact h
    · exact dq_zip t p hp
theorem sortable_of {xs : List PyData} (ha : PySem.W.AlikeAll xs) (h : (xs.all fullTup || xs.all notTup) = true) : PySem.W.Sortable xs := by
  rw [Bool.or_eq_true] at h
  rcases h with h | h
  · refine .inl fun d hd => ?_
    have := List.all_eq_true.mp h d hd
    unfold fullTup at this
    split at this
    · exact ⟨_, _, rfl⟩
    · cases this
  · refine .inr fun d hd => ⟨ha.2 d hd, fun ys e => ?_⟩
    have := List.all_eq_true.mp h d hd
    rw [e] at this
    cases this
theorem pr_sorted (hu : X.A.units + 65 < cLine) : CallR X (.builtin "sorted") (rPrim X.K .sorted) := by
  intro pins s σ H vs us Q I r h
  obtain ⟨F, xs, o, hf, hv, h, q⟩ := h
  replace h : sortedO xs = some o := h
  unfold sortedO at h
  split at h
  · rename_i xs
    obtain ⟨v, rfl, p, ws, rfl, h1, h2⟩ := fvs1 hv
    obtain ⟨ys, e1, e2⟩ := of_map_some h
    subst e2
    unfold sortD at e1
    split at e1
    · rename_i hs
      cases e1
      rw [Bool.and_eq_true, Bool.and_eq_true] at hs
      obtain ⟨⟨hs1, hs2⟩, hs3⟩ := hs
      obtain ⟨a1, a2⟩ := allAlike_of hs1
      obtain ⟨its, rv, hl, hz⟩ := I.list (SqL.of h1)
      obtain ⟨as, hr⟩ := Dp.readsAll I _ _ its (Dq.dpAll _ _ (Dq.monoAll hf _ _ h2)) rv
      rw [Vals.ref1 r]
      have hlen := h2.len
      have e2 : (ws.zip xs).map (·.2) = xs := List.map_snd_zip (by omega)
      have lz : (ws.zip xs).length = xs.length := by rw [← List.length_map (f := (·.2)), e2]
      refine PySem.W.sorted_data (β := V × PyData) (enc := (·.2)) (R := fun u p => RelV p.1 u) (bs := ws.zip xs) hl.isList (zip_each rv hlen fun _ _ _ _ _ _ _ r => r) (zip_each rv hlen fun i v u x e1 e2 e3 r => ?_) (by rw [e2]; exact a1.1) (by rw [e2]; exact sortable_of a1 hs2) ?_ ?_ fun out hlo ho => ?_
      · obtain ⟨cs, r1, _, _, _⟩ := PySem.W.readsAll_at hr i u e2
        refine ⟨cs, ?_⟩
        rw [List.getD_eq_getElem?_getD, e3] at r1
        exact r1
      · rw [lz]
        exact lenOk_le hs3
      · intro b hb
        have hb2 : b.2 ∈ xs := by rw [← e2]; exact List.mem_map_of_mem hb
        have := depth_item hb2
        omega
      · obtain ⟨ep, he'⟩ := PyProof.Rows.sortedAll_at s.heap its out.toArray
        have em : ((ws.zip xs).mergeSort (PySem.W.dataLe false (·.2))).map (·.2) = insSort xs := by
          rw [← insSort_eq a1]
          rw [List.map_mergeSort (s := leB) (fun a _ b _ => by rw [PySem.W.dataLe_eq]; rfl), e2]
        have hd : DqAll X.K F (((ws.zip xs).mergeSort (PySem.W.dataLe false (·.2))).map (·.1)) (insSort xs) := by
          rw [← em]
          exact dq_pairs fun p hp => dq_zip h2 p ((List.mergeSort_perm _ _).mem_iff.mp hp)
        have hvv := each_vals (fun _ _ z => z) ho
        refine ⟨.ref _, upd H (s.heap.objs.size + 1) (.lst _), I.laid (t' := s.toks) (fun _ _ => PyProof.Rows.sortedAll_old) (Nat.le_succ _) ⟨?_, out, ep, hvv, he'⟩, rfl, q _ _ ⟨_, _, _, rfl, rfl, I.hok.fresh (Nat.le_succ _), rfl, hd⟩⟩
        rw [hvv.length, hlo, lz]
        exact lenOk_le hs3
    · cases e1
  · cases h
/-! isinstance -/
theorem isi_of {K : PySem.W.Frag} {H : Hp} {v : V} {x : PyData} {T : Tn} {b : Bool} {Q : VK} (h : Dq K H v x) (hb : isiD T x = some b) (q : Q (.bl b) H) : rIsi K [v, .ty T.s] H Q := by
  have key : ∀ t : String, TyX K H v (.type t) → kitB t T.s = some b → rIsi K [v, .ty T.s] H Q := fun t ty k => ⟨v, .ty T.s, .type t, .type T.s, b, rfl, .ty _, ty, kit_ty k, q⟩
  cases h with
  | non => exact key _ (.base .non) (by cases T <;> cases hb <;> decide +kernel)
  | bl b => exact key _ (.base (.bl b)) (by cases T <;> cases hb <;> decide +kernel)
  | int b => exact key _ (.base (.int b)) (by cases T <;> cases hb <;> decide +kernel)
  | str b => exact key _ (.base (.str b)) (by cases T <;> cases hb <;> decide +kernel)
  | lst h _ => exact key _ (.base (.lst h)) (by cases T <;> cases hb <;> decide +kernel)
  | @tup a xs ds h _ =>
    have ty : TyX K H (.ref a) (.type "tuple") := by
      rcases h with (h | ⟨o, h⟩) | ⟨o, its, n, h, hc, _⟩
      · exact .base (.tup h)
      · exact .fTuple h
      · exact .kTuple h hc
    exact key _ ty (by cases T <;> cases hb <;> decide +kernel)
end
end Lw

set_option maxRecDepth 100000
/-! Lw4: readings by the evaluator, and how they are put together. -/
namespace Lw
open PySem L2

/-! ### a value on the way, in the heap -/
def SelV (H : Hp) (v0 : V) : Sel → V → Prop
  | .i k, v => ∃ a vs, v0 = .ref a ∧ H a = some (.lst vs) ∧ vs[k]? = some v
  | .f n, v => ∃ a C dx fs, v0 = .ref a ∧ H a = some (.ins C dx fs) ∧ fs.lookup n = some v
  | .k _, _ => False
def WalkV (H : Hp) : V → List Sel → V → Prop
  | v0, [], v => v0 = v
  | v0, s :: p, v => ∃ v1, SelV H v0 s v1 ∧ WalkV H v1 p v
theorem SelV.mono {H H' : Hp} (s : Sub H H') {v0 v : V} {e : Sel} (h : SelV H v0 e v) : SelV H' v0 e v := by
  cases e with
  | i k => obtain ⟨a, vs, h1, h2, h3⟩ := h; exact ⟨a, vs, h1, s _ _ h2, h3⟩
  | f n => obtain ⟨a, C, dx, fs, h1, h2, h3⟩ := h; exact ⟨a, C, dx, fs, h1, s _ _ h2, h3⟩
  | k x => exact h
theorem WalkV.mono {H H' : Hp} (s : Sub H H') : ∀ {p : List Sel} {v0 v : V}, WalkV H v0 p v → WalkV H' v0 p v
  | [], _, _, h => h
  | _ :: _, _, _, ⟨v1, h1, h2⟩ => ⟨v1, h1.mono s, WalkV.mono s h2⟩
def HR (K : PySem.W.Frag) (cl : ClW) (F H : Hp) (A : AS) (σ : L2.St) : Hd → V → AS → Prop
  | .tm o, v, Ao => OR K cl F H o v Ao ∧ ∀ a, Ao a → A a → False
  | .sl i p, v, Ao => (∃ v0, σ[i]? = some (some v0) ∧ WalkV H v0 p v) ∧ ∀ a, ¬ Ao a
section
variable {K : PySem.W.Frag} {cl : ClW} {F F' F1 F2 H H' H1 H2 : Hp} {A A' A1 A2 T Ao : AS} {ro ro' : Ro} {σ : L2.St} {h : Hd} {v : V} {x : PyData} {o : O}
theorem Stp.frame (s : Stp F H A F' H' A') (T : AS) : Stp F H (fun a => A a ∨ T a) F' H' (fun a => A' a ∨ T a) :=
  ⟨s.fr, fun a o e n => s.kp a o e fun z => n (.inl z), fun a q => (s.nf a q).elim .inl fun z => z.elim (fun z => .inr (.inl z)) fun z => .inr (.inr (.inl z)),
    fun a q => q.elim (fun z => (s.na a z).elim (fun z => .inl (.inl z)) .inr) fun z => .inl (.inr z)⟩
theorem Stp.weak (s : Stp F H A F' H' A') (h : ∀ a, T a → A' a) : Stp F H A F' H' T := ⟨s.fr, s.kp, s.nf, fun a q => s.na a (h a q)⟩
theorem Stp.same {B : AS} (s : Stp F H A F' H' A') (h : ∀ a, A' a ↔ B a) : Stp F H A F' H' B := s.weak fun a q => (h a).mpr q
/-- what is held beside, behind a step -/
theorem HR.step (r : HR K cl F H A σ h v Ao) (st : Stp F H A F' H' (fun a => A' a ∨ T a)) (d : h.deep = true → Sub H H') : HR K cl F' H' A' σ h v Ao ∧ ∀ a, Ao a → T a → False := by
  cases h with
  | tm o =>
    obtain ⟨h1, h2⟩ := r
    obtain ⟨q1, q2⟩ := h1.step h2 st
    exact ⟨⟨q1, fun a x y => q2 a x (.inl y)⟩, fun a x y => q2 a x (.inr y)⟩
  | sl i p =>
    obtain ⟨⟨v0, h1, h2⟩, h3⟩ := r
    refine ⟨⟨⟨v0, h1, ?_⟩, h3⟩, fun a x _ => h3 a x⟩
    cases p with
    | nil => exact h2
    | cons s p => exact WalkV.mono (d rfl) h2
theorem ORs.get : ∀ {os : List O} {vs : List V} {A : AS} {k : Nat} {o : O}, ORs K cl F H os vs A → os[k]? = some o → ∃ v B, vs[k]? = some v ∧ OR K cl F H o v B ∧ ∀ a, B a → A a
  | _, _, _, _, _, .nil, e => by simp at e
  | _, _, _, 0, _, .cons h t n, e => by
    simp at e; subst e
    exact ⟨_, _, rfl, h, fun _ z => .inl z⟩
  | _, _, _, k + 1, o, .cons h t n, e => by
    obtain ⟨v, B, h1, h2, h3⟩ := ORs.get (k := k) (o := o) t (by simpa using e)
    exact ⟨v, B, by simpa using h1, h2, fun a z => .inr (h3 a z)⟩
theorem ORs.getN : ∀ {fs : List (Str × V)} {os : List O} {A : AS} {m : Str} {o : O}, ORs K cl F H os (fs.map (·.2)) A → Lw.getN (fs.map (·.1)) os m = some o → ∃ v B, fs.lookup m = some v ∧ OR K cl F H o v B ∧ ∀ a, B a → A a
  | [], _, _, _, _, _, e => by rw [List.map_nil, Lw.getN] at e; cases e; intros; contradiction
  | (n, v) :: fs, os, A, m, o, h, e => by
    rw [List.map_cons] at h e
    cases h with
    | cons h t n2 =>
      rw [Lw.getN] at e
      rw [List.lookup_cons]
      split at e
      · rename_i hn
        have hn : n = m := hn
        cases e
        subst hn
        refine ⟨v, _, by simp, h, fun _ z => .inl z⟩
      · rename_i hn
        obtain ⟨w, B, h1, h2, h3⟩ := ORs.getN t e
        have : (m == n) = false := beq_eq_false_iff_ne.mpr fun z => hn z.symm
        exact ⟨w, B, by rw [this]; exact h1, h2, fun a z => .inr (h3 a z)⟩
theorem OR.sel {e : Sel} {o o' : O} {v0 : V} {A : AS} (h : OR K cl F H o v0 A) (q : o.sel e = some o') : ∃ v B, SelV H v0 e v ∧ OR K cl F H o' v B ∧ ∀ a, B a → A a := by
  unfold O.sel at q
  split at q
  · cases h with
    | lst k1 k2 k3 k4 =>
      obtain ⟨v, B, h1, h2, h3⟩ := k2.get q
      exact ⟨v, B, ⟨_, _, rfl, k1, h1⟩, h2, fun a z => .inr (h3 a z)⟩
  · cases h with
    | ins k1 k2 k3 k4 k5 =>
      obtain ⟨v, B, h1, h2, h3⟩ := k3.getN q
      exact ⟨v, B, ⟨_, _, _, _, rfl, k1, h1⟩, h2, fun a z => .inr (h3 a z)⟩
  · cases q
theorem SelV.uniq {e : Sel} {v0 v w : V} (a : SelV H v0 e v) (b : SelV H v0 e w) : v = w := by
  cases e with
  | i k =>
    obtain ⟨a, vs, rfl, h2, h3⟩ := a
    obtain ⟨a', vs', e1, h2', h3'⟩ := b
    cases e1
    rw [h2] at h2'; cases h2'
    rw [h3] at h3'; exact Option.some.inj h3'
  | f n =>
    obtain ⟨a, C, dx, fs, rfl, h2, h3⟩ := a
    obtain ⟨a', C', dx', fs', e1, h2', h3'⟩ := b
    cases e1
    rw [h2] at h2'; cases h2'
    rw [h3] at h3'; exact Option.some.inj h3'
  | k x => exact a.elim
/-- the tree within a tree -/
theorem OR.walk : ∀ {p : List Sel} {o o' : O} {v0 v : V} {A : AS}, OR K cl F H o v0 A → O.walk p o = some o' → WalkV H v0 p v → ∃ B, OR K cl F H o' v B ∧ ∀ a, B a → A a
  | [], o, o', v0, v, A, h, e, w => by
    rw [O.walk] at e
    cases e
    cases w
    exact ⟨A, h, fun _ z => z⟩
  | s :: p, o, o', v0, v, A, h, e, w => by
    obtain ⟨v1, w1, w2⟩ := w
    rw [O.walk] at e
    cases q : o.sel s with
    | none => rw [q] at e; cases e
    | some o1 =>
      rw [q] at e
      obtain ⟨v1', B, z1, z2, z3⟩ := h.sel q
      obtain rfl := w1.uniq z1
      obtain ⟨B2, y1, y2⟩ := OR.walk z2 e w2
      exact ⟨B2, y1, fun a z => z3 a (y2 a z)⟩
/-- what a handle means -/
theorem HR.look (S : SR K cl F A ro σ H) (r : HR K cl F H A σ h v Ao) (e : h.look ro = some o) : ∃ B, OR K cl F H o v B ∧ ∀ a, B a → A a ∨ Ao a := by
  cases h with
  | tm x =>
    cases e
    exact ⟨Ao, r.1, fun a z => .inr z⟩
  | sl i p =>
    obtain ⟨⟨v0, h1, h2⟩, h3⟩ := r
    simp only [Hd.look] at e
    split at e
    · rename_i o1 hi
      obtain ⟨v1, Ai, B, k1, k2, k3, k4, k5⟩ := S.rs.out hi
      rw [h1] at k1
      cases k1
      obtain ⟨B2, y1, y2⟩ := k2.walk e h2
      exact ⟨B2, y1, fun a z => .inl ((k5 a).mpr (.inl (y2 a z)))⟩
    · cases e
theorem HR.lookD (S : SR K cl F A ro σ H) (r : HR K cl F H A σ h v Ao) (e : h.lookD ro = some x) : Dq K H v x := by
  unfold Hd.lookD at e
  cases q : h.look ro with
  | none => rw [q] at e; cases e
  | some o =>
    rw [q] at e
    obtain ⟨B, h1, _⟩ := r.look S q
    exact h1.dp S.sub (fun _ _ => rfl) x e
theorem HR.lookF (S : SR K cl F A ro σ H) (r : HR K cl F H A σ h v Ao) (e : h.lookF ro = some x) : FV K F H v x := by
  unfold Hd.lookF at e
  cases q : h.look ro with
  | none => rw [q] at e; cases e
  | some o =>
    rw [q] at e
    obtain ⟨B, h1, _⟩ := r.look S q
    exact h1.fv S.sub e
/-- a value is frozen -/
theorem HR.esc (S : SR K cl F A ro σ H) (r : HR K cl F H A σ h v Ao) (e : h.esc ro = .ok x ro') : ∃ F' A', SR K cl F' A' ro' σ H ∧ Dq K F' v x ∧ Stp F H (fun a => A a ∨ Ao a) F' H A' ∧ ∀ a, A' a → A a := by
  cases h with
  | tm o =>
    obtain ⟨h1, h2⟩ := r
    unfold Hd.esc at e
    dsimp only at e
    cases q : o.toD with
    | none => rw [q] at e; cases e
    | some y =>
      rw [q] at e
      cases e
      obtain ⟨F', q1, q2, q3, q4⟩ := S.freezeTemp h1 h2 q
      exact ⟨F', A, q3, q4, ⟨q1, fun a o e _ => e, fun a z => (q2 a z).elim .inl fun z => .inr (.inr (.inr z)), fun a z => .inl (.inl z)⟩, fun a z => z⟩
  | sl i p =>
    obtain ⟨⟨v0, h1, h2⟩, h3⟩ := r
    cases p with
    | cons s p => unfold Hd.esc at e; cases e
    | nil =>
      cases h2
      unfold Hd.esc at e
      dsimp only at e
      split at e
      · rename_i y hi
        cases e
        obtain ⟨v1, Ai, B, k1, k2, k3, k4, k5⟩ := S.rs.out hi
        rw [h1] at k1
        cases k1
        cases k2 with
        | d k2 => exact ⟨F, A, S, k2, Stp.refl.frame Ao |>.weak (fun a z => .inl z), fun a z => z⟩
      · rename_i o hi
        split at e
        · rename_i y hy
          cases e
          obtain ⟨v1, F', A', k1, k2, k3, k4⟩ := S.freezeSlot ‹_› hy
          rw [h1] at k1
          cases k1
          refine ⟨F', A', k3, k2, (k4.frame Ao).weak (fun a z => .inl z), fun a z => ?_⟩
          rcases k4.na a z with z2 | z2
          · exact z2
          · exact absurd z2 (k3.rs.own a z).2
        · cases e
      · cases e
theorem HR.bool (S : SR K cl F A ro σ H) (r : HR K cl F H A σ h v Ao) {b : Bool} (e : h.bool ro = some b) : v = .bl b := by
  unfold Hd.bool at e
  split at e
  · rename_i b' h2
    cases e
    exact (r.lookD S h2).bool_eq
  · cases e
end
end Lw

set_option maxRecDepth 100000
/-! Lw5: the judgement, and its steps. -/
namespace Lw
open PySem L2

/-- what is fixed through a law -/
structure Gx where
  P : Program
  w : World
  K : PySem.W.Frag
  mg : Str → Option Value
  base : Heap
  cl : ClW
  G : GE
/-- what lent trees have become -/
inductive BRs (K : PySem.W.Frag) (cl : ClW) (F H : Hp) : List (Option O) → List V → AS → Prop
  | nil {vs : List V} : BRs K cl F H [] vs (fun _ => False)
  | no {bs : List (Option O)} {v : V} {vs : List V} {B : AS} : BRs K cl F H bs vs B → BRs K cl F H (none :: bs) (v :: vs) B
  | yes {o : O} {bs : List (Option O)} {v : V} {vs : List V} {A B : AS} : OR K cl F H o v A → BRs K cl F H bs vs B → (∀ a, A a → B a → False) → BRs K cl F H (some o :: bs) (v :: vs) (fun a => A a ∨ B a)
/-- what a def promises that answers as f -/
def PSpec (g : Gx) (f : List O → FOut) : Sp := fun vs H Q E => ∃ F A os, Sub F H ∧ ORs g.K g.cl F H os vs A ∧
  match f os with
  | .ok o bs => ∀ v F' H' Ao Ab, Stp F H A F' H' (fun a => Ao a ∨ Ab a) → Sub F' H' → OR g.K g.cl F' H' o v Ao → BRs g.K g.cl F' H' bs vs Ab → (∀ a, Ao a → Ab a → False) → Q v H'
  | .exc x _ => ∀ C F' H', g.mg x.cls = some (.ref C) → Stp F H A F' H' (fun _ => False) → Sub F' H' → E (.ref C) none H'
  | .stuck => False
structure XOk (g : Gx) (c : CC) (k : Nat) (W : WX) (X : Cx) : Prop where
  pr : X.prog = g.P
  ww : X.w = g.w
  cw : g.cl.w = g.w
  kk : X.K = g.K
  mm : X.mg = g.mg
  bb : X.base = g.base
  hN : X.N = c.N
  nd : c.N.Nodup
  sc : X.env.scope = c.sc
  calm : X.calm = c.calm
  room : c.calm = true → Room k X.A
  room1 : c.calm = true → Room (k + 1) X.A
  un : X.A.units + 200 < cLine
  fns : ∀ f x, c.fns[f]? = some x → ∃ ad fd ps, g.mg x = some (.ref ad) ∧ FnOk g.P g.w g.K g.mg g.base (L2.CX g.P g.w) k ad fd ps (PSpec g (g.G.call f)) ∧ PySem.W.keepIn g.K (.ref ad) = true ∧ Binds g.K fd ps []
  blt : ∀ x, x ∈ c.blt → g.mg x = none
  gls : ∀ x, x ∈ c.gls → ∃ u v d, g.mg x = some u ∧ RelV v u ∧ g.G.glob x = some d ∧ ∀ F, Dq g.K F v d
  fnc : ∀ x, (match c.fnB with | none => true | some ns => ns.lookup x == some .cell) = true → X.fn x = true
  exs : ∀ x, x ∈ c.exs → ∃ (C : Addr) (B newId initId : String) (bmB : List Value), ExcBaseFacts B newId initId bmB ∧ PySem.W.excIn g.K C bmB newId = true ∧ g.mg x = some (.ref C) ∧ PySem.W.keepIn g.K (.ref C) = true ∧
    PySem.W.subIn g.K (.ref C) (.type "BaseException") = some true ∧ PySem.W.typeIn g.K (.ref C) = some (.type "type")
  exm : ∀ x y b, g.G.exm x y = some b → ∃ (C : Addr) (u : Value), g.mg x = some (.ref C) ∧ g.mg y = some u ∧ PySem.W.exmOne g.K (.ref C) u = some b
  cls : ∀ d, d ∈ c.cls → ∃ C fI fd ps, g.cl d.nm = some C ∧ g.mg d.nm = some (.ref C) ∧ Cls g.K C ∧ (∀ f, f ∈ d.fl → NoAttr g.K C f) ∧ Mk g.K C fI ∧ FnOk g.P g.w g.K g.mg g.base (L2.CX g.P g.w) k fI fd ps (PSpec g (g.G.call d.init)) ∧ Binds g.K fd ps [] ∧
    ∀ m i, (m, i) ∈ d.mts → ∃ a fd ps, Meth g.K C m a ∧ FnOk g.P g.w g.K g.mg g.base (L2.CX g.P g.w) k a fd ps (PSpec g (g.G.call i)) ∧ Binds g.K fd ps []
  hds : ∀ x, x ∈ c.hds → ∃ C : Addr, g.mg x = some (.ref C)
  tk : Takes X W
  stk0 : c.fnB.isNone = true → X.stack = X.env :: X.outer ∧ X.env.frame = some X.env.locals
section
variable {g : Gx} {c : CC} {k : Nat} {W : WX} {X : Cx}
theorem XOk.hu (ok : XOk g c k W X) : X.A.units + 65 < cLine := by
  have := ok.un
  omega
end

/-- quiet code leaves all objects as they are; the trees of its value are new -/
structure Qt (H H' : Hp) (Ao : AS) : Prop where
  s : Sub H H'
  f : ∀ a, Ao a → H a = none
theorem Sub.none {H H' : Hp} (s : Sub H H') {a : Addr} (h : H' a = none) : H a = none := by
  cases e : H a with
  | none => rfl
  | some o => rw [s a o e] at h; cases h
theorem Sub.qt {H H1 H' : Hp} {Ao : AS} (s : Sub H H1) (q : Qt H1 H' Ao) : Qt H H' Ao := ⟨s.trans q.s, fun a z => s.none (q.f a z)⟩
theorem Qt.join {H H1 H' : Hp} {Ao Bo : AS} (p : Qt H H1 Ao) (q : Qt H1 H' Bo) : Qt H H' (fun a => Ao a ∨ Bo a) := ⟨p.s.trans q.s, fun a z => z.elim (p.f a) fun z => p.s.none (q.f a z)⟩
theorem Qt.refl {H : Hp} : Qt H H (fun _ => False) := ⟨.refl _, fun _ z => z.elim⟩
/-! ### what follows an outcome -/
def Post (g : Gx) (W : WX) (q : Bool) (F : Hp) (A : AS) (σ : L2.St) (H : Hp) : Out Hd → VK → Prop
  | .ok h ro', Q => ∀ v F' H' A' Ao, Stp F H A F' H' (fun a => A' a ∨ Ao a) → SR g.K g.cl F' A' ro' σ H' → HR g.K g.cl F' H' A' σ h v Ao → (q = true → Qt H H' Ao) → Q v H'
  | .exc x ro', _ => ∀ C F' H' A', g.mg x.cls = some (.ref C) → Stp F H A F' H' A' → SR g.K g.cl F' A' ro' σ H' → W (.ref C) none σ H'
  | .stuck, _ => False
def PostT (g : Gx) (W : WX) (q : Bool) (F : Hp) (A : AS) (σ : L2.St) (H : Hp) : Out Hd → (Bool → Hp → Prop) → Prop
  | .ok h ro', Q => ∃ b, h.bool ro' = some b ∧ ∀ F' H' A', Stp F H A F' H' A' → SR g.K g.cl F' A' ro' σ H' → (q = true → Sub H H') → Q b H'
  | .exc x ro', _ => ∀ C F' H' A', g.mg x.cls = some (.ref C) → Stp F H A F' H' A' → SR g.K g.cl F' A' ro' σ H' → W (.ref C) none σ H'
  | .stuck, _ => False
/-- several values on the way, with their trees -/
def HRs (K : PySem.W.Frag) (cl : ClW) (F H : Hp) (A : AS) (σ : L2.St) : List Hd → List V → AS → Prop
  | [], vs, Ao => vs = [] ∧ ∀ a, ¬ Ao a
  | h :: hs, vs, Ao => ∃ v ws B C, vs = v :: ws ∧ HR K cl F H A σ h v B ∧ HRs K cl F H A σ hs ws C ∧ (∀ a, B a → C a → False) ∧ ∀ a, Ao a ↔ B a ∨ C a
def PostA (g : Gx) (W : WX) (q : Bool) (F : Hp) (A : AS) (σ : L2.St) (H : Hp) : Out (List Hd) → (List V → Hp → Prop) → Prop
  | .ok hs ro', Q => ∀ vs F' H' A' Ao, Stp F H A F' H' (fun a => A' a ∨ Ao a) → SR g.K g.cl F' A' ro' σ H' → HRs g.K g.cl F' H' A' σ hs vs Ao → (q = true → Qt H H' Ao) → Q vs H'
  | .exc x ro', _ => ∀ C F' H' A', g.mg x.cls = some (.ref C) → Stp F H A F' H' A' → SR g.K g.cl F' A' ro' σ H' → W (.ref C) none σ H'
  | .stuck, _ => False
def rdE (g : Gx) (W : WX) (q : Bool) (f : Ro → Out Hd) : TE := fun σ H Q => ∃ F A ro, SR g.K g.cl F A ro σ H ∧ Post g W q F A σ H (f ro) Q
def rdT (g : Gx) (W : WX) (q : Bool) (f : Ro → Out Hd) : TT := fun σ H Q => ∃ F A ro, SR g.K g.cl F A ro σ H ∧ PostT g W q F A σ H (f ro) Q
def rdA (g : Gx) (W : WX) (q : Bool) (f : Ro → Out (List Hd)) : TA := fun σ H Q => ∃ F A ro, SR g.K g.cl F A ro σ H ∧ PostA g W q F A σ H (f ro) Q
section
variable {g : Gx} {W : WX} {q qa : Bool} {F F1 H H1 : Hp} {A A1 T : AS} {σ : L2.St} {Q R : VK}
theorem Post.bind {r : Out Hd} {f : Hd → Ro → Out Hd} (h : Post g W q F A σ H (r.bind f) Q)
    (k : ∀ hd ro1, r = .ok hd ro1 → Post g W q F A σ H (f hd ro1) Q → ∀ v F1 H1 A1 Ao, Stp F H A F1 H1 (fun a => A1 a ∨ Ao a) → SR g.K g.cl F1 A1 ro1 σ H1 → HR g.K g.cl F1 H1 A1 σ hd v Ao → (qa = true → Qt H H1 Ao) → R v H1) : Post g W qa F A σ H r R := by
  cases r with
  | ok hd ro1 => exact k hd ro1 rfl h
  | exc x ro1 => exact h
  | stuck => exact h
theorem Post.bindA {r : Out (List Hd)} {f : List Hd → Ro → Out Hd} {R : List V → Hp → Prop} (h : Post g W q F A σ H (r.bind f) Q)
    (k : ∀ hd ro1, r = .ok hd ro1 → Post g W q F A σ H (f hd ro1) Q → ∀ v F1 H1 A1 Ao, Stp F H A F1 H1 (fun a => A1 a ∨ Ao a) → SR g.K g.cl F1 A1 ro1 σ H1 → HRs g.K g.cl F1 H1 A1 σ hd v Ao → (qa = true → Qt H H1 Ao) → R v H1) : PostA g W qa F A σ H r R := by
  cases r with
  | ok hd ro1 => exact k hd ro1 rfl h
  | exc x ro1 => exact h
  | stuck => exact h
theorem PostA.bind {r : Out Hd} {f : Hd → Ro → Out (List Hd)} {Q : List V → Hp → Prop} (h : PostA g W q F A σ H (r.bind f) Q)
    (k : ∀ hd ro1, r = .ok hd ro1 → PostA g W q F A σ H (f hd ro1) Q → ∀ v F1 H1 A1 Ao, Stp F H A F1 H1 (fun a => A1 a ∨ Ao a) → SR g.K g.cl F1 A1 ro1 σ H1 → HR g.K g.cl F1 H1 A1 σ hd v Ao → (qa = true → Qt H H1 Ao) → R v H1) : Post g W qa F A σ H r R := by
  cases r with
  | ok hd ro1 => exact k hd ro1 rfl h
  | exc x ro1 => exact h
  | stuck => exact h
theorem Post.shift {r : Out Hd} (h : Post g W q F A σ H r Q) (st : Stp F H A F1 H1 (fun a => A1 a ∨ T a)) (hq : q = true → Sub H H1) : Post g W q F1 A1 σ H1 r Q := by
  cases r with
  | ok hd ro1 =>
    intro v F' H' A' Ao s2 S hv hs
    exact h v F' H' A' Ao ((st.trans (s2.frame T)).weak fun a z => .inl z) S hv fun e => (hq e).qt (hs e)
  | exc x ro1 =>
    intro C F' H' A' hm s2 S
    exact h C F' H' A' hm ((st.trans (s2.frame T)).weak fun a z => .inl z) S
  | stuck => exact h
theorem PostT.shift {r : Out Hd} {Q : Bool → Hp → Prop} (h : PostT g W q F A σ H r Q) (st : Stp F H A F1 H1 (fun a => A1 a ∨ T a)) (hq : q = true → Sub H H1) : PostT g W q F1 A1 σ H1 r Q := by
  cases r with
  | ok hd ro1 =>
    obtain ⟨b, hb, h⟩ := h
    exact ⟨b, hb, fun F' H' A' s2 S hs => h F' H' A' ((st.trans (s2.frame T)).weak fun a z => .inl z) S fun e => (hq e).trans (hs e)⟩
  | exc x ro1 =>
    intro C F' H' A' hm s2 S
    exact h C F' H' A' hm ((st.trans (s2.frame T)).weak fun a z => .inl z) S
  | stuck => exact h
theorem Post.mono {q q' : Bool} {r : Out Hd} (h : Post g W q F A σ H r Q) (e : q = true → q' = true) : Post g W q' F A σ H r Q := by
  cases r with
  | ok hd ro1 => exact fun v F' H' A' Ao st S hv hs => h v F' H' A' Ao st S hv fun z => hs (e z)
  | exc x ro1 => exact h
  | stuck => exact h
theorem PostT.mono {q q' : Bool} {r : Out Hd} {Q : Bool → Hp → Prop} (h : PostT g W q F A σ H r Q) (e : q = true → q' = true) : PostT g W q' F A σ H r Q := by
  cases r with
  | ok hd ro1 =>
    obtain ⟨b, hb, h⟩ := h
    exact ⟨b, hb, fun F' H' A' st S hs => h F' H' A' st S fun z => hs (e z)⟩
  | exc x ro1 => exact h
  | stuck => exact h
theorem PostA.mono {q q' : Bool} {r : Out (List Hd)} {Q : List V → Hp → Prop} (h : PostA g W q F A σ H r Q) (e : q = true → q' = true) : PostA g W q' F A σ H r Q := by
  cases r with
  | ok hd ro1 => exact fun v F' H' A' Ao st S hv hs => h v F' H' A' Ao st S hv fun z => hs (e z)
  | exc x ro1 => exact h
  | stuck => exact h
theorem PostA.shift {r : Out (List Hd)} {Q : List V → Hp → Prop} (h : PostA g W q F A σ H r Q) (st : Stp F H A F1 H1 (fun a => A1 a ∨ T a)) (hq : q = true → Sub H H1) : PostA g W q F1 A1 σ H1 r Q := by
  cases r with
  | ok hd ro1 =>
    intro v F' H' A' Ao s2 S hv hs
    exact h v F' H' A' Ao ((st.trans (s2.frame T)).weak fun a z => .inl z) S hv fun e => (hq e).qt (hs e)
  | exc x ro1 =>
    intro C F' H' A' hm s2 S
    exact h C F' H' A' hm ((st.trans (s2.frame T)).weak fun a z => .inl z) S
  | stuck => exact h
/-- a data result is handed on -/
theorem Post.res {ro : Ro} {o : O} {v : V} {H' : Hp} (h : Post g W q F A σ H (.ok (.tm o) ro) Q) (S : SR g.K g.cl F A ro σ H) (r : Res g.K F H o v H') : Q v H' := by
  have old : ∀ {x : PyData}, o = .d x → H' = H → Dq g.K F v x → Q v H' := fun {x} e1 e2 hx => by
    subst e1; subst e2
    exact h v F H' A (fun _ => False) (Stp.refl.weak fun a z => z.elim id False.elim) S ⟨.d hx, fun _ z => z.elim⟩ fun _ => .refl
  cases o with
  | d x =>
    cases x with
    | tuple xs =>
      rcases r with ⟨e, hx⟩ | ⟨p, vs, rfl, hp, rfl, hx⟩
      · exact old rfl e hx
      · obtain ⟨S1, s1⟩ := S.newF (ob := .tup vs) hp
        have fp : F p = none := by
          cases e : F p with
          | none => rfl
          | some u => rw [S.sub p u e] at hp; cases hp
        refine h _ _ _ A (fun _ => False) (s1.weak fun a z => z.elim id False.elim) S1 ⟨.d (.tup (SqT.of upd_same) (Dq.monoAll (Sub.new fp) _ _ hx)), fun _ z => z.elim⟩ fun _ => ⟨Sub.new hp, fun _ z => z.elim⟩
    | none => exact old rfl r.1 r.2
    | bool _ => exact old rfl r.1 r.2
    | int _ => exact old rfl r.1 r.2
    | str _ => exact old rfl r.1 r.2
    | list _ => exact old rfl r.1 r.2
    | dict _ => exact old rfl r.1 r.2
  | lst os =>
    obtain ⟨p, vs, xs, rfl, rfl, hp, rfl, hx⟩ := r
    obtain ⟨S1, s1, fp, nA⟩ := S.newO (ob := .lst vs) hp
    refine h _ _ _ A (fun a => a = p ∨ False) ⟨s1.fr, s1.kp, s1.nf, fun a z => ?_⟩ S1 ⟨.lst upd_same (ORs.ofData hx) (fun z => z) fp, fun a z w => ?_⟩ fun _ => ⟨Sub.new hp, fun a z => z.elim (fun z => by rw [z]; exact hp) False.elim⟩
    · rcases z with z | z | z
      · exact .inl z
      · subst z; exact .inr hp
      · exact z.elim
    · rcases z with z | z
      · subst z; exact nA w
      · exact z
  | dct _ _ => exact r.elim
  | ins _ _ _ => exact r.elim
  | scr _ => exact r.elim
/-- a scalar is handed on -/
theorem Post.sc {ro : Ro} {x : PyData} {v : V} (h : Post g W q F A σ H (.ok (.tm (.d x)) ro) Q) (S : SR g.K g.cl F A ro σ H) (hx : Dq g.K F v x) : Q v H :=
  h.res S (res_old' hx)
end
end Lw

set_option maxRecDepth 100000
/-! Lw6: the checker, and the soundness of expressions. -/
namespace Lw
open PySem L2

def Pr.nm : Pr → Str
  | .len => "len" | .int => "int" | .abs => "abs" | .max => "max" | .min => "min" | .sum => "sum" | .all => "all" | .any => "any" | .tuple => "tuple" | .list => "list" | .sorted => "sorted"
def Pr.calm : Pr → Bool
  | .max => true | .min => true | .sum => true | .all => true | .any => true | _ => false
def Tn.nm : Tn → Str
  | .int => "int" | .bool => "bool" | .str => "str" | .tuple => "tuple" | .list => "list"
/-- not a starred item, a slice, a set -/
def plainE : Expr → Bool
  | .Starred _ _ => false
  | .Slice _ _ _ _ => false
  | .Set _ _ _ => false
  | _ => true
/-- a test by its value: for expressions that the model tests by their truth -/
def testPlain : Expr → Bool
  | .UnaryOp .Not _ _ => false
  | .BoolOp _ _ _ => false
  | .IfExp _ _ _ _ => false
  | .Compare _ _ _ _ => false
  | _ => true
/-- a plain place, for a method's call -/
def baseB : Expr → Bool
  | .Name _ _ => true
  | .Attribute _ _ _ => true
  | .Subscript _ _ _ => true
  | _ => false
/-- not super() -/
def baseB2 : Expr → Bool
  | .Call (.Name x _) [] [] _ => !(x == ("super" : Str))
  | _ => true
def visB (c : CC) (x : Str) : Bool := match c.sc.names.lookup x with
  | some .local => true
  | some .cell => true
  | some .free => true
  | _ => false
def glbB (c : CC) (x : Str) : Bool := decide (c.sc.names.lookup x = some .globalImplicit) && !(x == ("__debug__" : Str)) && !(x == ("__name__" : Str))
def bltB (c : CC) (x : Str) : Bool := glbB c x && c.blt.contains x
/-- a target's slots -/
def tgSlots : CE → List Nat
  | .var i => [i]
  | .tup as => tgSlots as
  | .cons a as => tgSlots a ++ tgSlots as
  | _ => []
def locB (c : CC) (x : Str) : Bool := match c.sc.names.lookup x with
  | some .local => true
  | some .cell => (match c.fnB with
    | none => true
    | some ns => ns.lookup x == some .cell)
  | _ => false
mutual
/-- targets: names, tuples of targets -/
def chkT (c : CC) : CE → Expr → Bool
  | .var i, e => match e with
    | .Name x _ => decide (c.N[i]? = some x) && locB c x
    | _ => false
  | .tup ts, e => match e with
    | .Tuple es _ _ => chkTs c ts es
    | _ => false
  | _, _ => false
def chkTs (c : CC) : CE → List Expr → Bool
  | .nil, es => match es with
    | [] => true
    | _ => false
  | .cons t ts, es => match es with
    | e :: es => plainE e && chkT c t e && chkTs c ts es
    | _ => false
  | _, _ => false
end
mutual
def chk (c : CC) : CE → Expr → Bool
  | .var i, e => match e with
    | .Name x _ => decide (c.N[i]? = some x) && visB c x && !(x == ("__debug__" : Str)) && !(x == ("__classdict__" : Str))
    | _ => false
  | .int n, e => match e with
    | .Constant (.int m) _ _ => decide (n = m)
    | _ => false
  | .bl b, e => match e with
    | .Constant (.bool b') _ _ => b == b'
    | _ => false
  | .non, e => match e with
    | .Constant .none _ _ => true
    | _ => false
  | .str s, e => match e with
    | .Constant (.str s') _ _ => decide (s = s')
    | _ => false
  | .glob x, e => match e with
    | .Name y _ => decide (x = y) && glbB c x && c.gls.contains x
    | _ => false
  | .bin op a b, e => match e with
    | .BinOp x op' y _ => decide (op = op') && chk c a x && chk c b y
    | _ => false
  | .neg a, e => match e with
    | .UnaryOp .USub x _ => chk c a x
    | _ => false
  | .not a, e => match e with
    | .UnaryOp .Not x _ => chk c a x
    | _ => false
  | .and a r, e => match e with
    | .BoolOp .And (x :: y :: rest) pos => chk c a x && chk c r (.BoolOp .And (y :: rest) pos)
    | _ => false
  | .or a r, e => match e with
    | .BoolOp .Or (x :: y :: rest) pos => chk c a x && chk c r (.BoolOp .Or (y :: rest) pos)
    | _ => false
  | .one a, e => match e with
    | .BoolOp _ [x] _ => chk c a x
    | _ => false
  | .cmp op a b, e => match e with
    | .Compare x [op'] [y] _ => decide (op = op') && chk c a x && chk c b y && plainE y
    | _ => false
  | .chain o1 o2 a b d, e => match e with
    | .Compare x [p1, p2] [y, z] _ => decide (o1 = p1) && decide (o2 = p2) && chk c a x && chk c b y && chk c d z && plainE z
    | _ => false
  | .ifx t a b, e => match e with
    | .IfExp t' a' b' _ => chk c t t' && chk c a a' && chk c b b'
    | _ => false
  | .tup as, e => match e with
    | .Tuple es _ _ => chks c as es
    | _ => false
  | .lst as, e => match e with
    | .List es _ => chks c as es
    | _ => false
  | .idx a i, e => match e with
    | .Subscript x y _ => chk c a x && chk c i y && plainE y
    | _ => false
  | .slc a lo hi, e => match e with
    | .Subscript x (.Slice l u none _) _ => chk c a x && chkO c lo l && chkO c hi u
    | _ => false
  | .call f as, e => match e with
    | .Call (.Name x _) (e :: es) [] _ => c.calm && decide (c.fns[f]? = some x) && glbB c x && chks c as (e :: es)
    | _ => false
  | .prim p as, e => match e with
    | .Call (.Name x _) (e :: es) [] _ => (c.calm || !p.calm) && decide (x = p.nm) && bltB c x && chks c as (e :: es)
    | _ => false
  | .isi a T, e => match e with
    | .Call (.Name x _) [y, .Name z _] [] _ => decide (x = ("isinstance" : Str)) && bltB c x && decide (z = T.nm) && bltB c z && chk c a y && plainE y
    | _ => false
  | .comp q own elt tg it ifs, e => match e with
    | .ListComp e' [⟨t', i', ifs', 0⟩] scope _ => c.calm && c.fnB.isNone && chkI c it t' i' && plainE i' && blkC c.N c.sc scope own && (tgSlots tg).all (fun i => (own.map (·.2)).contains i) &&
      chkT { c with sc := relS scope c.sc, fnB := some scope.names } tg t' && chks { c with sc := relS scope c.sc, fnB := some scope.names } ifs ifs' && chk { c with sc := relS scope c.sc, fnB := some scope.names } elt e'
    | _ => false
  | .nox (.comp q own elt tg it ifs), e => match e with
    | .ListComp e' [⟨t', i', ifs', 0⟩] scope _ => c.calm && chkI c it t' i' && plainE i' && blkC c.N c.sc scope own && (tgSlots tg).all (fun i => (own.map (·.2)).contains i) &&
      chkT { c with sc := relS scope c.sc, fnB := some scope.names } tg t' && chks { c with sc := relS scope c.sc, fnB := some scope.names } ifs ifs' && chk { c with sc := relS scope c.sc, fnB := some scope.names } elt e'
    | _ => false
  | .mth m o as, e => match e with
    | .Call (.Attribute o' a apos) (e :: es) [] cpos => decide (m ≠ .pop) && decide (a = m.nm) && baseB o' && decide (apos.endLine = cpos.line) && decide (es.length < 20) && chk c o o' && chks c as (e :: es)
    | .Call (.Attribute o' a apos) [] [] cpos => decide (m = .pop) && isNil as && decide (a = m.nm) && baseB o' && decide (apos.endLine = cpos.line) && chk c o o'
    | _ => false
  | .rev a, e => match e with
    | .Subscript x (.Slice none none (some (.UnaryOp .USub (.Constant (.int n) _ _) _)) _) _ => decide (n = 1) && chk c a x
    | _ => false
  | .rgl t a b, e => match e with
    | .Call (.Name x _) [.Call (.Name y _) [u] [] _] [] _ => c.calm && isNil b && decide (x = if t then ("tuple" : Str) else "list") && bltB c x && decide (y = ("range" : Str)) && bltB c y && plainE u && chk c a u
    | .Call (.Name x _) [.Call (.Name y _) [u, v] [] _] [] _ => c.calm && !(isNil b) && decide (x = if t then ("tuple" : Str) else "list") && bltB c x && decide (y = ("range" : Str)) && bltB c y && plainE u && plainE v && chk c a u && chk c b v
    | _ => false
  | .share i a, e => testPlain e && chk c a e
  | .sset a, e => match e with
    | .Call (.Name x _) [.Call (.Name y _) [u] [] _] [] _ => c.calm && decide (x = ("sorted" : Str)) && bltB c x && decide (y = ("set" : Str)) && bltB c y && plainE u && chk c a u
    | _ => false
  | .dsort a, e => match e with
    | .Call (.Name x _) [u] [] _ => c.calm && decide (x = ("sorted" : Str)) && bltB c x && plainE u && chk c a u
    | _ => false
  | .dnew, e => match e with
    | .Dict [] [] _ => true
    | _ => false
  | .fr i, e => match e with
    | .Name x _ => decide (c.N[i]? = some x) && visB c x && !(x == ("__debug__" : Str)) && !(x == ("__classdict__" : Str))
    | _ => false
  | .at_ a i, e => match e with
    | .Subscript x y _ => chk c a x && chk c i y && plainE y
    | _ => false
  | .mv i, e => match e with
    | .Name x _ => decide (c.N[i]? = some x) && visB c x && !(x == ("__debug__" : Str)) && !(x == ("__classdict__" : Str))
    | _ => false
  | .done a b, e => match e with
    | .Dict [some x] [y] _ => chk c a x && chk c b y
    | _ => false
  | .dget a i, e => match e with
    | .Subscript x y _ => chk c a x && chk c i y && plainE y
    | _ => false
  | .din n a b, e => match e with
    | .Compare x [op'] [y] _ => decide (op' = if n then .NotIn else .In) && chk c a x && chk c b y && plainE y
    | _ => false
  | .attr d a f, e => match e with
    | .Attribute o x _ => decide (x = f) && baseB2 o && plainE o && c.cls.any (fun k => decide (k.nm = d) && k.fl.contains f) && chk c a o
    | _ => false
  | .meth d m f o as, e => match e with
    | .Call (.Attribute o' a apos) (e :: es) [] cpos => c.calm && decide (a = m) && baseB2 o' && decide (apos.endLine = cpos.line) && decide (es.length < 20) && c.cls.any (fun k => decide (k.nm = d) && k.mts.contains (m, f)) && chk c o o' && chks c as (e :: es)
    | .Call (.Attribute o' a apos) [] [] cpos => c.calm && decide (a = m) && baseB2 o' && decide (apos.endLine = cpos.line) && isNil as && c.cls.any (fun k => decide (k.nm = d) && k.mts.contains (m, f)) && chk c o o'
    | _ => false
  | .new d f as, e => match e with
    | .Call (.Name x _) (e :: es) [] _ => c.calm && decide (x = d) && glbB c x && c.cls.any (fun k => decide (k.nm = d) && decide (k.init = f)) && chks c as (e :: es)
    | _ => false
  | .bad, _ => true
  | _, _ => false
def chks (c : CC) : CE → List Expr → Bool
  | .nil, es => match es with
    | [] => true
    | _ => false
  | .cons a as, es => match es with
    | e :: es => plainE e && chk c a e && chks c as es
    | _ => false
  | _, _ => false
def chkO (c : CC) : CE → Option Expr → Bool
  | .nil, e => match e with
    | none => true
    | _ => false
  | .cons a .nil, e => match e with
    | some e => chk c a e
    | _ => false
  | _, _ => false
def chkI (c : CC) : CE → Expr → Expr → Bool
  | .seq a, _, e => plainE e && chk c a e
  | .rng as, _, e => match e with
    | .Call (.Name x _) [e] [] _ => decide (x = ("range" : Str)) && bltB c x && chks c as [e]
    | .Call (.Name x _) [e, e2] [] _ => decide (x = ("range" : Str)) && bltB c x && chks c as [e, e2]
    | _ => false
  | .enum as, .Tuple _ _ _, e => match e with
    | .Call (.Name x _) [e] [] _ => decide (x = ("enumerate" : Str)) && bltB c x && chks c as [e]
    | _ => false
  | .zip as, .Tuple _ _ _, e => match e with
    | .Call (.Name x _) [e, e2] [] _ => decide (x = ("zip" : Str)) && bltB c x && chks c as [e, e2]
    | _ => false
  | _, _, _ => false
end
section
variable {g : Gx} {c : CC} {k : Nat} {W : WX} {X : Cx}
theorem star_of {e : Expr} {es : List Expr} {env : Env} (h : plainE e = true) : starEach (e :: es) env = (false, eval e env) :: starEach es env := by
  cases e <;> first | rfl | cases h
theorem ix_of {b : Expr} (h : plainE b = true) : PlainIx b := fun o i => by
  cases b <;> first | rfl | cases h
theorem mark_of {b : Expr} {op : CmpOp} (h : plainE b = true) : behindInMarks op b = false := by
  cases b <;> first | rfl | cases h
theorem fold_of {e : Expr} {env : Env} (h : plainE e = true) (x : Value) : foldedSetIterable e env x = pure x := by
  cases e <;> first | rfl | cases h
theorem XOk.vis (ok : XOk g c k W X) {x : Str} (h : visB c x = true) : Vis X.env.scope x := by
  unfold visB at h
  rw [ok.sc]
  unfold Vis
  split at h
  · exact .inl (by assumption)
  · exact .inr (.inl (by assumption))
  · exact .inr (.inr (by assumption))
  · cases h
theorem XOk.loc (ok : XOk g c k W X) {x : Str} (h : locB c x = true) : L2.Loc X.env.scope x ∧ (X.fn x = true ∨ X.env.scope.names.lookup x = some .local) := by
  unfold locB at h
  rw [ok.sc]
  unfold L2.Loc
  split at h
  · exact ⟨.inl (by assumption), .inr (by assumption)⟩
  · exact ⟨.inr (by assumption), .inl (ok.fnc x h)⟩
  · cases h
theorem XOk.glb (ok : XOk g c k W X) {x : Str} (h : glbB c x = true) : Gl X x ∧ (x == ("__debug__" : Str)) = false ∧ x ≠ "__name__" := by
  unfold glbB at h
  simp only [Bool.and_eq_true, decide_eq_true_eq, Bool.not_eq_true'] at h
  refine ⟨?_, h.1.2, ?_⟩
  · show X.env.scope.names.lookup x = _
    rw [ok.sc]
    exact h.1.1
  · exact beq_eq_false_iff_ne.mp h.2
theorem XOk.bltn (ok : XOk g c k W X) {x : Str} (h : bltB c x = true) : Gl X x ∧ (x == ("__debug__" : Str)) = false ∧ x ≠ "__name__" ∧ X.mg x = none := by
  unfold bltB at h
  rw [Bool.and_eq_true] at h
  obtain ⟨h1, h2, h3⟩ := ok.glb h.1
  refine ⟨h1, h2, h3, ?_⟩
  rw [ok.mm]
  exact ok.blt x (by simpa using h.2)

/-- a slice's part, read as a list of arguments -/
def tOof (t : TA) : TO := fun σ H Q => t σ H fun vs H1 => (vs = [] ∧ Q none H1) ∨ ∃ i, vs = [.int i] ∧ Q (some i) H1
/-- what a loop gets from an iterator: the i-th of xs at the i-th turn, while the objects of B stay -/
structure IterFor (K : PySem.W.Frag) (F B : Hp) (J : It) (xs : List PyData) : Prop where
  go : ∀ (i : Nat) (x : PyData) (H : Hp), xs[i]? = some x → Sub B H → J.go i H ∧ ∀ v H', J.yld i H v H' → Res K F H (.d x) v H'
  stop : ∀ (H : Hp), Sub B H → J.stop xs.length H
def PostI (g : Gx) (W : WX) (q z : Bool) (F : Hp) (A : AS) (σ : L2.St) (H : Hp) : Out (List PyData) → (It → Hp → Prop) → Prop
  | .ok xs ro', R => ∀ J F' H' A', Stp F H A F' H' A' → SR g.K g.cl F' A' ro' σ H' → IterFor g.K F' (if z then F' else H') J xs → (q = true → Sub H H') → R J H'
  | .exc x ro', _ => ∀ C F' H' A', g.mg x.cls = some (.ref C) → Stp F H A F' H' A' → SR g.K g.cl F' A' ro' σ H' → W (.ref C) none σ H'
  | .stuck, _ => False
def rdI (g : Gx) (W : WX) (q z : Bool) (f : Ro → Out (List PyData)) : TI := fun σ H R => ∃ F A ro, SR g.K g.cl F A ro σ H ∧ PostI g W q z F A σ H (f ro) R
/-! ### the tests of a clause -/
def PostB (g : Gx) (W : WX) (q : Bool) (F : Hp) (A : AS) (σ : L2.St) (H : Hp) : Out Bool → (Bool → Hp → Prop) → Prop
  | .ok b ro', Q => ∀ F' H' A', Stp F H A F' H' A' → SR g.K g.cl F' A' ro' σ H' → (q = true → Sub H H') → Q b H'
  | .exc x ro', _ => ∀ C F' H' A', g.mg x.cls = some (.ref C) → Stp F H A F' H' A' → SR g.K g.cl F' A' ro' σ H' → W (.ref C) none σ H'
  | .stuck, _ => False
def rdB (g : Gx) (W : WX) (q : Bool) (f : Ro → Out Bool) : TT := fun σ H Q => ∃ F A ro, SR g.K g.cl F A ro σ H ∧ PostB g W q F A σ H (f ro) Q
/-- what is shown of each piece of syntax -/
structure Snd (g : Gx) (ce : CE) : Prop where
  E : ∀ {c : CC} {k : Nat} {W : WX} {X : Cx}, XOk g c k W X → ∀ {e : Expr}, chk c ce e = true → PE X e (rdE g W (qt ce) (ev g.G ce))
  T : ∀ {c : CC} {k : Nat} {W : WX} {X : Cx}, XOk g c k W X → ∀ {e : Expr}, chk c ce e = true → PT X e (rdT g W (qt ce) (ev g.G ce))
  B : ∀ {c : CC} {k : Nat} {W : WX} {X : Cx}, XOk g c k W X → ∀ {op : BoolOp} {es : List Expr} {pos : Pos}, chk c ce (.BoolOp op es pos) = true → PW X (.BoolOp op es pos) (rdT g W (qt ce) (ev g.G ce))
  L : ∀ {c : CC} {k : Nat} {W : WX} {X : Cx}, XOk g c k W X → ∀ {es : List Expr}, chks c ce es = true → PA X es (rdA g W (qt ce) (evs g.G ce))
  O : ∀ {c : CC} {k : Nat} {W : WX} {X : Cx}, XOk g c k W X → ∀ {e : Option Expr}, chkO c ce e = true → PO X e (tOof (rdA g W (qt ce) (evs g.G ce)))
  I : ∀ {c : CC} {k : Nat} {W : WX} {X : Cx} (z : Bool), XOk g c k W X → ∀ {tg e : Expr}, chkI c ce tg e = true → PI X tg e (rdI g W (qt ce) z (evI g.G z ce))
  D : ∀ {c : CC} {k : Nat} {W : WX} {X : Cx}, XOk g c k W X → ∀ {es : List Expr}, chks c ce es = true → PTs X es (rdB g W (qt ce) (evB g.G ce))

theorem isTrue_of {e : Expr} {env : Env} (h : testPlain e = true) (whole : Sem Value) : isTrue e env whole = (do let v ← whole; standAt e.pos; holding [v] (truthy v)) := by
  cases e with
  | UnaryOp op a p => cases op <;> first | rfl | cases h
  | BoolOp _ _ _ => cases h
  | IfExp _ _ _ _ => cases h
  | Compare _ _ _ _ => cases h
  | _ => rfl
theorem PostT.val {q : Bool} {F : Hp} {A : AS} {σ : L2.St} {H : Hp} {r : Out Hd} {Q : Bool → Hp → Prop} (h : PostT g W q F A σ H r Q) : Post g W q F A σ H r (fun x H1 => ∃ b, x = .bl b ∧ Q b H1) := by
  cases r with
  | ok hd ro1 =>
    obtain ⟨b, hb, h⟩ := h
    intro v F' H' A' Ao st S hv hs
    exact ⟨b, hv.bool S hb, h F' H' A' (st.weak fun a z => .inl z) S fun z => (hs z).s⟩
  | exc x ro1 => exact h
  | stuck => exact h
theorem pt_of {q : Bool} {f : Ro → Out Hd} {e : Expr} (h : PE X e (rdE g W q f)) (hp : testPlain e = true) : PT X e (rdT g W q f) := by
  refine ⟨fun pins s σ H Q I ⟨F, A, ro, S, hh⟩ => ?_⟩
  exact (pt_val h (fun w => isTrue_of hp w)).run pins s σ H Q I ⟨F, A, ro, S, hh.val⟩
theorem pw_none {q : Bool} {f : Ro → Out Hd} {es : List Expr} {op : BoolOp} {pos : Pos} (h : False) : PW X (.BoolOp op es pos) (rdT g W q f) := h.elim

theorem okD_of {h : Hd} {b : CE} (e : okD h b = true) (d : h.deep = true) : qt b = true := by
  unfold okD at e
  rw [d] at e
  exact e
theorem and2 {a b : Bool} (h : (a && b) = true) : a = true ∧ b = true := by rw [Bool.and_eq_true] at h; exact h
/-! ### leaves -/
theorem e_var (ok : XOk g c k W X) {i : Nat} {e : Expr} (h : chk c (.var i) e = true) : PE X e (rdE g W (qt (.var i)) (ev g.G (.var i))) := by
  simp only [chk] at h
  split at h
  · simp only [Bool.and_eq_true, decide_eq_true_eq, Bool.not_eq_true'] at h
    obtain ⟨⟨⟨h1, h2⟩, h3⟩, h4⟩ := h
    refine ⟨fun pins s σ H Q I ⟨F, A, ro, S, hh⟩ => ?_⟩
    refine (pe_var (i := i) (by rw [ok.hN]; exact h1) (ok.vis h2) h3 h4).run pins s σ H Q I ?_
    simp only [ev] at hh
    split at hh
    · rename_i o ho
      obtain ⟨v, Ai, B, k1, k2, _⟩ := S.rs.out ho
      exact ⟨v, k1, hh v F H A (fun _ => False) (Stp.refl.weak fun a z => z.elim id False.elim) S ⟨⟨v, k1, rfl⟩, fun _ z => z⟩ fun _ => Qt.refl⟩
    · exact hh.elim
  · cases h
theorem e_int (ok : XOk g c k W X) {n : Int} {e : Expr} (h : chk c (.int n) e = true) : PE X e (rdE g W (qt (.int n)) (ev g.G (.int n))) := by
  simp only [chk] at h
  split at h
  · have h := of_decide_eq_true h
    subst h
    refine ⟨fun pins s σ H Q I ⟨F, A, ro, S, hh⟩ => ?_⟩
    simp only [ev] at hh
    exact pe_int.run pins s σ H Q I (hh.sc S (.int _))
  · cases h
theorem e_bl (ok : XOk g c k W X) {n : Bool} {e : Expr} (h : chk c (.bl n) e = true) : PE X e (rdE g W (qt (.bl n)) (ev g.G (.bl n))) := by
  simp only [chk] at h
  split at h
  · have h := eq_of_beq h
    subst h
    refine ⟨fun pins s σ H Q I ⟨F, A, ro, S, hh⟩ => ?_⟩
    simp only [ev] at hh
    exact pe_bl.run pins s σ H Q I (hh.sc S (.bl _))
  · cases h
theorem e_non (ok : XOk g c k W X) {e : Expr} (h : chk c .non e = true) : PE X e (rdE g W (qt .non) (ev g.G .non)) := by
  simp only [chk] at h
  split at h
  · refine ⟨fun pins s σ H Q I ⟨F, A, ro, S, hh⟩ => ?_⟩
    simp only [ev] at hh
    exact pe_non.run pins s σ H Q I (hh.sc S .non)
  · cases h
theorem e_str (ok : XOk g c k W X) {n : Str} {e : Expr} (h : chk c (.str n) e = true) : PE X e (rdE g W (qt (.str n)) (ev g.G (.str n))) := by
  simp only [chk] at h
  split at h
  · have h := of_decide_eq_true h
    subst h
    refine ⟨fun pins s σ H Q I ⟨F, A, ro, S, hh⟩ => ?_⟩
    simp only [ev] at hh
    exact pe_str.run pins s σ H Q I (hh.sc S (.str _))
  · cases h
theorem e_glob (ok : XOk g c k W X) {n : Str} {e : Expr} (h : chk c (.glob n) e = true) : PE X e (rdE g W (qt (.glob n)) (ev g.G (.glob n))) := by
  simp only [chk] at h
  split at h
  · simp only [Bool.and_eq_true, decide_eq_true_eq] at h
    obtain ⟨⟨h1, h2⟩, h3⟩ := h
    subst h1
    obtain ⟨u, v, d, m1, m2, m3, m4⟩ := ok.gls n (by simpa using h3)
    obtain ⟨g1, g2, g3⟩ := ok.glb h2
    refine ⟨fun pins s σ H Q I ⟨F, A, ro, S, hh⟩ => ?_⟩
    simp only [ev, m3] at hh
    exact (pe_glob g1 (by rw [ok.mm]; exact m1) m2 g2).run pins s σ H Q I (hh.sc S (m4 F))
  · cases h
/-! ### two operands -/
theorem two_of {a b : CE} {q : Bool} {r : R2} {fin : Hd → Hd → Ro → Out Hd} {σ : L2.St} {H : Hp} {Q : VK} (hqa : q = true → qt a = true) (hqb : q = true → qt b = true)
    (hr : ∀ F A ro H1 x y h1 h2 B1 B2, SR g.K g.cl F A ro σ H1 → HR g.K g.cl F H1 A σ h1 x B1 → HR g.K g.cl F H1 A σ h2 y B2 → Post g W q F A σ H1 (fin h1 h2 ro) Q → r x y H1 Q)
    (h : rdE g W q (fun ro => (ev g.G a ro).bind fun h1 ro => if okD h1 b then (ev g.G b ro).bind fun h2 ro => fin h1 h2 ro else .stuck) σ H Q) :
    tOp r (rdE g W (qt a) (ev g.G a)) (rdE g W (qt b) (ev g.G b)) σ H Q := by
  obtain ⟨F, A, ro, S, hh⟩ := h
  refine ⟨F, A, ro, S, hh.bind fun h1 ro1 _ hh v F1 H1 A1 Ao st S1 hv hs => ?_⟩
  have hh := hh.shift st (fun z => (hs (hqa z)).s)
  split at hh
  · rename_i hd
    refine ⟨F1, A1, ro1, S1, hh.bind fun h2 ro2 _ hh2 w F2 H2 A2 Bo st2 S2 hw hs2 => ?_⟩
    have hh2 := hh2.shift st2 (fun z => (hs2 (hqb z)).s)
    obtain ⟨hv2, _⟩ := hv.step st2 (fun z => (hs2 (okD_of hd z)).s)
    exact hr _ _ _ _ _ _ _ _ _ _ S2 hv2 hw hh2
  · exact hh.elim
theorem Post.ofOpt {q : Bool} {F : Hp} {A : AS} {σ : L2.St} {H : Hp} {Q : VK} {o : Option Hd} {ro : Ro} (h : Post g W q F A σ H (.ofOpt o ro) Q) : ∃ hd, o = some hd ∧ Post g W q F A σ H (.ok hd ro) Q := by
  cases o with
  | none => exact h.elim
  | some hd => exact ⟨hd, rfl, h⟩
theorem cmp_fin {op : CmpOp} {q : Bool} {σ : L2.St} {Q : VK} {F : Hp} {A : AS} {ro : Ro} {H1 : Hp} {x y : V} {h1 h2 : Hd} {B1 B2 : AS} (S : SR g.K g.cl F A ro σ H1) (r1 : HR g.K g.cl F H1 A σ h1 x B1) (r2 : HR g.K g.cl F H1 A σ h2 y B2)
    (hh : Post g W q F A σ H1 (match h1.lookD ro, h2.lookD ro with
      | some x, some y => .ofOpt ((cmpD op x y).map fun b => .tm (.d (.bool b))) ro
      | _, _ => .stuck) Q) : rCmp g.K op x y H1 Q := by
  split at hh
  · rename_i d e e1 e2
    obtain ⟨hd, ho, hh⟩ := hh.ofOpt
    obtain ⟨o, ho2, rfl⟩ := of_map_some ho
    exact ⟨d, e, o, r1.lookD S e1, r2.lookD S e2, ho2, hh.sc S (.bl _)⟩
  · exact hh.elim
theorem e_cmp (ok : XOk g c k W X) {op : CmpOp} {a b : CE} (ia : Snd g a) (ib : Snd g b) {e : Expr} (h : chk c (.cmp op a b) e = true) : PE X e (rdE g W (qt (.cmp op a b)) (ev g.G (.cmp op a b))) := by
  simp only [chk] at h
  split at h
  · simp only [Bool.and_eq_true, decide_eq_true_eq] at h
    obtain ⟨⟨⟨h1, h2⟩, h3⟩, h4⟩ := h
    subst h1
    refine ⟨fun pins s σ H Q I hh => ?_⟩
    refine (pe_cmpR (op_cmp ok.hu op) (ia.E ok h2) (ib.E ok h3) (mark_of h4)).run pins s σ H Q I ?_
    refine two_of (q := qt (.cmp op a b)) (fun z => (and2 z).1) (fun z => (and2 z).2) (fun F A ro H1 x y h1 h2 B1 B2 S r1 r2 hh => ?_) hh
    rw [ok.kk]
    exact cmp_fin S r1 r2 hh
  · cases h
theorem t_cmp (ok : XOk g c k W X) {op : CmpOp} {a b : CE} (ia : Snd g a) (ib : Snd g b) {e : Expr} (h : chk c (.cmp op a b) e = true) : PT X e (rdT g W (qt (.cmp op a b)) (ev g.G (.cmp op a b))) := by
  simp only [chk] at h
  split at h
  · simp only [Bool.and_eq_true, decide_eq_true_eq] at h
    obtain ⟨⟨⟨h1, h2⟩, h3⟩, h4⟩ := h
    subst h1
    refine ⟨fun pins s σ H Q I hh => ?_⟩
    refine (pt_cmpR (op_cmp ok.hu op) (ia.E ok h2) (ib.E ok h3) (mark_of h4)).run pins s σ H Q I ?_
    obtain ⟨F, A, ro, S, hh⟩ := hh
    refine two_of (q := qt (.cmp op a b)) (fun z => (and2 z).1) (fun z => (and2 z).2) (fun F A ro H1 x y h1 h2 B1 B2 S r1 r2 hh => ?_) ⟨F, A, ro, S, hh.val⟩
    rw [ok.kk]
    exact cmp_fin S r1 r2 hh
  · cases h
theorem e_idx (ok : XOk g c k W X) {a b : CE} (ia : Snd g a) (ib : Snd g b) {e : Expr} (h : chk c (.idx a b) e = true) : PE X e (rdE g W (qt (.idx a b)) (ev g.G (.idx a b))) := by
  simp only [chk] at h
  split at h
  · simp only [Bool.and_eq_true] at h
    obtain ⟨⟨h2, h3⟩, h4⟩ := h
    refine ⟨fun pins s σ H Q I hh => ?_⟩
    refine (pe_ix ix_idx (ia.E ok h2) (ib.E ok h3) (ix_of h4)).run pins s σ H Q I ?_
    refine two_of (q := qt (.idx a b)) (fun z => (and2 z).1) (fun z => (and2 z).2) (fun F A ro H1 x y h1 h2 B1 B2 S r1 r2 hh => ?_) hh
    split at hh
    · rename_i d e e1 e2
      obtain ⟨hd, ho, hh⟩ := hh.ofOpt
      obtain ⟨o, ho2, rfl⟩ := of_map_some ho
      rw [ok.kk]
      exact ⟨F, d, e, o, S.sub, r1.lookF S e1, r2.lookD S e2, ho2, fun v hv => hh.sc S hv⟩
    · exact hh.elim
  · cases h
end
end Lw

set_option maxRecDepth 100000
/-! LwD: dicts whose keys are tuples, by values. -/
namespace Lw
open PySem PySem.Spec PyProof.Rows L2
section
variable {X : Cx} {pins : List (Addr × Obj)} {σ : L2.St} {F H : Hp} {s : Shared}
mutual
theorem dq_nested (I : L2.Inv X pins σ H s) (sb : Sub F H) : ∀ (k : NestedKey) (v : V) (u : Value), Dq X.K F v k.data → L2.RelV v u → NestedIs s.heap k u
  | .none, v, u, h, r => by
    cases h
    have : u = .none := r
    subst this
    exact .none
  | .num i, v, u, h, r => by
    cases h
    obtain ⟨t, rfl⟩ := r
    exact .int i t
  | .text x, v, u, h, r => by
    cases h
    obtain ⟨t, rfl⟩ := r
    exact .text x t
  | .tup ks, v, u, h, r => by
    cases h with
    | @tup a xs ds hs ha =>
      have : u = .ref a := r
      subst this
      obtain ⟨its, rv, ⟨o, ho, hc, n, hd⟩, hz⟩ := I.tuple (sb.sqT hs)
      exact .tup ho hc hd (dq_nestedAll I sb ks xs its ha rv)
theorem dq_nestedAll (I : L2.Inv X pins σ H s) (sb : Sub F H) : ∀ (ks : List NestedKey) (vs : List V) (us : List Value), DqAll X.K F vs (NestedKey.datas ks) → Vals vs us → NestedAll s.heap ks us
  | [], vs, us, h, r => by
    cases h
    cases r
    exact .nil
  | k :: ks, vs, us, h, r => by
    cases h with
    | cons h1 h2 =>
      cases r with
      | cons r1 r2 => exact .cons (dq_nested I sb k _ _ h1 r1) (dq_nestedAll I sb ks _ _ h2 r2)
end
/-- what of a dict is no matter of the heap -/
def DcF (K : PySem.W.Frag) (F : Hp) (d : Addr) (xs : NX) : Prop := KeysN K F xs ∧ (xs.map (·.1)).Nodup ∧ xs.length ≤ sizeLine ∧ (d == sysModules) = false
theorem dc_at {d : Addr} {xs : NX} (I : L2.Inv X pins σ H s) (sb : Sub F H) (e : H d = some (dcO X.w d xs)) (f : DcF X.K F d xs) : s.heap.DictOfH (nestedKind X.prog X.w) d xs := by
  obtain ⟨⟨o, es, ep, h1, h2, h3, h4⟩, _, _⟩ := I.hok d _ e
  exact ⟨o, es, ep, h1, h2, h3, h4, fun x hx => ⟨dq_nested I sb _ _ _ (f.1 x hx).1 rfl, (f.1 x hx).2⟩, f.2.1⟩
theorem dcO_ok {P : Program} {w : World} {h : Heap} {d : Addr} {xs : NX} (x : h.DictOfH (nestedKind P w) d xs) : ObjOk P w H h d (dcO w d xs) := by
  obtain ⟨o, es, ep, h1, h2, h3, h4, _, _⟩ := x
  exact ⟨⟨o, es, ep, h1, h2, h3, h4⟩, ⟨o, h1⟩, fun a b ⟨o, es, ep, q1, q2⟩ k => ⟨o, es, ep, k o q1, q2⟩⟩
/-- a tuple as a key, by data -/
def KeyV (K : PySem.W.Frag) (F : Hp) (i : V) (k : NestedKey) : Prop := (∃ b, i = .ref b) ∧ Dq K F i k.data ∧ k.depth ≤ 8
theorem key_is {i : V} {iv : Value} {k : NestedKey} (I : L2.Inv X pins σ H s) (sb : Sub F H) (h : KeyV X.K F i k) (r : L2.RelV i iv) : ∃ b, i = .ref b ∧ iv = .ref b ∧ (nestedKind X.prog X.w).is s.heap k b := by
  obtain ⟨⟨b, rfl⟩, h1, h2⟩ := h
  have : iv = .ref b := r
  subst this
  exact ⟨b, rfl, rfl, dq_nested I sb k _ _ h1 rfl, h2⟩
theorem room_n {A : Around} (h : A.units + 65 < cLine) {P : Program} {w : World} : (nestedKind P w).room A.in1 := by
  show A.in1.units + 8 < cLine
  have : A.in1.units = A.units + 1 := rfl
  omega
def rGetN (K : PySem.W.Frag) (w : World) : V → V → Hp → VK → Prop := fun o i H Q => ∃ (F : Hp) (d : Addr) (xs : NX) (k : NestedKey) (p : Addr × Value) (v : V), Sub F H ∧ o = .ref d ∧ H d = some (dcO w d xs) ∧ DcF K F d xs ∧ KeyV K F i k ∧ atKey xs k = some p ∧ L2.RelV v p.2 ∧ Q v H
theorem get_n (hu : X.A.units + 65 < cLine) : PGet X (rGetN X.K X.w) := by
  intro pins s σ H o i ov iv Q I ro ri h
  obtain ⟨F, d, xs, k, p, v, sb, rfl, e, f, kv, hp, rv, q⟩ := h
  have : ov = .ref d := ro
  subst this
  obtain ⟨b, rfl, rfl, hk⟩ := key_is I sb kv ri
  exact wpAny_getItem_heap (room_n hu) hk (dc_at I sb e f) hp ⟨v, H, I.tok _, rv, q⟩
/-- k in d, k not in d -/
def rInN (K : PySem.W.Frag) (w : World) (neg : Bool) : R2 := fun i o H Q => ∃ (F : Hp) (d : Addr) (xs : NX) (k : NestedKey), Sub F H ∧ o = .ref d ∧ H d = some (dcO w d xs) ∧ DcF K F d xs ∧ KeyV K F i k ∧ Q (.bl (xor neg (atKey xs k).isSome)) H
theorem in_n (hu : X.A.units + 65 < cLine) : OpR X (compareOp .In) (rInN X.K X.w false) := by
  intro pins s σ H x y v u Q I rx ry h
  obtain ⟨F, d, xs, k, sb, rfl, e, f, kv, q⟩ := h
  have : u = .ref d := ry
  subst this
  obtain ⟨b, rfl, rfl, hk⟩ := key_is I sb kv rx
  refine wpAny_in_heap (room_n hu) hk f.2.2.2 (dc_at I sb e f) ⟨_, H, I.tok _, ?_, q⟩
  show Value.bool _ = Value.bool _
  simp
theorem notin_n (hu : X.A.units + 65 < cLine) : OpR X (compareOp .NotIn) (rInN X.K X.w true) := by
  intro pins s σ H x y v u Q I rx ry h
  obtain ⟨F, d, xs, k, sb, rfl, e, f, kv, q⟩ := h
  have : u = .ref d := ry
  subst this
  obtain ⟨b, rfl, rfl, hk⟩ := key_is I sb kv rx
  refine wpAny_notIn_heap (room_n hu) hk f.2.2.2 (dc_at I sb e f) ⟨_, H, I.tok _, ?_, q⟩
  show Value.bool _ = Value.bool _
  simp
/-- d[k] = v -/
def rSetN (K : PySem.W.Frag) (w : World) : V → V → V → Hp → (Hp → Prop) → Prop := fun o i v H Q => ∃ (F : Hp) (d b : Addr) (xs : NX) (k : NestedKey), Sub F H ∧ o = .ref d ∧ i = .ref b ∧ H d = some (dcO w d xs) ∧ DcF K F d xs ∧ KeyV K F i k ∧ xs.length < sizeLine ∧
  ∀ u, L2.RelV v u → ((storedH xs k b u).map (·.1)).Nodup → Q (upd H d (dcO w d (storedH xs k b u)))
theorem set_n (hu : X.A.units + 65 < cLine) : PSet X (rSetN X.K X.w) := by
  intro pins s σ H o i v ov iv u Q I ro ri rv h
  obtain ⟨F, d, b, xs, k, sb, rfl, rfl, e, f, kv, hl, q⟩ := h
  have : ov = .ref d := ro
  subst this
  obtain ⟨b', eb, rfl, hk⟩ := key_is I sb kv ri
  cases eb
  have D := dc_at I sb e f
  refine wpAny_setItem_heap (hsz := f.2.2.1) (room_n hu) hk D fun h' D' hs => ⟨_, ?_, q u rv (by obtain ⟨_, _, _, _, _, _, _, _, n⟩ := D'; exact n)⟩
  exact d_write I (by rw [e]; trivial) hs (by obtain ⟨o, _, _, h1, _⟩ := D'; exact ⟨o, h1⟩) (dcO_ok D')
/-- {} -/
def tDNewN (w : World) : TE := fun _ H Q => ∀ p, H p = none → (p == sysModules) = false → Q (.ref p) (upd H p (dcO w p []))
theorem pe_dnewN {pos : Pos} : PE X (.Dict [] [] pos) (tDNewN X.w) := ⟨fun pins s σ H Q I h =>
  wpAny_Dict_empty ⟨.ref s.heap.objs.size, _, I.laid (a := s.heap.objs.size) (o := dcO X.w s.heap.objs.size []) (t' := s.toks) (fun _ _ q => Heap.get?_push_of_some _ q) (Nat.le_refl _) (dcO_ok (P := X.prog) (Heap.DictOfH.new s.heap)), rfl,
    h _ (I.hok.fresh (Nat.le_refl _)) (beq_eq_false_iff_ne.mpr (Ne.symm (Nat.ne_of_lt I.big)))⟩⟩
theorem keyT_of {x : PyData} {k : NestedKey} (h : keyT x = some k) : k.data = x ∧ k.depth ≤ 8 ∧ ∃ ks, k = .tup ks := by
  unfold keyT at h
  split at h
  · rename_i ks e
    split at h
    · rename_i hd
      cases h
      exact ⟨toKey_data x _ e, hd, ks, rfl⟩
    · cases h
  · cases h
theorem keyV_of {K : PySem.W.Frag} {F : Hp} {i : V} {x : PyData} {k : NestedKey} (h : keyT x = some k) (d : Dq K F i x) : KeyV K F i k := by
  obtain ⟨e1, e2, ks, rfl⟩ := keyT_of h
  rw [← e1] at d
  refine ⟨?_, d, e2⟩
  cases d with
  | tup _ _ => exact ⟨_, rfl⟩
mutual
theorem toKey_of_data : ∀ k : NestedKey, toKey k.data = some k
  | .none => rfl
  | .num _ => rfl
  | .text _ => rfl
  | .tup ks => by
    show toKey (.tuple (NestedKey.datas ks)) = _
    rw [toKey, toKeys_of_datas ks]
theorem toKeys_of_datas : ∀ ks : List NestedKey, toKeys (NestedKey.datas ks) = some ks
  | [] => rfl
  | k :: ks => by
    show toKeys (k.data :: NestedKey.datas ks) = _
    rw [toKeys, toKey_of_data k, toKeys_of_datas ks]
end
/-- what stands at a key -/
theorem dGet_at {K : PySem.W.Frag} {cl : ClW} {F H : Hp} {k : NestedKey} : ∀ {xs : NX} {os : List O} {vs : List V} {A : AS}, ORs K cl F H os vs A → Vals vs (xs.map (·.2.2)) →
    match dGet (xs.map (·.1.data)) os k with
    | some o => ∃ p v B, atKey xs k = some p ∧ L2.RelV v p.2 ∧ OR K cl F H o v B
    | none => atKey xs k = none
  | [], _, _, _, h, r => by
    cases r
    cases h
    rfl
  | x :: xs, _, _, _, h, r => by
    rw [List.map_cons] at r
    cases r with
    | cons r1 r2 =>
      cases h with
      | cons h1 h2 n =>
        rw [List.map_cons, dGet, toKey_of_data]
        by_cases e : x.1 = k
        · rw [if_pos (by rw [e])]
          exact ⟨x.2, _, _, by unfold atKey; rw [List.find?_cons_of_pos (by simpa using e)]; rfl, r1, h1⟩
        · rw [if_neg (fun z => e (Option.some.inj z))]
          have := dGet_at (k := k) h2 r2
          have e2 : atKey (x :: xs) k = atKey xs k := by unfold atKey; rw [List.find?_cons_of_neg (by simpa using e)]
          rw [e2]
          exact this
theorem ix_n (hu : X.A.units + 65 < cLine) : IxR X (rGetN X.K X.w) := by
  intro value slice pins s σ H x y v u Q I rx ry h hs
  have hg := get_n hu pins s σ H x y v u Q I rx ry h
  obtain ⟨F, d, xs, k, p, w, sb, rfl, e, f, kv, hp, rv, q⟩ := h
  have : v = .ref d := rx
  subst this
  exact tail_any (ops := [.ref d, u]) (T := "dict") (dc_at I sb e f).typeIs PySem.F.slot_dict_getitem.lookup hg hs
end
section
variable {g : Gx} {c : CC} {k : Nat} {W : WX} {X : Cx}
theorem dc_of {K : PySem.W.Frag} {cl : ClW} {F H : Hp} {ks : List PyData} {os : List O} {v : V} {B : AS} (h : OR K cl F H (.dct ks os) v B) : ∃ (p : Addr) (xs : NX) (vs : List V) (A : AS), v = .ref p ∧ ks = xs.map (·.1.data) ∧ H p = some (dcO cl.w p xs) ∧ DcF K F p xs ∧ Vals vs (xs.map (·.2.2)) ∧ ORs K cl F H os vs A := by
  cases h with
  | @dct p xs os vs A h1 h2 h3 h4 h5 => exact ⟨p, xs, vs, A, rfl, rfl, h1, ⟨h2.1, h2.2.2.1, h2.2.2.2.1, h2.2.2.2.2⟩, h2.2.1, h3⟩
theorem DcF.mono {K : PySem.W.Frag} {F F' : Hp} {d : Addr} {xs : NX} (e : Sub F F') (h : DcF K F d xs) : DcF K F' d xs := ⟨h.1.mono e, h.2⟩
theorem e_dget (ok : XOk g c k W X) {a b : CE} (ia : Snd g a) (ib : Snd g b) {e : Expr} (h : chk c (.dget a b) e = true) : PE X e (rdE g W (qt (.dget a b)) (ev g.G (.dget a b))) := by
  simp only [chk] at h
  split at h
  · simp only [Bool.and_eq_true] at h
    obtain ⟨⟨h2, h3⟩, h4⟩ := h
    refine ⟨fun pins s σ H Q I hh => ?_⟩
    refine (pe_ix (ix_n ok.hu) (ia.E ok h2) (ib.E ok h3) (ix_of h4)).run pins s σ H Q I ?_
    refine two_of (q := qt (.dget a b)) (fun z => (and2 z).1) (fun z => (and2 z).2) (fun F A ro H1 x y h1 h2 B1 B2 S r1 r2 hh => ?_) hh
    split at hh
    · rename_i ks os d e1 e2
      split at hh
      · rename_i kk hk
        split at hh
        · rename_i z hz
          obtain ⟨B, hB, _⟩ := r1.look S e1
          obtain ⟨p, xs, vs, A', rfl, rfl, q1, q2, q3, q4⟩ := dc_of hB
          have := dGet_at (k := kk) q4 q3
          rw [hz] at this
          obtain ⟨pp, v, B3, t1, t2, t3⟩ := this
          rw [ok.kk, ok.ww, ← ok.cw]
          cases t3 with
          | d dz => exact ⟨H1, p, xs, kk, pp, v, .refl _, rfl, q1, q2.mono S.sub, keyV_of hk (r2.lookD S e2), t1, t2, hh.sc S dz⟩
        · exact hh.elim
      · exact hh.elim
    · exact hh.elim
  · cases h
theorem din_fin {n : Bool} {q : Bool} {F : Hp} {A B1 B2 : AS} {ro : Ro} {σ : L2.St} {H1 : Hp} {x y : V} {h1 h2 : Hd} {Q : VK} (cw : g.cl.w = g.w) (S : SR g.K g.cl F A ro σ H1) (r1 : HR g.K g.cl F H1 A σ h1 x B1) (r2 : HR g.K g.cl F H1 A σ h2 y B2)
    (hh : Post g W q F A σ H1 (match h1.lookD ro, h2.look ro with
      | some x, some (.dct ks os) => match keyT x with
        | some k => .ok (.tm (.d (.bool (xor n (dGet ks os k).isSome)))) ro
        | none => .stuck
      | _, _ => .stuck) Q) : rInN g.K g.w n x y H1 Q := by
  split at hh
  · rename_i d ks os e1 e2
    split at hh
    · rename_i kk hk
      obtain ⟨B, hB, _⟩ := r2.look S e2
      obtain ⟨p, xs, vs, A', rfl, rfl, q1, q2, q3, q4⟩ := dc_of hB
      have := dGet_at (k := kk) q4 q3
      rw [← cw]
      refine ⟨H1, p, xs, kk, .refl _, rfl, q1, q2.mono S.sub, keyV_of hk (r1.lookD S e1), ?_⟩
      have e3 : (dGet (xs.map (·.1.data)) os kk).isSome = (atKey xs kk).isSome := by
        cases q : dGet (xs.map (·.1.data)) os kk with
        | none =>
          rw [q] at this
          have this : atKey xs kk = none := this
          rw [this]; rfl
        | some o => rw [q] at this; obtain ⟨_, _, _, t1, _⟩ := this; rw [t1]; rfl
      rw [e3] at hh
      exact hh.sc S (.bl _)
    · exact hh.elim
  · exact hh.elim
theorem din_op (ok : XOk g c k W X) (n : Bool) : OpR X (compareOp (if n then .NotIn else .In)) (rInN X.K X.w n) := by
  cases n with
  | true => exact notin_n ok.hu
  | false => exact in_n ok.hu
theorem e_din (ok : XOk g c k W X) {n : Bool} {a b : CE} (ia : Snd g a) (ib : Snd g b) {e : Expr} (h : chk c (.din n a b) e = true) : PE X e (rdE g W (qt (.din n a b)) (ev g.G (.din n a b))) := by
  simp only [chk] at h
  split at h
  · simp only [Bool.and_eq_true, decide_eq_true_eq] at h
    obtain ⟨⟨⟨h1, h2⟩, h3⟩, h4⟩ := h
    subst h1
    refine ⟨fun pins s σ H Q I hh => ?_⟩
    refine (pe_cmpR (din_op ok n) (ia.E ok h2) (ib.E ok h3) (mark_of h4)).run pins s σ H Q I ?_
    refine two_of (q := qt (.din n a b)) (fun z => (and2 z).1) (fun z => (and2 z).2) (fun F A ro H1 x y h1 h2 B1 B2 S r1 r2 hh => ?_) hh
    rw [ok.kk, ok.ww]
    exact din_fin ok.cw S r1 r2 hh
  · cases h
theorem t_din (ok : XOk g c k W X) {n : Bool} {a b : CE} (ia : Snd g a) (ib : Snd g b) {e : Expr} (h : chk c (.din n a b) e = true) : PT X e (rdT g W (qt (.din n a b)) (ev g.G (.din n a b))) := by
  simp only [chk] at h
  split at h
  · simp only [Bool.and_eq_true, decide_eq_true_eq] at h
    obtain ⟨⟨⟨h1, h2⟩, h3⟩, h4⟩ := h
    subst h1
    refine ⟨fun pins s σ H Q I hh => ?_⟩
    refine (pt_cmpR (din_op ok n) (ia.E ok h2) (ib.E ok h3) (mark_of h4)).run pins s σ H Q I ?_
    obtain ⟨F, A, ro, S, hh⟩ := hh
    refine two_of (q := qt (.din n a b)) (fun z => (and2 z).1) (fun z => (and2 z).2) (fun F A ro H1 x y h1 h2 B1 B2 S r1 r2 hh => ?_) ⟨F, A, ro, S, hh.val⟩
    rw [ok.kk, ok.ww]
    exact din_fin ok.cw S r1 r2 hh
  · cases h
theorem e_dnew (ok : XOk g c k W X) {e : Expr} (h : chk c .dnew e = true) : PE X e (rdE g W (qt .dnew) (ev g.G .dnew)) := by
  simp only [chk] at h
  split at h
  · refine ⟨fun pins s σ H Q I ⟨F, A, ro, S, hh⟩ => ?_⟩
    simp only [ev] at hh
    refine pe_dnewN.run pins s σ H Q I fun p hp hs => ?_
    rw [ok.ww, ← ok.cw]
    obtain ⟨S1, st, fp, na⟩ := S.newO (ob := dcO g.cl.w p []) hp
    have o : OR g.K g.cl F (upd H p (dcO g.cl.w p [])) (.dct [] []) (.ref p) (fun a => a = p ∨ False) :=
      OR.dct (xs := []) upd_same ⟨fun _ z => (nomatch z), .nil, List.nodup_nil, Nat.zero_le _, hs⟩ .nil (fun z => z) fp
    refine hh _ F _ A _ ⟨st.fr, fun a u e n => ?_, fun a z => .inl z, fun a z => ?_⟩ S1 ⟨o, fun a x y => ?_⟩ fun _ => ⟨Sub.new hp, fun a z => ?_⟩
    · exact Sub.new hp a u e
    · rcases z with z | z | z
      · exact .inl z
      · subst z; exact .inr hp
      · exact z.elim
    · rcases x with x | x
      · subst x; exact na y
      · exact x
    · rcases z with z | z
      · subst z; exact hp
      · exact z.elim
  · cases h
end
end Lw

set_option maxRecDepth 100000
/-! Lw7: the soundness of the other expressions. -/
namespace Lw
open PySem L2
section
variable {g : Gx} {c : CC} {k : Nat} {W : WX} {X : Cx}
theorem e_neg (ok : XOk g c k W X) {a : CE} (ia : Snd g a) {e : Expr} (h : chk c (.neg a) e = true) : PE X e (rdE g W (qt (.neg a)) (ev g.G (.neg a))) := by
  simp only [chk] at h
  split at h
  · refine ⟨fun pins s σ H Q I ⟨F, A, ro, S, hh⟩ => ?_⟩
    refine (pe_un un_neg (ia.E ok h)).run pins s σ H Q I ?_
    simp only [ev] at hh
    refine ⟨F, A, ro, S, hh.bind fun h1 ro1 _ hh v F1 H1 A1 Ao st S1 hv hs => ?_⟩
    have hh := hh.shift st fun z => (hs z).s
    split at hh
    · rename_i i hi
      exact ⟨i, (hv.lookD S1 hi).int_eq, hh.sc S1 (.int _)⟩
    · exact hh.elim
  · cases h
theorem e_not (ok : XOk g c k W X) {a : CE} (ia : Snd g a) {e : Expr} (h : chk c (.not a) e = true) : PE X e (rdE g W (qt (.not a)) (ev g.G (.not a))) := by
  simp only [chk] at h
  split at h
  · refine ⟨fun pins s σ H Q I ⟨F, A, ro, S, hh⟩ => ?_⟩
    refine (pe_not (ia.E ok h)).run pins s σ H Q I ?_
    simp only [ev] at hh
    refine ⟨F, A, ro, S, hh.bind fun h1 ro1 _ hh v F1 H1 A1 Ao st S1 hv hs => ?_⟩
    have hh := hh.shift st fun z => (hs z).s
    split at hh
    · rename_i b hb
      exact ⟨b, hv.bool S1 hb, hh.sc S1 (.bl _)⟩
    · exact hh.elim
  · cases h
theorem PostT.bind {q qa : Bool} {F : Hp} {A : AS} {σ : L2.St} {H : Hp} {r : Out Hd} {f : Hd → Ro → Out Hd} {Q R : Bool → Hp → Prop} (h : PostT g W q F A σ H (r.bind f) Q)
    (k : ∀ hd ro1, r = .ok hd ro1 → PostT g W q F A σ H (f hd ro1) Q → ∃ b, hd.bool ro1 = some b ∧ ∀ F1 H1 A1, Stp F H A F1 H1 A1 → SR g.K g.cl F1 A1 ro1 σ H1 → (qa = true → Sub H H1) → R b H1) : PostT g W qa F A σ H r R := by
  cases r with
  | ok hd ro1 => exact k hd ro1 rfl h
  | exc x ro1 => exact h
  | stuck => exact h
theorem Stp.asT {F H F' H' : Hp} {A A' : AS} (s : Stp F H A F' H' A') : Stp F H A F' H' (fun a => A' a ∨ False) := s.weak fun a z => z.elim id False.elim
/-- a bool that is there -/
theorem PostT.lit {q : Bool} {F : Hp} {A : AS} {σ : L2.St} {H : Hp} {b : Bool} {ro : Ro} {Q : Bool → Hp → Prop} (h : PostT g W q F A σ H (.ok (.tm (.d (.bool b))) ro) Q) (S : SR g.K g.cl F A ro σ H) : Q b H := by
  obtain ⟨b', hb, h⟩ := h
  have : b = b' := by
    simpa [Hd.bool, Hd.lookD, Hd.look, O.toD] using hb
  subst this
  exact h F H A .refl S fun _ => .refl _
theorem t_not (ok : XOk g c k W X) {a : CE} (ia : Snd g a) {e : Expr} (h : chk c (.not a) e = true) : PT X e (rdT g W (qt (.not a)) (ev g.G (.not a))) := by
  simp only [chk] at h
  split at h
  · refine ⟨fun pins s σ H Q I ⟨F, A, ro, S, hh⟩ => ?_⟩
    refine (pt_not (ia.T ok h)).run pins s σ H Q I ?_
    simp only [ev] at hh
    refine ⟨F, A, ro, S, hh.bind fun h1 ro1 _ hh => ?_⟩
    split at hh
    · rename_i b hb
      refine ⟨b, hb, fun F1 H1 A1 st S1 hs => ?_⟩
      exact (hh.shift st.asT hs).lit S1
    · exact hh.elim
  · cases h
theorem e_and (ok : XOk g c k W X) {a b : CE} (ia : Snd g a) (ib : Snd g b) {e : Expr} (h : chk c (.and a b) e = true) : PE X e (rdE g W (qt (.and a b)) (ev g.G (.and a b))) := by
  simp only [chk] at h
  split at h
  · obtain ⟨h1, h2⟩ := and2 h
    refine ⟨fun pins s σ H Q I ⟨F, A, ro, S, hh⟩ => ?_⟩
    refine (pe_and (ia.E ok h1) (ib.E ok h2)).run pins s σ H Q I ?_
    simp only [ev] at hh
    refine ⟨F, A, ro, S, hh.bind fun h1 ro1 _ hh v F1 H1 A1 Ao st S1 hv hs => ?_⟩
    have hh := hh.shift st (fun z => (hs (and2 z).1).s)
    split at hh
    · rename_i hb
      exact ⟨true, hv.bool S1 hb, by rw [if_pos rfl]; exact ⟨F1, A1, ro1, S1, hh.mono fun z => (and2 z).2⟩⟩
    · rename_i hb
      exact ⟨false, hv.bool S1 hb, by rw [if_neg Bool.false_ne_true]; exact hh.sc S1 (.bl _)⟩
    · exact hh.elim
  · cases h

theorem t_and (ok : XOk g c k W X) {a b : CE} (ia : Snd g a) (ib : Snd g b) {op : BoolOp} {es : List Expr} {pos : Pos} (h : chk c (.and a b) (.BoolOp op es pos) = true) : PW X (.BoolOp op es pos) (rdT g W (qt (.and a b)) (ev g.G (.and a b))) := by
  simp only [chk] at h
  split at h
  · rename_i x y rest pos' e
    cases e
    obtain ⟨h1, h2⟩ := and2 h
    refine ⟨fun wh pins s σ H Q I ⟨F, A, ro, S, hh⟩ => ?_⟩
    refine (pw_and (ia.T ok h1) (ib.B ok h2)).run wh pins s σ H Q I ?_
    simp only [ev] at hh
    refine ⟨F, A, ro, S, hh.bind fun h1 ro1 _ hh => ?_⟩
    split at hh
    · rename_i hb
      refine ⟨true, hb, fun F1 H1 A1 st S1 hs => ?_⟩
      rw [if_pos rfl]
      exact ⟨F1, A1, ro1, S1, (hh.shift st.asT (fun z => hs (and2 z).1)).mono fun z => (and2 z).2⟩
    · rename_i hb
      refine ⟨false, hb, fun F1 H1 A1 st S1 hs => ?_⟩
      rw [if_neg Bool.false_ne_true]
      exact (hh.shift st.asT (fun z => hs (and2 z).1)).lit S1
    · exact hh.elim
  · cases h
theorem e_or (ok : XOk g c k W X) {a b : CE} (ia : Snd g a) (ib : Snd g b) {e : Expr} (h : chk c (.or a b) e = true) : PE X e (rdE g W (qt (.or a b)) (ev g.G (.or a b))) := by
  simp only [chk] at h
  split at h
  · obtain ⟨h1, h2⟩ := and2 h
    refine ⟨fun pins s σ H Q I ⟨F, A, ro, S, hh⟩ => ?_⟩
    refine (pe_or (ia.E ok h1) (ib.E ok h2)).run pins s σ H Q I ?_
    simp only [ev] at hh
    refine ⟨F, A, ro, S, hh.bind fun h1 ro1 _ hh v F1 H1 A1 Ao st S1 hv hs => ?_⟩
    have hh := hh.shift st (fun z => (hs (and2 z).1).s)
    split at hh
    · rename_i hb
      exact ⟨false, hv.bool S1 hb, by rw [if_neg Bool.false_ne_true]; exact ⟨F1, A1, ro1, S1, hh.mono fun z => (and2 z).2⟩⟩
    · rename_i hb
      exact ⟨true, hv.bool S1 hb, by rw [if_pos rfl]; exact hh.sc S1 (.bl _)⟩
    · exact hh.elim
  · cases h
theorem t_or (ok : XOk g c k W X) {a b : CE} (ia : Snd g a) (ib : Snd g b) {op : BoolOp} {es : List Expr} {pos : Pos} (h : chk c (.or a b) (.BoolOp op es pos) = true) : PW X (.BoolOp op es pos) (rdT g W (qt (.or a b)) (ev g.G (.or a b))) := by
  simp only [chk] at h
  split at h
  · rename_i x y rest pos' e
    cases e
    obtain ⟨h1, h2⟩ := and2 h
    refine ⟨fun wh pins s σ H Q I ⟨F, A, ro, S, hh⟩ => ?_⟩
    refine (pw_or (ia.T ok h1) (ib.B ok h2)).run wh pins s σ H Q I ?_
    simp only [ev] at hh
    refine ⟨F, A, ro, S, hh.bind fun h1 ro1 _ hh => ?_⟩
    split at hh
    · rename_i hb
      refine ⟨false, hb, fun F1 H1 A1 st S1 hs => ?_⟩
      rw [if_neg Bool.false_ne_true]
      exact ⟨F1, A1, ro1, S1, (hh.shift st.asT (fun z => hs (and2 z).1)).mono fun z => (and2 z).2⟩
    · rename_i hb
      refine ⟨true, hb, fun F1 H1 A1 st S1 hs => ?_⟩
      rw [if_pos rfl]
      exact (hh.shift st.asT (fun z => hs (and2 z).1)).lit S1
    · exact hh.elim
  · cases h
theorem e_one (ok : XOk g c k W X) {a : CE} (ia : Snd g a) {e : Expr} (h : chk c (.one a) e = true) : PE X e (rdE g W (qt (.one a)) (ev g.G (.one a))) := by
  simp only [chk] at h
  split at h
  · refine ⟨fun pins s σ H Q I hh => ?_⟩
    simp only [ev] at hh
    exact (pe_one (ia.E ok h)).run pins s σ H Q I hh
  · cases h
theorem t_one (ok : XOk g c k W X) {a : CE} (ia : Snd g a) {op : BoolOp} {es : List Expr} {pos : Pos} (h : chk c (.one a) (.BoolOp op es pos) = true) : PW X (.BoolOp op es pos) (rdT g W (qt (.one a)) (ev g.G (.one a))) := by
  simp only [chk] at h
  split at h
  · rename_i e
    cases e
    refine ⟨fun wh pins s σ H Q I hh => ?_⟩
    simp only [ev] at hh
    cases op with
    | And => exact (pw_and1 (ia.T ok h)).run wh pins s σ H Q I hh
    | Or => exact (pw_or1 (ia.T ok h)).run wh pins s σ H Q I hh
  · cases h
theorem chain_of (ok : XOk g c k W X) {o1 o2 : CmpOp} {a b d : CE} {q : Bool} {σ : L2.St} {H : Hp} {Q : VK} (hqa : q = true → qt a = true) (hqb : q = true → qt b = true) (hqd : q = true → qt d = true)
    (h : rdE g W q (fun ro => (ev g.G a ro).bind fun h1 ro => if okD h1 b then (ev g.G b ro).bind fun h2 ro => match h1.lookD ro, h2.lookD ro with
      | some x, some y => match cmpD o1 x y with
        | some true => if okD h2 d then (ev g.G d ro).bind fun h3 ro => match h2.lookD ro, h3.lookD ro with
          | some y, some z => .ofOpt ((cmpD o2 y z).map fun b => .tm (.d (.bool b))) ro
          | _, _ => .stuck
          else .stuck
        | some false => .ok (.tm (.d (.bool false))) ro
        | none => .stuck
      | _, _ => .stuck
      else .stuck) σ H Q) : tChain (rCmp g.K o1) (rCmp g.K o2) (rdE g W (qt a) (ev g.G a)) (rdE g W (qt b) (ev g.G b)) (rdE g W (qt d) (ev g.G d)) σ H Q := by
  obtain ⟨F, A, ro, S, hh⟩ := h
  refine ⟨F, A, ro, S, hh.bind fun h1 ro1 _ hh v F1 H1 A1 Ao st S1 hv hs => ?_⟩
  have hh := hh.shift st (fun z => (hs (hqa z)).s)
  split at hh
  · rename_i hd
    refine ⟨F1, A1, ro1, S1, hh.bind fun h2 ro2 _ hh w F2 H2 A2 Bo st2 S2 hw hs2 => ?_⟩
    have hh := hh.shift st2 (fun z => (hs2 (hqb z)).s)
    obtain ⟨hv2, _⟩ := hv.step st2 (fun z => (hs2 (okD_of hd z)).s)
    split at hh
    · rename_i x y e1 e2
      split at hh
      · rename_i e3
        refine ⟨x, y, true, hv2.lookD S2 e1, hw.lookD S2 e2, e3, true, rfl, ?_⟩
        rw [if_pos rfl]
        split at hh
        · rename_i hd2
          refine ⟨F2, A2, ro2, S2, hh.bind fun h3 ro3 _ hh u F3 H3 A3 Co st3 S3 hu hs3 => ?_⟩
          have hh := hh.shift st3 (fun z => (hs3 (hqd z)).s)
          obtain ⟨hw2, _⟩ := hw.step st3 (fun z => (hs3 (okD_of hd2 z)).s)
          exact cmp_fin S3 hw2 hu hh
        · exact hh.elim
      · rename_i e3
        refine ⟨x, y, false, hv2.lookD S2 e1, hw.lookD S2 e2, e3, false, rfl, ?_⟩
        rw [if_neg Bool.false_ne_true]
        exact hh.sc S2 (.bl _)
      · exact hh.elim
    · exact hh.elim
  · exact hh.elim
theorem last_of {y z : Expr} {p1 p2 : CmpOp} (h : plainE z = true) : lastMarks [p1, p2] [y, z] = false := by
  show behindInMarks p2 z = false
  exact mark_of h
theorem e_chain (ok : XOk g c k W X) {o1 o2 : CmpOp} {a b d : CE} (ia : Snd g a) (ib : Snd g b) (id : Snd g d) {e : Expr} (h : chk c (.chain o1 o2 a b d) e = true) : PE X e (rdE g W (qt (.chain o1 o2 a b d)) (ev g.G (.chain o1 o2 a b d))) := by
  simp only [chk] at h
  split at h
  · simp only [Bool.and_eq_true, decide_eq_true_eq] at h
    obtain ⟨⟨⟨⟨⟨h1, h2⟩, h3⟩, h4⟩, h5⟩, h6⟩ := h
    subst h1; subst h2
    refine ⟨fun pins s σ H Q I hh => ?_⟩
    refine (pe_chain (op_cmp ok.hu o1) (op_cmp ok.hu o2) (ia.E ok h3) (ib.E ok h4) (id.E ok h5) (last_of h6)).run pins s σ H Q I ?_
    rw [ok.kk]
    exact chain_of ok (q := qt (.chain o1 o2 a b d)) (fun z => (and2 (and2 z).1).1) (fun z => (and2 (and2 z).1).2) (fun z => (and2 z).2) hh
  · cases h
theorem t_chain (ok : XOk g c k W X) {o1 o2 : CmpOp} {a b d : CE} (ia : Snd g a) (ib : Snd g b) (id : Snd g d) {e : Expr} (h : chk c (.chain o1 o2 a b d) e = true) : PT X e (rdT g W (qt (.chain o1 o2 a b d)) (ev g.G (.chain o1 o2 a b d))) := by
  simp only [chk] at h
  split at h
  · simp only [Bool.and_eq_true, decide_eq_true_eq] at h
    obtain ⟨⟨⟨⟨⟨h1, h2⟩, h3⟩, h4⟩, h5⟩, h6⟩ := h
    subst h1; subst h2
    refine ⟨fun pins s σ H Q I hh => ?_⟩
    refine (pt_chain (op_cmp ok.hu o1) (op_cmp ok.hu o2) (ia.E ok h3) (ib.E ok h4) (id.E ok h5) (last_of h6)).run pins s σ H Q I ?_
    rw [ok.kk]
    obtain ⟨F, A, ro, S, hh⟩ := hh
    exact chain_of ok (q := qt (.chain o1 o2 a b d)) (fun z => (and2 (and2 z).1).1) (fun z => (and2 (and2 z).1).2) (fun z => (and2 z).2) ⟨F, A, ro, S, hh.val⟩
  · cases h
theorem e_ifx (ok : XOk g c k W X) {a b d : CE} (ia : Snd g a) (ib : Snd g b) (id : Snd g d) {e : Expr} (h : chk c (.ifx a b d) e = true) : PE X e (rdE g W (qt (.ifx a b d)) (ev g.G (.ifx a b d))) := by
  simp only [chk] at h
  split at h
  · obtain ⟨h1, h3⟩ := and2 h
    obtain ⟨h1, h2⟩ := and2 h1
    refine ⟨fun pins s σ H Q I ⟨F, A, ro, S, hh⟩ => ?_⟩
    refine (pe_ifExp (ia.T ok h1) (ib.E ok h2) (id.E ok h3)).run pins s σ H Q I ?_
    simp only [ev] at hh
    -- the test
    have key : PostT g W (qt a) F A σ H (ev g.G a ro) (fun b1 H1 => if b1 = true then rdE g W (qt b) (ev g.G b) σ H1 Q else rdE g W (qt d) (ev g.G d) σ H1 Q) := by
      cases hr : ev g.G a ro with
      | ok hd ro1 =>
        rw [hr] at hh
        simp only [Out.bind_ok] at hh
        split at hh
        · rename_i hb
          refine ⟨true, hb, fun F1 H1 A1 st S1 hs => ?_⟩
          refine iteT ?_
          exact ⟨F1, A1, ro1, S1, (hh.shift st.asT (fun z => hs (and2 (and2 z).1).1)).mono fun z => (and2 (and2 z).1).2⟩
        · rename_i hb
          refine ⟨false, hb, fun F1 H1 A1 st S1 hs => ?_⟩
          refine iteF ?_
          exact ⟨F1, A1, ro1, S1, (hh.shift st.asT (fun z => hs (and2 (and2 z).1).1)).mono fun z => (and2 z).2⟩
        · exact hh.elim
      | exc x ro1 => rw [hr] at hh; exact hh
      | stuck => rw [hr] at hh; exact hh
    exact ⟨F, A, ro, S, key⟩
  · cases h
theorem t_ifx (ok : XOk g c k W X) {a b d : CE} (ia : Snd g a) (ib : Snd g b) (id : Snd g d) {e : Expr} (h : chk c (.ifx a b d) e = true) : PT X e (rdT g W (qt (.ifx a b d)) (ev g.G (.ifx a b d))) := by
  simp only [chk] at h
  split at h
  · rename_i t' a' b' pos
    obtain ⟨h1, h3⟩ := and2 h
    obtain ⟨h1, h2⟩ := and2 h1
    refine ⟨fun pins s σ H Q I ⟨F, A, ro, S, hh⟩ => ?_⟩
    simp only [ev] at hh
    have key : PostT g W (qt a) F A σ H (ev g.G a ro) (fun b1 H1 => if b1 = true then rdT g W (qt b) (ev g.G b) σ H1 Q else rdT g W (qt d) (ev g.G d) σ H1 Q) := by
      cases hr : ev g.G a ro with
      | ok hd ro1 =>
        rw [hr] at hh
        simp only [Out.bind_ok] at hh
        split at hh
        · rename_i hb
          refine ⟨true, hb, fun F1 H1 A1 st S1 hs => ?_⟩
          refine iteT ?_
          exact ⟨F1, A1, ro1, S1, (hh.shift st.asT (fun z => hs (and2 (and2 z).1).1)).mono fun z => (and2 (and2 z).1).2⟩
        · rename_i hb
          refine ⟨false, hb, fun F1 H1 A1 st S1 hs => ?_⟩
          refine iteF ?_
          exact ⟨F1, A1, ro1, S1, (hh.shift st.asT (fun z => hs (and2 (and2 z).1).1)).mono fun z => (and2 z).2⟩
        · exact hh.elim
      | exc x ro1 => rw [hr] at hh; exact hh
      | stuck => rw [hr] at hh; exact hh
    show wpAny _ X.A (isTrue t' X.env (eval t' X.env) >>= fun z => if z = true then isTrue a' X.env (eval a' X.env) else isTrue b' X.env (eval b' X.env)) _ _ _
    refine wpAny_bind (thn ((ia.T ok h1).run pins s σ H _ I ⟨F, A, ro, S, key⟩) fun z s1 ⟨H1, I1, q1⟩ => ?_)
    cases z with
    | true => exact (ib.T ok h2).run pins s1 σ H1 Q I1 q1
    | false => exact (id.T ok h3).run pins s1 σ H1 Q I1 q1
  · cases h

/-! ### lists of expressions -/
theorem HRs.step {K : PySem.W.Frag} {cl : ClW} {F F' H H' : Hp} {A A' T : AS} {σ : L2.St} (st : Stp F H A F' H' (fun a => A' a ∨ T a)) (d : Sub H H') : ∀ {hs : List Hd} {vs : List V} {Ao : AS}, HRs K cl F H A σ hs vs Ao → HRs K cl F' H' A' σ hs vs Ao ∧ ∀ a, Ao a → T a → False
  | [], vs, Ao, ⟨h1, h2⟩ => ⟨⟨h1, h2⟩, fun a x _ => h2 a x⟩
  | h :: hs, vs, Ao, ⟨v, ws, B, C, e, h1, h2, h3, h4⟩ => by
    obtain ⟨q1, q2⟩ := h1.step st (fun _ => d)
    obtain ⟨q3, q4⟩ := HRs.step st d h2
    exact ⟨⟨v, ws, B, C, e, q1, q3, h3, h4⟩, fun a x y => ((h4 a).mp x).elim (fun z => q2 a z y) fun z => q4 a z y⟩
theorem l_nil : ∀ {c : CC} {k : Nat} {W : WX} {X : Cx}, XOk g c k W X → ∀ {es : List Expr}, chks c .nil es = true → PA X es (rdA g W (qt .nil) (evs g.G .nil)) := by
  intro c k W X ok es h
  simp only [chks] at h
  split at h
  · refine ⟨fun pos pins s σ H Q I ⟨F, A, ro, S, hh⟩ => ?_⟩
    simp only [evs] at hh
    exact pa_nil.run pos pins s σ H Q I (hh [] F H A (fun _ => False) Stp.refl.asT S ⟨rfl, fun _ z => z⟩ fun _ => Qt.refl)
  · cases h
theorem l_cons {a as : CE} (ia : Snd g a) (ib : Snd g as) : ∀ {c : CC} {k : Nat} {W : WX} {X : Cx}, XOk g c k W X → ∀ {es : List Expr}, chks c (.cons a as) es = true → PA X es (rdA g W (qt (.cons a as)) (evs g.G (.cons a as))) := by
  intro c k W X ok es h
  simp only [chks] at h
  split at h
  · simp only [Bool.and_eq_true] at h
    obtain ⟨⟨h1, h2⟩, h3⟩ := h
    refine ⟨fun pos pins s σ H Q I ⟨F, A, ro, S, hh⟩ => ?_⟩
    refine (pa_cons (ia.E ok h2) (ib.L ok h3) (star_of h1)).run pos pins s σ H Q I ?_
    simp only [evs] at hh
    refine ⟨F, A, ro, S, PostA.bind hh fun h1 ro1 _ hh v F1 H1 A1 Ao st S1 hv hs => ?_⟩
    split at hh
    · rename_i hd
      cases hr : evs g.G as ro1 with
      | ok hs' ro2 =>
        rw [hr] at hh
        simp only [Out.bind_ok] at hh
        refine ⟨F1, A1, ro1, S1, ?_⟩
        rw [hr]
        intro ws F2 H2 A2 Bo st2 S2 hw hs2
        obtain ⟨hv2, dj⟩ := hv.step st2 (fun z => (hs2 (okD_of hd z)).s)
        refine hh (v :: ws) F2 H2 A2 (fun a => Ao a ∨ Bo a) ?_ S2 ⟨v, ws, Ao, Bo, rfl, hv2, hw, dj, fun a => Iff.rfl⟩ fun z => (hs (and2 z).1).join (hs2 (and2 z).2)
        refine (st.trans (st2.frame Ao)).weak fun a z => ?_
        rcases z with z | z | z
        · exact .inl (.inl z)
        · exact .inr z
        · exact .inl (.inr z)
      | exc x ro2 =>
        rw [hr] at hh
        refine ⟨F1, A1, ro1, S1, ?_⟩
        rw [hr]
        intro C F' H' A' hm s2 S2
        exact hh C F' H' A' hm ((st.trans (s2.frame Ao)).weak fun a z => .inl z) S2
      | stuck => rw [hr] at hh; exact hh.elim
    · exact hh.elim
  · cases h
theorem Stp.from {F H F' H' : Hp} {A A0 A' : AS} (s : Stp F H A F' H' A') (e : ∀ a, A a ↔ A0 a) : Stp F H A0 F' H' A' := by
  have : A = A0 := by funext a; exact propext (e a)
  rw [← this]; exact s
theorem HR.widen {K : PySem.W.Frag} {cl : ClW} {F H : Hp} {A B C : AS} {σ : L2.St} {h : Hd} {v : V} (r : HR K cl F H A σ h v C) (n : ∀ a, B a → C a → False) : HR K cl F H (fun a => A a ∨ B a) σ h v C := by
  cases h with
  | tm o => exact ⟨r.1, fun a x y => y.elim (r.2 a x) fun y => n a y x⟩
  | sl i p => exact r
theorem HRs.widen {K : PySem.W.Frag} {cl : ClW} {F H : Hp} {A B : AS} {σ : L2.St} : ∀ {hs : List Hd} {vs : List V} {C : AS}, HRs K cl F H A σ hs vs C → (∀ a, B a → C a → False) → HRs K cl F H (fun a => A a ∨ B a) σ hs vs C
  | [], vs, C, h, n => h
  | h :: hs, vs, C, ⟨v, ws, B1, C1, e, h1, h2, h3, h4⟩, n => ⟨v, ws, B1, C1, e, h1.widen fun a x y => n a x ((h4 a).mpr (.inl y)), HRs.widen h2 fun a x y => n a x ((h4 a).mpr (.inr y)), h3, h4⟩
/-- all frozen -/
theorem escs_ok {K : PySem.W.Frag} {cl : ClW} : ∀ {hs : List Hd} {vs : List V} {F H : Hp} {A Ao : AS} {ro ro' : Ro} {σ : L2.St} {xs : List PyData}, SR K cl F A ro σ H → HRs K cl F H A σ hs vs Ao → escs hs ro = .ok xs ro' →
    ∃ F' A', SR K cl F' A' ro' σ H ∧ DqAll K F' vs xs ∧ Stp F H (fun a => A a ∨ Ao a) F' H A' ∧ ∀ a, A' a → A a
  | [], vs, F, H, A, Ao, ro, ro', σ, xs, S, ⟨h1, h2⟩, e => by
    rw [escs] at e
    cases e
    subst h1
    exact ⟨F, A, S, .nil, (Stp.refl.frame Ao).weak fun a z => .inl z, fun a z => z⟩
  | h :: hs, vs, F, H, A, Ao, ro, ro', σ, xs, S, ⟨v, ws, B, C, e1, h1, h2, h3, h4⟩, e => by
    subst e1
    rw [escs] at e
    cases q : h.esc ro with
    | exc x r => rw [q] at e; cases e
    | stuck => rw [q] at e; cases e
    | ok x ro1 =>
      rw [q] at e
      simp only [Out.bind_ok] at e
      cases q2 : escs hs ro1 with
      | exc x r => rw [q2] at e; cases e
      | stuck => rw [q2] at e; cases e
      | ok ys ro2 =>
        rw [q2] at e
        cases e
        obtain ⟨F1, A1, S1, d1, st1, su1⟩ := h1.esc S q
        have w := (HRs.widen (B := B) h2 h3)
        obtain ⟨k1, _⟩ := HRs.step st1.asT (Sub.refl H) w
        obtain ⟨F2, A2, S2, d2, st2, su2⟩ := escs_ok S1 k1 q2
        refine ⟨F2, A2, S2, .cons (Dq.mono st2.fr _ _ d1) d2, ?_, fun a z => su1 a (su2 a z)⟩
        refine ((st1.frame C).trans st2).from fun a => ?_
        constructor
        · rintro ((z | z) | z)
          · exact .inl z
          · exact .inr ((h4 a).mpr (.inl z))
          · exact .inr ((h4 a).mpr (.inr z))
        · rintro (z | z)
          · exact .inl (.inl z)
          · rcases (h4 a).mp z with z | z
            · exact .inl (.inr z)
            · exact .inr z
/-- one stored -/
theorem sto_ok {K : PySem.W.Frag} {cl : ClW} {h : Hd} {v : V} {F H : Hp} {A Ao : AS} {ro ro' : Ro} {σ : L2.St} {o : O} (S : SR K cl F A ro σ H) (r : HR K cl F H A σ h v Ao) (e : h.sto ro = .ok o ro') :
    ∃ F' A' Bo, SR K cl F' A' ro' σ H ∧ OR K cl F' H o v Bo ∧ (∀ a, Bo a → A' a → False) ∧ Stp F H (fun a => A a ∨ Ao a) F' H (fun a => A' a ∨ Bo a) ∧ (∀ a, A' a → A a) ∧ ∀ a, Bo a → Ao a := by
  cases h with
  | tm x =>
    unfold Hd.sto at e
    cases e
    exact ⟨F, A, Ao, S, r.1, r.2, .refl, fun a z => z, fun a z => z⟩
  | sl i p =>
    unfold Hd.sto at e
    dsimp only at e
    cases q : Hd.esc (.sl i p) ro with
    | exc x r => rw [q] at e; cases e
    | stuck => rw [q] at e; cases e
    | ok x ro1 =>
      rw [q] at e
      cases e
      obtain ⟨F1, A1, S1, d1, st1, su1⟩ := r.esc S q
      exact ⟨F1, A1, fun _ => False, S1, .d d1, fun a z => z.elim, st1.asT, su1, fun a z => z.elim⟩
theorem stos_ok {K : PySem.W.Frag} {cl : ClW} : ∀ {hs : List Hd} {vs : List V} {F H : Hp} {A Ao : AS} {ro ro' : Ro} {σ : L2.St} {os : List O}, SR K cl F A ro σ H → HRs K cl F H A σ hs vs Ao → stos hs ro = .ok os ro' →
    ∃ F' A' Bo, SR K cl F' A' ro' σ H ∧ ORs K cl F' H os vs Bo ∧ (∀ a, Bo a → A' a → False) ∧ Stp F H (fun a => A a ∨ Ao a) F' H (fun a => A' a ∨ Bo a) ∧ (∀ a, A' a → A a) ∧ ∀ a, Bo a → Ao a
  | [], vs, F, H, A, Ao, ro, ro', σ, xs, S, ⟨h1, h2⟩, e => by
    rw [stos] at e
    cases e
    subst h1
    exact ⟨F, A, fun _ => False, S, .nil, fun a z => z.elim, (Stp.refl.frame Ao).weak fun a z => .inl (z.elim id False.elim), fun a z => z, fun a z => z.elim⟩
  | h :: hs, vs, F, H, A, Ao, ro, ro', σ, xs, S, ⟨v, ws, B, C, e1, h1, h2, h3, h4⟩, e => by
    subst e1
    rw [stos] at e
    cases q : h.sto ro with
    | exc x r => rw [q] at e; cases e
    | stuck => rw [q] at e; cases e
    | ok x ro1 =>
      rw [q] at e
      simp only [Out.bind_ok] at e
      cases q2 : stos hs ro1 with
      | exc x r => rw [q2] at e; cases e
      | stuck => rw [q2] at e; cases e
      | ok ys ro2 =>
        rw [q2] at e
        cases e
        obtain ⟨F1, A1, B1, S1, d1, dj1, st1, su1, sb1⟩ := sto_ok S h1 q
        have w := (HRs.widen (B := B) h2 h3)
        obtain ⟨k1, _⟩ := HRs.step st1 (Sub.refl H) w
        obtain ⟨F2, A2, B2, S2, d2, dj2, st2, su2, sb2⟩ := stos_ok S1 k1 q2
        -- the first tree stands through the second step
        have dj3 : ∀ a, B1 a → (A1 a ∨ C a) → False := fun a x y => y.elim (dj1 a x) fun y => h3 a (sb1 a x) y
        obtain ⟨d1', dj4⟩ := d1.step dj3 st2
        refine ⟨F2, A2, fun a => B1 a ∨ B2 a, S2, .cons d1' d2 (fun a x y => dj4 a x (.inr y)), fun a x y => x.elim (fun x => dj4 a x (.inl y)) fun x => dj2 a x y, ?_, fun a z => su1 a (su2 a z), fun a z => (h4 a).mpr (z.elim (fun z => .inl (sb1 a z)) fun z => .inr (sb2 a z))⟩
        have t2 := st2.frame B1
        have t1 := st1.frame C
        have t1' : Stp F H (fun a => A a ∨ Ao a) F1 H (fun a => (A1 a ∨ C a) ∨ B1 a) := (t1.weak (T := fun a => (A1 a ∨ C a) ∨ B1 a) (fun a z => by
          rcases z with (z | z) | z
          · exact .inl (.inl z)
          · exact .inr z
          · exact .inl (.inr z))).from fun a => by
            constructor
            · rintro ((z | z) | z)
              · exact .inl z
              · exact .inr ((h4 a).mpr (.inl z))
              · exact .inr ((h4 a).mpr (.inr z))
            · rintro (z | z)
              · exact .inl (.inl z)
              · rcases (h4 a).mp z with z | z
                · exact .inl (.inr z)
                · exact .inr z
        refine (t1'.trans t2).weak fun a z => ?_
        rcases z with z | z | z
        · exact .inl (.inl z)
        · exact .inr z
        · exact .inl (.inr z)
theorem HR.opd {K : PySem.W.Frag} {cl : ClW} {F H : Hp} {A Ao : AS} {ro : Ro} {σ : L2.St} {h : Hd} {v : V} {x : PyData} (S : SR K cl F A ro σ H) (r : HR K cl F H A σ h v Ao) (e : h.opd ro = some x) :
    ∃ F' A', SR K cl F' A' ro σ H ∧ FV K F' H v x ∧ Stp F H (fun a => A a ∨ Ao a) F' H A' ∧ ∀ a, A' a → A a := by
  cases h with
  | tm o =>
    have q : (Hd.tm o).esc ro = .ok x ro := by
      have e : o.toD = some x := e
      unfold Hd.esc
      simp only [e, Out.ofOpt_some]
    obtain ⟨F', A', S', d, st, su⟩ := r.esc S q
    exact ⟨F', A', S', d.fv S'.sub, st, su⟩
  | sl i p => exact ⟨F, A, S, r.lookF S e, (Stp.refl.frame Ao).weak fun a z => .inl z, fun a z => z⟩
theorem FV.mono {K : PySem.W.Frag} {F F' H : Hp} (s : Sub F F') {v : V} {x : PyData} (h : FV K F H v x) : FV K F' H v x := by
  cases x with
  | list xs =>
    obtain ⟨p, vs, rfl, h1, h2⟩ := h
    exact ⟨p, vs, rfl, h1, Dq.monoAll s _ _ h2⟩
  | none => exact Dq.mono s _ _ h
  | bool b => exact Dq.mono s _ _ h
  | int b => exact Dq.mono s _ _ h
  | str b => exact Dq.mono s _ _ h
  | tuple b => exact Dq.mono s _ _ h
  | dict b => exact Dq.mono s _ _ h
theorem e_bin (ok : XOk g c k W X) {op : Operator} {a b : CE} (ia : Snd g a) (ib : Snd g b) {e : Expr} (h : chk c (.bin op a b) e = true) : PE X e (rdE g W (qt (.bin op a b)) (ev g.G (.bin op a b))) := by
  simp only [chk] at h
  split at h
  · simp only [Bool.and_eq_true, decide_eq_true_eq] at h
    obtain ⟨⟨h1, h2⟩, h3⟩ := h
    subst h1
    refine ⟨fun pins s σ H Q I ⟨F, A, ro, S, hh⟩ => ?_⟩
    refine (pe_op (op_bin op) (ia.E ok h2) (ib.E ok h3)).run pins s σ H Q I ?_
    simp only [ev] at hh
    refine ⟨F, A, ro, S, hh.bind fun h1 ro1 _ hh v F1 H1 A1 Ao st S1 hv hs => ?_⟩
    split at hh
    · rename_i hd
      cases hr : ev g.G b ro1 with
      | stuck => rw [hr] at hh; exact hh.elim
      | exc x ro2 =>
        rw [hr] at hh
        refine ⟨F1, A1, ro1, S1, ?_⟩
        rw [hr]
        intro C F' H' A' hm s2 S2
        exact hh C F' H' A' hm ((st.trans (s2.frame Ao)).weak fun a z => .inl z) S2
      | ok h2 ro2 =>
        rw [hr] at hh
        simp only [Out.bind_ok] at hh
        refine ⟨F1, A1, ro1, S1, ?_⟩
        rw [hr]
        intro w F2 H2 A2 Bo st2 S2 hw hs2
        obtain ⟨hv2, dj⟩ := hv.step st2 (fun z => (hs2 (okD_of hd z)).s)
        split at hh
        · rename_i d e e1 e2
          obtain ⟨hd2, ho, hh⟩ := hh.ofOpt
          obtain ⟨o, ho2, rfl⟩ := of_map_some ho
          obtain ⟨F3, A3, S3, fx, st3, su3⟩ := hv2.opd S2 e1
          have hw1 : HR g.K g.cl F2 H2 (fun a => A2 a ∨ Ao a) σ h2 w Bo := hw.widen dj
          have hw2 := (hw1.step st3.asT (fun _ => .refl _)).1
          obtain ⟨F4, A4, S4, fy, st4, su4⟩ := hw2.opd S3 e2
          have tot : Stp F H A F4 H2 A4 := by
            refine (st.trans (st2.frame Ao)).trans (Stp.trans (Stp.from (st3.frame Bo) fun a => ?_) st4)
            constructor
            · rintro ((z | z) | z)
              · exact .inl (.inl z)
              · exact .inr z
              · exact .inl (.inr z)
            · rintro ((z | z) | z)
              · exact .inl (.inl z)
              · exact .inr z
              · exact .inl (.inr z)
          have hh := hh.shift tot.asT (fun z => (hs (and2 z).1).s.trans (hs2 (and2 z).2).s)
          rw [ok.kk]
          exact ⟨F4, d, e, o, S4.sub, fx.mono st4.fr, fy, ho2, fun v H' r => hh.res S4 r⟩
        · exact hh.elim
    · exact hh.elim
  · cases h
end
end Lw

set_option maxRecDepth 100000
/-! Lw8: displays, slices, calls, what loops walk. -/
namespace Lw
open PySem L2
section
variable {g : Gx} {c : CC} {k : Nat} {W : WX} {X : Cx}
theorem plain_each {c : CC} {env : Env} : ∀ {as : CE} {es : List Expr}, chks c as es = true → (starEach es env).any (·.1) = false
  | as, [], _ => rfl
  | as, e :: es, h => by
    cases as <;> simp only [chks, Bool.false_eq_true] at h
    case cons a as =>
      simp only [Bool.and_eq_true] at h
      rw [star_of h.1.1, List.any_cons, plain_each h.2]
      rfl
theorem back_each {pos : Pos} : ∀ {l : List (Bool × Sem Value)}, l.any (·.1) = false → (backTo pos l).any (·.1) = false
  | [], _ => rfl
  | (b, t) :: l, h => by
    rw [List.any_cons, Bool.or_eq_false_iff] at h
    show ((b, _) :: backTo pos l).any (·.1) = false
    rw [List.any_cons, back_each h.2, Bool.or_false]
    exact h.1
theorem plain_args {c : CC} {as : CE} {e : Expr} {es : List Expr} {env : Env} {pos : Pos} (h : chks c as (e :: es) = true) : starEach (e :: es) env = (false, eval e env) :: starEach es env ∧ (backTo pos (starEach es env)).any (·.1) = false := by
  cases as <;> simp only [chks, Bool.false_eq_true] at h
  case cons a as =>
    simp only [Bool.and_eq_true] at h
    exact ⟨star_of h.1.1, back_each (plain_each h.2)⟩
theorem esc_noexc {h : Hd} {ro ro' : Ro} {x : Exn} : h.esc ro ≠ .exc x ro' := by
  intro e
  unfold Hd.esc at e
  split at e
  · cases q : O.toD _ with
    | none => rw [q] at e; cases e
    | some y => rw [q] at e; cases e
  · split at e
    · cases e
    · split at e <;> cases e
    · cases e
  · cases e
theorem escs_noexc : ∀ {hs : List Hd} {ro ro' : Ro} {x : Exn}, escs hs ro ≠ .exc x ro'
  | [], ro, ro', x, e => by rw [escs] at e; cases e
  | h :: hs, ro, ro', x, e => by
    rw [escs] at e
    cases q : h.esc ro with
    | exc y r => exact esc_noexc q
    | stuck => rw [q] at e; cases e
    | ok y ro1 =>
      rw [q] at e
      simp only [Out.bind_ok] at e
      cases q2 : escs hs ro1 with
      | exc y r => exact escs_noexc q2
      | stuck => rw [q2] at e; cases e
      | ok y r => rw [q2] at e; cases e
theorem sto_noexc {h : Hd} {ro ro' : Ro} {x : Exn} : h.sto ro ≠ .exc x ro' := by
  intro e
  unfold Hd.sto at e
  split at e
  · cases e
  · cases q : Hd.esc (.sl _ _) ro with
    | exc y r => exact esc_noexc q
    | stuck => rw [q] at e; cases e
    | ok y ro1 => rw [q] at e; cases e
theorem stos_noexc : ∀ {hs : List Hd} {ro ro' : Ro} {x : Exn}, stos hs ro ≠ .exc x ro'
  | [], ro, ro', x, e => by rw [stos] at e; cases e
  | h :: hs, ro, ro', x, e => by
    rw [stos] at e
    cases q : h.sto ro with
    | exc y r => exact sto_noexc q
    | stuck => rw [q] at e; cases e
    | ok y ro1 =>
      rw [q] at e
      simp only [Out.bind_ok] at e
      cases q2 : stos hs ro1 with
      | exc y r => exact stos_noexc q2
      | stuck => rw [q2] at e; cases e
      | ok y r => rw [q2] at e; cases e
/-! ### displays -/
theorem e_tup (ok : XOk g c k W X) {as : CE} (ia : Snd g as) {e : Expr} (h : chk c (.tup as) e = true) : PE X e (rdE g W (qt (.tup as)) (ev g.G (.tup as))) := by
  simp only [chk] at h
  split at h
  · refine ⟨fun pins s σ H Q I ⟨F, A, ro, S, hh⟩ => ?_⟩
    refine (pe_tup (ia.L ok h)).run pins s σ H Q I ?_
    simp only [ev] at hh
    refine ⟨F, A, ro, S, hh.bindA fun hs ro1 _ hh vs F1 H1 A1 Ao st S1 hv hq => ?_⟩
    cases q : escs hs ro1 with
    | exc x r => exact absurd q escs_noexc
    | stuck => rw [q] at hh; exact hh.elim
    | ok xs ro2 =>
      rw [q] at hh
      simp only [Out.bind_ok] at hh
      split at hh
      · rename_i hl
        obtain ⟨F2, A2, S2, d2, st2, su2⟩ := escs_ok S1 hv q
        have hh := hh.shift (st.trans st2).asT (fun z => (hq z).s)
        exact ⟨by rw [d2.len]; exact lenOk_le hl, fun p hp => hh.res S2 (.inr ⟨p, vs, rfl, hp, rfl, d2⟩)⟩
      · exact hh.elim
  · cases h
/-- a new object behind a step -/
theorem Stp.fresh {F H F1 H1 : Hp} {A A1 : AS} (s : Stp F H A F1 H1 A1) {p : Addr} (hp : H1 p = none) : A p ∨ H p = none := by
  by_cases hA : A p
  · exact .inl hA
  · cases e : H p with
    | none => exact .inr rfl
    | some o => rw [s.kp p o e hA] at hp; cases hp
/-- a new list of trees, held beside -/
theorem new_lst {K : PySem.W.Frag} {cl : ClW} {F H : Hp} {A Bo : AS} {ro : Ro} {σ : L2.St} {os : List O} {vs : List V} {p : Addr} (S : SR K cl F A ro σ H) (ho : ORs K cl F H os vs Bo) (dj : ∀ a, Bo a → A a → False) (hp : H p = none) :
    SR K cl F A ro σ (upd H p (.lst vs)) ∧ OR K cl F (upd H p (.lst vs)) (.lst os) (.ref p) (fun a => a = p ∨ Bo a) ∧ (∀ a, (a = p ∨ Bo a) → A a → False) ∧ Stp F H (fun a => A a ∨ Bo a) F (upd H p (.lst vs)) (fun a => A a ∨ (a = p ∨ Bo a)) := by
  obtain ⟨S1, s1, fp, nA⟩ := S.newO (ob := .lst vs) hp
  have nB : ∀ a, Bo a → a ≠ p := fun a z e => by subst e; exact (ho.own _ z).2 hp
  refine ⟨S1, .lst upd_same (ho.frame (.refl _) (fun a z => upd_ne (nB a z)) fun a z => (ho.own a z).1) (fun z => nB p z rfl) fp, fun a z w => ?_, ⟨s1.fr, fun a o e n => s1.kp a o e fun z => n (.inl z), fun a z => .inl z, fun a z => ?_⟩⟩
  · rcases z with z | z
    · subst z; exact nA w
    · exact dj a z w
  · rcases z with z | z | z
    · exact .inl (.inl z)
    · subst z; exact .inr hp
    · exact .inl (.inr z)
theorem e_lst (ok : XOk g c k W X) {as : CE} (ia : Snd g as) {e : Expr} (h : chk c (.lst as) e = true) : PE X e (rdE g W (qt (.lst as)) (ev g.G (.lst as))) := by
  simp only [chk] at h
  split at h
  · refine ⟨fun pins s σ H Q I ⟨F, A, ro, S, hh⟩ => ?_⟩
    refine (pe_lst (ia.L ok h)).run pins s σ H Q I ?_
    simp only [ev] at hh
    refine ⟨F, A, ro, S, hh.bindA fun hs ro1 _ hh vs F1 H1 A1 Ao st S1 hv hq => ?_⟩
    cases q : stos hs ro1 with
    | exc x r => exact absurd q stos_noexc
    | stuck => rw [q] at hh; exact hh.elim
    | ok xs ro2 =>
      rw [q] at hh
      simp only [Out.bind_ok] at hh
      split at hh
      · rename_i hl
        obtain ⟨F2, A2, Bo, S2, d2, dj, st2, su2, sb2⟩ := stos_ok S1 hv q
        refine ⟨by rw [← d2.len]; exact lenOk_le hl, fun p hp => ?_⟩
        obtain ⟨S3, t3, dj3, st3⟩ := new_lst S2 d2 dj hp
        refine hh _ _ _ _ _ ((st.trans st2).trans st3) S3 ⟨t3, dj3⟩ fun z => ⟨(hq z).s.trans (Sub.new hp), fun a w => ?_⟩
        rcases w with w | w
        · subst w; exact (hq z).s.none hp
        · exact (hq z).f a (sb2 a w)
      · exact hh.elim
  · cases h
/-! ### parts of a slice -/
theorem o_nil : ∀ {c : CC} {k : Nat} {W : WX} {X : Cx}, XOk g c k W X → ∀ {e : Option Expr}, chkO c .nil e = true → PO X e (tOof (rdA g W (qt .nil) (evs g.G .nil))) := by
  intro c k W X ok e h
  simp only [chkO] at h
  split at h
  · refine ⟨fun pins s σ H Q I ⟨F, A, ro, S, hh⟩ => ?_⟩
    simp only [evs] at hh
    refine po_none.run pins s σ H Q I ?_
    rcases hh [] F H A (fun _ => False) Stp.refl.asT S ⟨rfl, fun _ z => z⟩ (fun _ => Qt.refl) with ⟨_, q⟩ | ⟨i, q, _⟩
    · exact q
    · cases q
  · cases h
theorem o_cons {a as : CE} (ia : Snd g a) : ∀ {c : CC} {k : Nat} {W : WX} {X : Cx}, XOk g c k W X → ∀ {e : Option Expr}, chkO c (.cons a as) e = true → PO X e (tOof (rdA g W (qt (.cons a as)) (evs g.G (.cons a as)))) := by
  intro c k W X ok e h
  cases as <;> simp only [chkO, Bool.false_eq_true] at h
  split at h
  · refine ⟨fun pins s σ H Q I ⟨F, A, ro, S, hh⟩ => ?_⟩
    refine (po_some (ia.E ok h)).run pins s σ H Q I ?_
    simp only [evs] at hh
    refine ⟨F, A, ro, S, PostA.bind hh fun h1 ro1 _ hh v F1 H1 A1 Ao st S1 hv hs => ?_⟩
    split at hh
    · simp only [Out.bind_ok] at hh
      rcases hh [v] F1 H1 A1 Ao st S1 ⟨v, [], Ao, fun _ => False, rfl, hv, ⟨rfl, fun _ z => z⟩, fun a x y => y, fun a => by simp⟩ (fun z => hs (and2 z).1) with ⟨q, _⟩ | ⟨i, q1, q2⟩
      · cases q
      · cases q1
        exact ⟨i, rfl, q2⟩
    · exact hh.elim
  · cases h
theorem HRs.looksD {K : PySem.W.Frag} {cl : ClW} {F H : Hp} {A : AS} {ro : Ro} {σ : L2.St} (S : SR K cl F A ro σ H) : ∀ {hs : List Hd} {vs : List V} {Ao : AS} {xs : List PyData}, HRs K cl F H A σ hs vs Ao → Lw.looksD ro hs = some xs → DqAll K H vs xs
  | [], vs, Ao, xs, ⟨h1, h2⟩, e => by
    rw [Lw.looksD] at e
    cases e
    subst h1
    exact .nil
  | h :: hs, vs, Ao, xs, ⟨v, ws, B, C, e1, h1, h2, h3, h4⟩, e => by
    subst e1
    rw [Lw.looksD] at e
    split at e
    · rename_i x ys k1 k2
      cases e
      exact .cons (h1.lookD S k1) (HRs.looksD S h2 k2)
    · cases e
theorem HRs.looksF {K : PySem.W.Frag} {cl : ClW} {F H : Hp} {A : AS} {ro : Ro} {σ : L2.St} (S : SR K cl F A ro σ H) : ∀ {hs : List Hd} {vs : List V} {Ao : AS} {xs : List PyData}, HRs K cl F H A σ hs vs Ao → Lw.looksF ro hs = some xs → FVs K F H vs xs
  | [], vs, Ao, xs, ⟨h1, h2⟩, e => by
    rw [Lw.looksF] at e
    cases e
    subst h1
    exact .nil
  | h :: hs, vs, Ao, xs, ⟨v, ws, B, C, e1, h1, h2, h3, h4⟩, e => by
    subst e1
    rw [Lw.looksF] at e
    split at e
    · rename_i x ys k1 k2
      cases e
      exact .cons (h1.lookF S k1) (HRs.looksF S h2 k2)
    · cases e
/-- a part, read -/
theorem HRs.part {K : PySem.W.Frag} {cl : ClW} {F H : Hp} {A : AS} {ro : Ro} {σ : L2.St} (S : SR K cl F A ro σ H) {hs : List Hd} {vs : List V} {Ao : AS} {l : Option Int} (r : HRs K cl F H A σ hs vs Ao) (e : partD ro hs = some l) {Q : Option Int → Prop} (q : Q l) :
    (vs = [] ∧ Q none) ∨ ∃ i, vs = [.int i] ∧ Q (some i) := by
  unfold partD at e
  split at e
  · rename_i h
    cases e
    have := r.looksD S h
    cases this
    exact .inl ⟨rfl, q⟩
  · rename_i i h
    cases e
    have := r.looksD S h
    cases this with
    | cons k1 k2 =>
      cases k2
      cases k1
      exact .inr ⟨_, rfl, q⟩
  · cases e
theorem HRs.stepQ {K : PySem.W.Frag} {cl : ClW} {F F' H H' : Hp} {A A' T : AS} {σ : L2.St} {h : Hd} {v : V} {Ao : AS} (r : HR K cl F H A σ h v Ao) (st : Stp F H A F' H' (fun a => A' a ∨ T a)) (d : h.deep = true → Sub H H') : HR K cl F' H' A' σ h v Ao := (r.step st d).1
theorem e_slc (ok : XOk g c k W X) {a lo hi : CE} (ia : Snd g a) (il : Snd g lo) (iu : Snd g hi) {e : Expr} (h : chk c (.slc a lo hi) e = true) : PE X e (rdE g W (qt (.slc a lo hi)) (ev g.G (.slc a lo hi))) := by
  simp only [chk] at h
  split at h
  · simp only [Bool.and_eq_true] at h
    obtain ⟨⟨h1, h2⟩, h3⟩ := h
    refine ⟨fun pins s σ H Q I ⟨F, A, ro, S, hh⟩ => ?_⟩
    refine (pe_slice sl_slc (ia.E ok h1) (il.O ok h2) (iu.O ok h3)).run pins s σ H Q I ?_
    simp only [ev] at hh
    refine ⟨F, A, ro, S, hh.bind fun hd ro1 _ hh v F1 H1 A1 Ao st S1 hv hq => ?_⟩
    have hh := hh.shift st (fun z => (hq (and2 (and2 z).1).1).s)
    split at hh
    · rename_i hd2
      obtain ⟨d1, d2⟩ := and2 hd2
      refine ⟨F1, A1, ro1, S1, hh.bindA fun ls ro2 _ hh vl F2 H2 A2 Bo st2 S2 hl hq2 => ?_⟩
      have hh := hh.shift st2 (fun z => (hq2 (and2 (and2 z).1).2).s)
      have hv2 := (hv.step st2 (fun z => (hq2 (okD_of d1 z)).s)).1
      split at hh
      · rename_i l el
        refine hl.part S2 el (Q := fun l => tOof (rdA g W (qt hi) (evs g.G hi)) σ H2 fun u H3 => rSlc X.K v l u H3 Q) ?_
        refine ⟨F2, A2, ro2, S2, hh.bindA fun us ro3 _ hh vu F3 H3 A3 Co st3 S3 hu hq3 => ?_⟩
        have hh := hh.shift st3 (fun z => (hq3 (and2 z).2).s)
        have hv3 := (hv2.step st3 (fun z => (hq3 (okD_of d2 z)).s)).1
        split at hh
        · rename_i o u eo eu
          refine hu.part S3 eu (Q := fun u => rSlc X.K v l u H3 Q) ?_
          obtain ⟨hd3, ho, hh⟩ := hh.ofOpt
          obtain ⟨r, hr, rfl⟩ := of_map_some ho
          obtain ⟨B, hB, _⟩ := hv3.look S3 eo
          rw [ok.kk]
          exact ⟨F3, g.cl, B, o, r, S3.sub, hB, hr, fun w H' z => hh.res S3 z⟩
        · exact hh.elim
      · exact hh.elim
    · exact hh.elim
  · cases h
end
end Lw

set_option maxRecDepth 100000
/-! Lw9: calls, what loops walk. -/
namespace Lw
open PySem L2 RZ
section
variable {g : Gx} {c : CC} {k : Nat} {W : WX} {X : Cx}
/-- a built-in function, by the table -/
theorem prim_run (ok : XOk g c k W X) (p : Pr) (hc : (c.calm || !p.calm) = true) {e : Expr} {es : List Expr} {t : TA} {pn pos : Pos} (hg : bltB c p.nm = true) (ha : PA X (e :: es) t) (he : starEach (e :: es) X.env = (false, eval e X.env) :: starEach es X.env) (hpl : (backTo pos (starEach es X.env)).any (·.1) = false) :
    PE X (.Call (.Name p.nm pn) (e :: es) [] pos) (tCB (rPrim X.K p) t) := by
  obtain ⟨g1, g2, g3, g4⟩ := ok.bltn hg
  have hcm : p.calm = true → X.calm = true := fun z => by rw [ok.calm]; rw [z] at hc; simpa using hc
  cases p with
  | len => exact pe_callB pr_len g1 g4 (by decide +kernel) ha g3 g2 he hpl
  | int => exact pe_callTy pr_int g1 g4 (by decide +kernel) ha g3 g2 he hpl
  | abs => exact pe_callB pr_abs g1 g4 (by decide +kernel) ha g3 g2 he hpl
  | max => exact pe_callB (pr_max (hcm rfl) ok.hu) g1 g4 (by decide +kernel) ha g3 g2 he hpl
  | min => exact pe_callB (pr_min (hcm rfl) ok.hu) g1 g4 (by decide +kernel) ha g3 g2 he hpl
  | sum => exact pe_callB (pr_sum (hcm rfl)) g1 g4 (by decide +kernel) ha g3 g2 he hpl
  | all => exact pe_callB (pr_all (hcm rfl)) g1 g4 (by decide +kernel) ha g3 g2 he hpl
  | any => exact pe_callB (pr_any (hcm rfl)) g1 g4 (by decide +kernel) ha g3 g2 he hpl
  | tuple => exact pe_callTy pr_tuple g1 g4 (by decide +kernel) ha g3 g2 he hpl
  | list => exact pe_callTy pr_list g1 g4 (by decide +kernel) ha g3 g2 he hpl
  | sorted => exact pe_callB (pr_sorted ok.hu) g1 g4 (by decide +kernel) ha g3 g2 he hpl
theorem e_prim (ok : XOk g c k W X) {p : Pr} {as : CE} (ia : Snd g as) {e : Expr} (h : chk c (.prim p as) e = true) : PE X e (rdE g W (qt (.prim p as)) (ev g.G (.prim p as))) := by
  simp only [chk] at h
  split at h
  · simp only [Bool.and_eq_true, decide_eq_true_eq] at h
    obtain ⟨⟨⟨h1, h2⟩, h3⟩, h4⟩ := h
    subst h2
    obtain ⟨k1, k2⟩ := plain_args (env := X.env) h4
    refine ⟨fun pins s σ H Q I ⟨F, A, ro, S, hh⟩ => ?_⟩
    refine (prim_run ok p h1 h3 (ia.L ok h4) k1 k2).run pins s σ H Q I ?_
    simp only [ev] at hh
    refine ⟨F, A, ro, S, hh.bindA fun hs ro1 _ hh vs F1 H1 A1 Ao st S1 hv hq => ?_⟩
    have hh := hh.shift st (fun z => (hq z).s)
    split at hh
    · rename_i xs ex
      obtain ⟨hd, ho, hh⟩ := hh.ofOpt
      obtain ⟨r, hr, rfl⟩ := of_map_some ho
      rw [ok.kk]
      exact ⟨F1, xs, r, S1.sub, hv.looksF S1 ex, hr, fun v H' z => hh.res S1 z⟩
    · exact hh.elim
  · cases h
theorem boot_isi : bootBuiltins ("isinstance" : Str) = some (.builtin "isinstance") := by decide +kernel
theorem boot_tn (T : Tn) : bootBuiltins T.nm = some (.type T.s) := by cases T <;> decide +kernel
theorem e_isi (ok : XOk g c k W X) {a : CE} {T : Tn} (ia : Snd g a) {e : Expr} (h : chk c (.isi a T) e = true) : PE X e (rdE g W (qt (.isi a T)) (ev g.G (.isi a T))) := by
  simp only [chk] at h
  split at h
  · simp only [Bool.and_eq_true, decide_eq_true_eq] at h
    obtain ⟨⟨⟨⟨⟨h1, h2⟩, h3⟩, h4⟩, h5⟩, h6⟩ := h
    subst h1; subst h3
    obtain ⟨g1, g2, g3, g4⟩ := ok.bltn h2
    obtain ⟨f1, f2, f3, f4⟩ := ok.bltn h4
    refine ⟨fun pins s σ H Q I ⟨F, A, ro, S, hh⟩ => ?_⟩
    refine (pe_callB call_isi g1 g4 boot_isi (pa_cons (ia.E ok h5) (pa_cons (pe_bltn f1 f4 (boot_tn T) (v := .ty T.s) rfl f3 f2) pa_nil) (star_of h6)) g3 g2 (star_of h6) rfl).run pins s σ H Q I ?_
    simp only [ev] at hh
    refine ⟨F, A, ro, S, hh.bind fun hs ro1 _ hh v F1 H1 A1 Ao st S1 hv hq => ?_⟩
    have hh := hh.shift st (fun z => (hq z).s)
    split at hh
    · rename_i x ex
      obtain ⟨hd, ho, hh⟩ := hh.ofOpt
      obtain ⟨r, hr, rfl⟩ := of_map_some ho
      show rIsi X.K [v, .ty T.s] H1 Q
      rw [ok.kk]
      exact isi_of (hv.lookD S1 ex) hr (hh.sc S1 (.bl _))
    · exact hh.elim
  · cases h
theorem arg_ok {K : PySem.W.Frag} {cl : ClW} {h : Hd} {v : V} {F H : Hp} {A Ao : AS} {ro ro' : Ro} {σ : L2.St} {o : O} (S : SR K cl F A ro σ H) (r : HR K cl F H A σ h v Ao) (e : h.arg ro = .ok o ro') :
    ∃ F' A', SR K cl F' A' ro' σ H ∧ OR K cl F' H o v (fun _ => False) ∧ Stp F H (fun a => A a ∨ Ao a) F' H A' ∧ ∀ a, A' a → A a := by
  unfold Hd.arg at e
  split at e
  · rename_i ns hl
    cases e
    obtain ⟨B, hB, _⟩ := r.look S hl
    cases hB with
    | scr hs => exact ⟨F, A, S, .scr hs, (Stp.refl.frame Ao).weak fun a z => .inl z, fun a z => z⟩
  · cases q : h.esc ro with
    | exc x r => rw [q] at e; cases e
    | stuck => rw [q] at e; cases e
    | ok x ro1 =>
      rw [q] at e
      cases e
      obtain ⟨F1, A1, S1, d1, st1, su1⟩ := r.esc S q
      exact ⟨F1, A1, S1, .d d1, st1, su1⟩
theorem argsO_ok {K : PySem.W.Frag} {cl : ClW} : ∀ {hs : List Hd} {vs : List V} {F H : Hp} {A Ao : AS} {ro ro' : Ro} {σ : L2.St} {os : List O}, SR K cl F A ro σ H → HRs K cl F H A σ hs vs Ao → argsO hs ro = .ok os ro' →
    ∃ F' A', SR K cl F' A' ro' σ H ∧ ORs K cl F' H os vs (fun _ => False) ∧ Stp F H (fun a => A a ∨ Ao a) F' H A' ∧ ∀ a, A' a → A a
  | [], vs, F, H, A, Ao, ro, ro', σ, xs, S, ⟨h1, h2⟩, e => by
    rw [argsO] at e
    cases e
    subst h1
    exact ⟨F, A, S, .nil, (Stp.refl.frame Ao).weak fun a z => .inl z, fun a z => z⟩
  | h :: hs, vs, F, H, A, Ao, ro, ro', σ, xs, S, ⟨v, ws, B, C, e1, h1, h2, h3, h4⟩, e => by
    subst e1
    rw [argsO] at e
    cases q : h.arg ro with
    | exc x r => rw [q] at e; cases e
    | stuck => rw [q] at e; cases e
    | ok x ro1 =>
      rw [q] at e
      simp only [Out.bind_ok] at e
      cases q2 : argsO hs ro1 with
      | exc x r => rw [q2] at e; cases e
      | stuck => rw [q2] at e; cases e
      | ok ys ro2 =>
        rw [q2] at e
        cases e
        obtain ⟨F1, A1, S1, d1, st1, su1⟩ := arg_ok S h1 q
        have w := (HRs.widen (B := B) h2 h3)
        obtain ⟨k1, _⟩ := HRs.step st1.asT (Sub.refl H) w
        obtain ⟨F2, A2, S2, d2, st2, su2⟩ := argsO_ok S1 k1 q2
        have d1' := (d1.step (fun _ z => z.elim) st2).1
        refine ⟨F2, A2, S2, (ORs.cons d1' d2 fun _ z => z.elim).cast fun a => ⟨fun z => z.elim id id, fun z => z.elim⟩, ?_, fun a z => su1 a (su2 a z)⟩
        refine ((st1.frame C).trans st2).from fun a => ?_
        constructor
        · rintro ((z | z) | z)
          · exact .inl z
          · exact .inr ((h4 a).mpr (.inl z))
          · exact .inr ((h4 a).mpr (.inr z))
        · rintro (z | z)
          · exact .inl (.inl z)
          · rcases (h4 a).mp z with z | z
            · exact .inl (.inr z)
            · exact .inr z
theorem arg_noexc {h : Hd} {ro ro' : Ro} {x : Exn} : h.arg ro ≠ .exc x ro' := fun e => by
  unfold Hd.arg at e
  split at e
  · cases e
  · cases q : h.esc ro with
    | exc y r => exact esc_noexc q
    | ok a r => rw [q] at e; cases e
    | stuck => rw [q] at e; cases e
theorem argsO_noexc : ∀ {hs : List Hd} {ro ro' : Ro} {x : Exn}, argsO hs ro ≠ .exc x ro'
  | [], ro, ro', x, e => by rw [argsO] at e; cases e
  | h :: hs, ro, ro', x, e => by
    rw [argsO] at e
    cases q : h.arg ro with
    | exc y r => exact arg_noexc q
    | stuck => rw [q] at e; cases e
    | ok a r =>
      rw [q] at e
      simp only [Out.bind_ok] at e
      cases q2 : argsO hs r with
      | exc y r => exact argsO_noexc q2
      | ok b r2 => rw [q2] at e; cases e
      | stuck => rw [q2] at e; cases e
theorem e_call (ok : XOk g c k W X) {f : Nat} {as : CE} (ia : Snd g as) {e : Expr} (h : chk c (.call f as) e = true) : PE X e (rdE g W (qt (.call f as)) (ev g.G (.call f as))) := by
  simp only [chk] at h
  split at h
  · simp only [Bool.and_eq_true, decide_eq_true_eq] at h
    obtain ⟨⟨⟨h1, h2⟩, h3⟩, h4⟩ := h
    obtain ⟨k1, k2⟩ := plain_args (env := X.env) h4
    obtain ⟨ad, fd, ps, m1, m2, m3, m4⟩ := ok.fns f _ h2
    obtain ⟨g1, g2, g3⟩ := ok.glb h3
    refine ⟨fun pins s σ H Q I ⟨F, A, ro, S, hh⟩ => ?_⟩
    refine (pe_callS (CX := L2.CX g.P g.w) (k := k) (f := ad) (fd := fd) (ps := ps) (sp := PSpec g (g.G.call f)) (E := WE W) (by rw [ok.pr, ok.ww, ok.kk, ok.mm, ok.bb]; exact m2) (ok.room h1) g1 (by rw [ok.mm]; exact m1) (by rw [ok.kk]; exact m3) (by rw [ok.kk]; exact m4) (fun σ => by rw [← ok.pr, ← ok.ww]; exact passAt ok.tk σ) (ia.L ok h4) g2 k1 k2).run pins s σ H Q I ?_
    simp only [ev] at hh
    refine ⟨F, A, ro, S, hh.bindA fun hs ro1 _ hh vs F1 H1 A1 Ao st S1 hv hq => ?_⟩
    cases q : argsO hs ro1 with
    | exc x r => exact absurd q argsO_noexc
    | stuck => rw [q] at hh; exact hh.elim
    | ok xs ro2 =>
      rw [q] at hh
      simp only [Out.bind_ok] at hh
      obtain ⟨F2, A2, S2, d2, st2, su2⟩ := argsO_ok S1 hv q
      have hh := hh.shift (st.trans st2).asT (fun z => (hq z).s)
      refine ⟨F2, fun _ => False, xs, S2.sub, d2, ?_⟩
      -- what the call leaves of the own trees
      have key : ∀ {F' H' : Hp} {Bo : AS}, Stp F2 H1 (fun _ => False) F' H' Bo → Sub F' H' → SR g.K g.cl F' A2 ro2 σ H' ∧ Stp F2 H1 A2 F' H' (fun a => A2 a ∨ Bo a) ∧ (∀ a, Bo a → A2 a → False) ∧ Qt H1 H' Bo := fun {F' H' Bo} s3 sb => by
        have fr : ∀ a, A2 a → H' a = H1 a := fun a z => by
          cases e : H1 a with
          | none => exact absurd e (S2.rs.own a z).2
          | some o => exact s3.kp a o e fun z => z
        have nb : ∀ a, Bo a → H1 a = none := fun a z => (s3.na a z).elim False.elim id
        refine ⟨⟨S2.rs.frame s3.fr fr fun a z => ?_, sb⟩, ⟨s3.fr, fun a o e n => s3.kp a o e fun z => z, fun a z => (s3.nf a z).elim .inl fun z => z.elim (fun z => .inr (.inl z)) False.elim, fun a z => z.elim .inl fun z => .inr (nb a z)⟩, fun a z w => (S2.rs.own a w).2 (nb a z), ⟨fun a o e => s3.kp a o e fun z => z, nb⟩⟩
        cases e : F' a with
        | none => rfl
        | some o =>
          exfalso
          rcases s3.nf a (by rw [e]; simp) with z2 | z2 | z2
          · exact z2 (S2.rs.own a z).1
          · exact (S2.rs.own a z).2 z2
          · exact z2
      cases hr : g.G.call f xs with
      | ok o back =>
        rw [hr] at hh
        intro v F' H' Bo Ab s3' sb ho _ _
        have s3 : Stp F2 H1 (fun _ => False) F' H' Bo := s3'.weak fun a z => .inl z
        obtain ⟨q1, q2, q3, q4⟩ := key s3 sb
        exact hh v F' H' A2 Bo q2 q1 ⟨ho, q3⟩ fun _ => q4
      | exc x back =>
        rw [hr] at hh
        intro C F' H' hm s3 sb
        obtain ⟨q1, q2, q3, q4⟩ := key s3 sb
        exact hh C F' H' A2 hm (q2.weak fun a z => .inl z) q1
      | stuck => rw [hr] at hh; exact hh
  · cases h
/-! ### what loops walk -/
theorem PostI.from {q z qa : Bool} {F : Hp} {A : AS} {σ : L2.St} {H : Hp} {R : It → Hp → Prop} {Q : VK} {r : Out Hd} {f : Hd → Ro → Out (List PyData)} (h : PostI g W q z F A σ H (r.bind f) R)
    (k : ∀ hd ro1, r = .ok hd ro1 → PostI g W q z F A σ H (f hd ro1) R → ∀ v F1 H1 A1 Ao, Stp F H A F1 H1 (fun a => A1 a ∨ Ao a) → SR g.K g.cl F1 A1 ro1 σ H1 → HR g.K g.cl F1 H1 A1 σ hd v Ao → (qa = true → Qt H H1 Ao) → Q v H1) : Post g W qa F A σ H r Q := by
  cases r with
  | ok hd ro1 => exact k hd ro1 rfl h
  | exc x ro1 => exact h
  | stuck => exact h
theorem PostI.fromA {q z qa : Bool} {F : Hp} {A : AS} {σ : L2.St} {H : Hp} {R : It → Hp → Prop} {Q : List V → Hp → Prop} {r : Out (List Hd)} {f : List Hd → Ro → Out (List PyData)} (h : PostI g W q z F A σ H (r.bind f) R)
    (k : ∀ hd ro1, r = .ok hd ro1 → PostI g W q z F A σ H (f hd ro1) R → ∀ v F1 H1 A1 Ao, Stp F H A F1 H1 (fun a => A1 a ∨ Ao a) → SR g.K g.cl F1 A1 ro1 σ H1 → HRs g.K g.cl F1 H1 A1 σ hd v Ao → (qa = true → Qt H H1 Ao) → Q v H1) : PostA g W qa F A σ H r Q := by
  cases r with
  | ok hd ro1 => exact k hd ro1 rfl h
  | exc x ro1 => exact h
  | stuck => exact h
theorem PostI.shift {q z : Bool} {F F1 H H1 : Hp} {A A1 T : AS} {σ : L2.St} {r : Out (List PyData)} {Q : It → Hp → Prop} (h : PostI g W q z F A σ H r Q) (st : Stp F H A F1 H1 (fun a => A1 a ∨ T a)) (hq : q = true → Sub H H1) : PostI g W q z F1 A1 σ H1 r Q := by
  cases r with
  | ok hd ro1 =>
    intro J F' H' A' s2 S hJ hs
    exact h J F' H' A' ((st.trans (s2.frame T)).weak fun a z => .inl z) S hJ fun e => (hq e).trans (hs e)
  | exc x ro1 =>
    intro C F' H' A' hm s2 S
    exact h C F' H' A' hm ((st.trans (s2.frame T)).weak fun a z => .inl z) S
  | stuck => exact h
theorem iter_list {K : PySem.W.Frag} {F B : Hp} {a : Addr} {vs : List V} {xs : List PyData} (hb : B a = some (.lst vs)) (hd : DqAll K F vs xs) : IterFor K F B (Itl K a) xs where
  go := fun i x H e s => by
    have hq : SqL K H a vs := .of (s _ _ hb)
    obtain ⟨v, hv, hx⟩ := hd.getD e
    refine ⟨⟨vs, v, hq, hv⟩, fun w H' y => ?_⟩
    obtain ⟨e1, y⟩ := y
    have := y vs hq
    rw [hv] at this
    cases this
    rw [e1]
    exact res_old' hx
  stop := fun H s => ⟨vs, .of (s _ _ hb), by rw [hd.len]; exact Nat.le_refl _⟩
theorem iter_tup {K : PySem.W.Frag} {F B : Hp} {a : Addr} {vs : List V} {xs : List PyData} (hb : SqT K B a vs) (hd : DqAll K F vs xs) : IterFor K F B (Itt K a) xs where
  go := fun i x H e s => by
    have hq : SqT K H a vs := s.sqT hb
    obtain ⟨v, hv, hx⟩ := hd.getD e
    refine ⟨⟨vs, v, hq, hv⟩, fun w H' y => ?_⟩
    obtain ⟨e1, y⟩ := y
    have := y vs hq
    rw [hv] at this
    cases this
    rw [e1]
    exact res_old' hx
  stop := fun H s => ⟨vs, s.sqT hb, by rw [hd.len]; exact Nat.le_refl _⟩
theorem range_get (lo : Int) (n i : Nat) (x : PyData) (h : ((List.range n).map fun (k : Nat) => PyData.int (lo + (k : Int)))[i]? = some x) : i < n ∧ x = .int (lo + (i : Int)) := by
  rw [List.getElem?_map] at h
  by_cases hi : i < n
  · rw [List.getElem?_range hi] at h
    simp at h
    exact ⟨hi, h.symm⟩
  · rw [List.getElem?_eq_none (by simpa using hi)] at h
    simp at h
theorem iter_rng {K : PySem.W.Frag} {F B : Hp} {lo hi : Int} : IterFor K F B (Itr lo (hi - lo).toNat) (rangeD lo hi) where
  go := fun i x H e s => by
    obtain ⟨h1, rfl⟩ := range_get _ _ _ _ e
    refine ⟨h1, fun w H' y => ?_⟩
    obtain ⟨e1, e2⟩ := y
    subst e1; subst e2
    exact ⟨rfl, .int _⟩
  stop := fun H s => by
    unfold rangeD
    rw [List.length_map, List.length_range]
    exact Nat.le_refl _
theorem enum_get {xs : List PyData} {i : Nat} {y : PyData} (h : (enumD xs)[i]? = some y) : ∃ x, xs[i]? = some x ∧ y = .tuple [.int (i : Int), x] := by
  unfold enumD at h
  rw [List.getElem?_zipWith] at h
  cases e : xs[i]? with
  | none => rw [e] at h; split at h <;> simp_all
  | some x =>
    have hi : i < xs.length := (List.getElem?_eq_some_iff.mp e).1
    rw [e, List.getElem?_range hi] at h
    simp at h
    exact ⟨x, rfl, h.symm⟩
theorem enum_len (xs : List PyData) : (enumD xs).length = xs.length := by
  unfold enumD
  rw [List.length_zipWith, List.length_range, Nat.min_self]
theorem iter_enum {K : PySem.W.Frag} {F B : Hp} {a : Addr} {vs : List V} {xs : List PyData} (hb : B a = some (.lst vs)) (hd : DqAll K F vs xs) : IterFor K F B (Ite K a) (enumD xs) where
  go := fun i y H e s => by
    have hq : SqL K H a vs := .of (s _ _ hb)
    obtain ⟨x, ex, rfl⟩ := enum_get e
    obtain ⟨v, hv, hx⟩ := hd.getD ex
    refine ⟨⟨vs, v, hq, hv⟩, fun w H' y => ?_⟩
    obtain ⟨T, x', rfl, hT, rfl, y⟩ := y
    have := y vs hq
    rw [hv] at this
    cases this
    exact .inr ⟨T, _, rfl, hT, rfl, .cons (.int _) (.cons hx .nil)⟩
  stop := fun H s => ⟨vs, .of (s _ _ hb), by rw [hd.len, enum_len]; exact Nat.le_refl _⟩
theorem zip_get {xs ys : List PyData} {i : Nat} {z : PyData} (h : (zipD xs ys)[i]? = some z) : ∃ x y, xs[i]? = some x ∧ ys[i]? = some y ∧ z = .tuple [x, y] := by
  unfold zipD at h
  rw [List.getElem?_zipWith] at h
  cases e : xs[i]? with
  | none => rw [e] at h; simp at h
  | some x =>
    cases e2 : ys[i]? with
    | none => rw [e, e2] at h; simp at h
    | some y =>
      rw [e, e2] at h
      simp at h
      exact ⟨x, y, rfl, rfl, h.symm⟩
theorem iter_zip {K : PySem.W.Frag} {F B : Hp} {a b : Addr} {vs ws : List V} {xs ys : List PyData} (hb : B a = some (.lst vs)) (hb2 : B b = some (.lst ws)) (hd : DqAll K F vs xs) (hd2 : DqAll K F ws ys) : IterFor K F B (Itz K a b) (zipD xs ys) where
  go := fun i y H e s => by
    have hq : SqL K H a vs := .of (s _ _ hb)
    have hq2 : SqL K H b ws := .of (s _ _ hb2)
    obtain ⟨x, y', ex, ey, rfl⟩ := zip_get e
    obtain ⟨v, hv, hx⟩ := hd.getD ex
    obtain ⟨w, hw, hy⟩ := hd2.getD ey
    refine ⟨⟨vs, ws, v, w, hq, hq2, hv, hw⟩, fun u H' y => ?_⟩
    obtain ⟨T, x1, x2, rfl, hT, rfl, y1, y2⟩ := y
    have e1 := y1 vs hq
    have e2 := y2 ws hq2
    rw [hv] at e1; cases e1
    rw [hw] at e2; cases e2
    exact .inr ⟨T, _, rfl, hT, rfl, .cons hx (.cons hy .nil)⟩
  stop := fun H s => ⟨vs, ws, .of (s _ _ hb), .of (s _ _ hb2), by
    unfold zipD
    rw [List.length_zipWith, hd.len, hd2.len]
    omega⟩
theorem iter_zipT {K : PySem.W.Frag} {F B : Hp} {a b : Addr} {vs ws : List V} {xs ys : List PyData} (hb : SqT K B a vs) (hb2 : SqT K B b ws) (hd : DqAll K F vs xs) (hd2 : DqAll K F ws ys) : IterFor K F B (ItzT K a b) (zipD xs ys) where
  go := fun i y H e s => by
    have hq : SqT K H a vs := s.sqT hb
    have hq2 : SqT K H b ws := s.sqT hb2
    obtain ⟨x, y', ex, ey, rfl⟩ := zip_get e
    obtain ⟨v, hv, hx⟩ := hd.getD ex
    obtain ⟨w, hw, hy⟩ := hd2.getD ey
    refine ⟨⟨vs, ws, v, w, hq, hq2, hv, hw⟩, fun u H' y => ?_⟩
    obtain ⟨T, x1, x2, rfl, hT, rfl, y1, y2⟩ := y
    have e1 := y1 vs hq
    have e2 := y2 ws hq2
    rw [hv] at e1; cases e1
    rw [hw] at e2; cases e2
    exact .inr ⟨T, _, rfl, hT, rfl, .cons hx (.cons hy .nil)⟩
  stop := fun H s => ⟨vs, ws, s.sqT hb, s.sqT hb2, by
    unfold zipD
    rw [List.length_zipWith, hd.len, hd2.len]
    omega⟩
def WalkP (K : PySem.W.Frag) (F B : Hp) (v : V) : PyData → Prop
  | .list xs => ∃ a vs, v = .ref a ∧ B a = some (.lst vs) ∧ DqAll K F vs xs
  | .tuple xs => ∃ a vs, v = .ref a ∧ SqT K B a vs ∧ DqAll K F vs xs
  | _ => True
/-- what is walked, frozen or looked at -/
theorem walk_of {z : Bool} {F H : Hp} {A Ao : AS} {ro : Ro} {σ : L2.St} {h : Hd} {v : V} {xs : PyData} {ro2 : Ro} (S : SR g.K g.cl F A ro σ H) (hv : HR g.K g.cl F H A σ h v Ao) (e : (if z = true then h.esc ro else .ofOpt (h.lookF ro) ro) = .ok xs ro2) :
    ∃ F2 A2, SR g.K g.cl F2 A2 ro2 σ H ∧ Stp F H (fun a => A a ∨ Ao a) F2 H A2 ∧ WalkP g.K F2 (if z = true then F2 else H) v xs := by
  cases z with
  | true =>
    simp only [if_true] at e ⊢
    obtain ⟨F2, A2, S2, d, st, _⟩ := hv.esc S e
    refine ⟨F2, A2, S2, st, ?_⟩
    cases xs <;> first | exact trivial | exact d.lst_eq | exact d.tup_eq
  | false =>
    simp only [Bool.false_eq_true, if_false] at e ⊢
    cases q : h.lookF ro with
    | none => rw [q] at e; cases e
    | some x =>
      rw [q] at e
      cases e
      have d := hv.lookF S q
      refine ⟨F, A, S, (Stp.refl.frame Ao).weak fun a z => .inl z, ?_⟩
      cases xs with
      | list xs => exact d
      | tuple xs =>
        obtain ⟨a, vs, e1, e2, e3⟩ := Dq.tup_eq d
        exact ⟨a, vs, e1, S.sub.sqT e2, e3⟩
      | _ => exact trivial
theorem i_seq {a : CE} (ia : Snd g a) (z : Bool) (ok : XOk g c k W X) {tg e : Expr} (h : chkI c (.seq a) tg e = true) : PI X tg e (rdI g W (qt (.seq a)) z (evI g.G z (.seq a))) := by
  simp only [chkI] at h
  obtain ⟨h0, h1⟩ := and2 h
  refine ⟨fun pins s σ H R I ⟨F, A, ro, S, hh⟩ => ?_⟩
  simp only [evI] at hh
  have hh : PostI g W (qt a) z F A σ H ((ev g.G a ro).bind fun h ro => (if z = true then h.esc ro else .ofOpt (h.lookF ro) ro).bind fun x ro => .ofOpt (itemsD x) ro) R := by
    cases r : ev g.G a ro with
    | ok hd ro1 =>
      rw [r] at hh
      simp only [Out.bind_ok] at hh ⊢
      cases z with
      | true => exact hh
      | false =>
        simp only [Bool.false_eq_true, if_false] at hh ⊢
        cases q : hd.lookF ro1 with
        | none => rw [q] at hh; exact hh.elim
        | some x => rw [q] at hh; exact hh
    | exc x ro1 => rw [r] at hh; exact hh
    | stuck => rw [r] at hh; exact hh
  -- which of the two rules
  cases r : ev g.G a ro with
  | stuck => rw [r] at hh; exact hh.elim
  | exc x ro1 =>
    refine (pi_list (ia.E ok h1)).run pins s σ H R I ⟨F, A, ro, S, ?_⟩
    rw [r] at hh ⊢
    exact hh
  | ok hd ro1 =>
    rw [r] at hh
    simp only [Out.bind_ok] at hh
    cases q : (if z = true then hd.esc ro1 else .ofOpt (hd.lookF ro1) ro1 : Out PyData) with
    | stuck => rw [q] at hh; exact hh.elim
    | exc x r2 =>
      cases z with
      | true => exact absurd q esc_noexc
      | false =>
        simp only [Bool.false_eq_true, if_false] at q
        cases q2 : hd.lookF ro1 <;> rw [q2] at q <;> cases q
    | ok x ro2 =>
      rw [q] at hh
      simp only [Out.bind_ok] at hh
      cases x with
      | list xs =>
        refine (pi_list (ia.E ok h1)).run pins s σ H R I ⟨F, A, ro, S, ?_⟩
        rw [r]
        intro v F1 H1 A1 Ao st S1 hv hq
        obtain ⟨F2, A2, S2, st2, a', vs, e1, e2, e3⟩ := walk_of S1 hv q
        refine ⟨a', e1, ⟨vs, ?_⟩, ?_⟩
        · refine .of ?_
          cases z with
          | true => exact S2.sub _ _ e2
          | false => exact e2
        · rw [ok.kk]
          exact hh _ F2 H1 A2 (st.trans st2) S2 (iter_list e2 e3) fun z => (hq z).s
      | tuple xs =>
        refine (pi_tup (ia.E ok h1)).run pins s σ H R I ⟨F, A, ro, S, ?_⟩
        rw [r]
        intro v F1 H1 A1 Ao st S1 hv hq
        obtain ⟨F2, A2, S2, st2, a', vs, e1, e2, e3⟩ := walk_of S1 hv q
        refine ⟨a', e1, ⟨vs, ?_⟩, ?_⟩
        · rw [ok.kk]
          cases z with
          | true => exact S2.sub.sqT e2
          | false => exact e2
        · rw [ok.kk]
          exact hh _ F2 H1 A2 (st.trans st2) S2 (iter_tup e2 e3) fun z => (hq z).s
      | _ => exact hh.elim
theorem evs_len {G : GE} {c : CC} : ∀ {as : CE} {es : List Expr} {ro ro' : Ro} {hs : List Hd}, chks c as es = true → evs G as ro = .ok hs ro' → hs.length = es.length
  | as, [], ro, ro', hs, h, e => by
    cases as <;> simp only [chks, Bool.false_eq_true] at h
    rw [evs] at e
    cases e
    rfl
  | as, x :: es, ro, ro', hs, h, e => by
    cases as <;> simp only [chks, Bool.false_eq_true] at h
    case cons a as =>
      rw [evs] at e
      cases q : ev G a ro with
      | exc y r => rw [q] at e; cases e
      | stuck => rw [q] at e; cases e
      | ok y r =>
        rw [q] at e
        simp only [Out.bind_ok] at e
        split at e
        · cases q2 : evs G as r with
          | exc y r => rw [q2] at e; cases e
          | stuck => rw [q2] at e; cases e
          | ok ys r2 =>
            rw [q2] at e
            cases e
            rw [List.length_cons, List.length_cons, evs_len (and2 h).2 q2]
        · cases e
theorem HRs.len {K : PySem.W.Frag} {cl : ClW} {F H : Hp} {A : AS} {σ : L2.St} : ∀ {hs : List Hd} {vs : List V} {Ao : AS}, HRs K cl F H A σ hs vs Ao → vs.length = hs.length
  | [], vs, Ao, ⟨h1, h2⟩ => by rw [h1]; rfl
  | h :: hs, vs, Ao, ⟨v, ws, B, C, e1, h1, h2, h3, h4⟩ => by rw [e1, List.length_cons, List.length_cons, HRs.len h2]
theorem i_rng {as : CE} (ia : Snd g as) (z : Bool) (ok : XOk g c k W X) {tg e : Expr} (h : chkI c (.rng as) tg e = true) : PI X tg e (rdI g W (qt (.rng as)) z (evI g.G z (.rng as))) := by
  simp only [chkI] at h
  have key : ∀ {es : List Expr} (_ : chks c as es = true) {F : Hp} {A : AS} {ro : Ro} {σ : L2.St} {H : Hp} {R : It → Hp → Prop} (Q : List V → Hp → Prop), PostI g W (qt (.rng as)) z F A σ H (evI g.G z (.rng as) ro) R →
      (∀ vs H1, vs.length = es.length → ((∃ j : Int, vs = [.int j] ∧ -(2 ^ 62) ≤ j ∧ j < 2 ^ 62 ∧ R (Itr 0 j.toNat) H1) ∨ (∃ i j : Int, vs = [.int i, .int j] ∧ (-(2 ^ 62) ≤ i ∧ i < 2 ^ 62 ∧ -(2 ^ 62) ≤ j ∧ j < 2 ^ 62) ∧ R (Itr i (j - i).toNat) H1)) → Q vs H1) →
      PostA g W (qt as) F A σ H (evs g.G as ro) Q := by
    intro es hc F A ro σ H R Q hh hQ
    simp only [evI] at hh
    refine hh.fromA fun hs ro1 hr hh vs F1 H1 A1 Ao st S1 hv hq => hQ _ _ (by rw [hv.len, evs_len hc hr]) ?_
    have hh := hh.shift st (fun z => (hq z).s)
    split at hh
    · rename_i n en
      split at hh
      · rename_i hn
        have d := hv.looksD S1 en
        cases d with
        | cons k1 k2 =>
          cases k1; cases k2
          refine .inl ⟨n, rfl, hn.1, hn.2, ?_⟩
          have it : IterFor g.K F1 (if z = true then F1 else H1) (Itr 0 (n - 0).toNat) (rangeD 0 n) := iter_rng
          rw [Int.sub_zero] at it
          exact hh _ F1 H1 A1 .refl S1 it fun _ => .refl _
      · exact hh.elim
    · rename_i m n en
      split at hh
      · rename_i hn
        have d := hv.looksD S1 en
        cases d with
        | cons k1 k2 =>
          cases k2 with
          | cons k2 k3 =>
            cases k1; cases k2; cases k3
            exact .inr ⟨m, n, rfl, hn, hh _ F1 H1 A1 .refl S1 iter_rng fun _ => .refl _⟩
      · exact hh.elim
    · exact hh.elim
  split at h
  · simp only [Bool.and_eq_true, decide_eq_true_eq] at h
    obtain ⟨⟨h1, h2⟩, h3⟩ := h
    subst h1
    obtain ⟨g1, g2, g3, g4⟩ := ok.bltn h2
    refine ⟨fun pins s σ H R I ⟨F, A, ro, S, hh⟩ => ?_⟩
    obtain ⟨p1, p2⟩ := plain_args (env := X.env) (pos := default) h3
    refine (pi_range1 g1 g4 (ia.L ok h3) p1).run pins s σ H R I ⟨F, A, ro, S, key h3 _ hh ?_⟩
    rintro vs H1 hl (q | ⟨i, j, e, _⟩)
    · exact q
    · rw [e] at hl; cases hl
  · simp only [Bool.and_eq_true, decide_eq_true_eq] at h
    obtain ⟨⟨h1, h2⟩, h3⟩ := h
    subst h1
    obtain ⟨g1, g2, g3, g4⟩ := ok.bltn h2
    refine ⟨fun pins s σ H R I ⟨F, A, ro, S, hh⟩ => ?_⟩
    obtain ⟨p1, p2⟩ := plain_args (env := X.env) (pos := default) h3
    have p3 : ∀ {a b : Expr}, chks c as [a, b] = true → starEach [b] X.env = [(false, eval b X.env)] := by
      intro a b h3
      cases as <;> simp only [chks, Bool.false_eq_true] at h3
      exact (plain_args (env := X.env) (pos := default) (and2 h3).2).1
    refine (pi_range2 g1 g4 (ia.L ok h3) (by rw [p1, p3 h3]) (p3 h3)).run pins s σ H R I ⟨F, A, ro, S, key h3 _ hh ?_⟩
    rintro vs H1 hl (⟨j, e, _⟩ | q)
    · rw [e] at hl; cases hl
    · exact q
  · cases h
end
end Lw

set_option maxRecDepth 100000
/-! LwT: sorted(set(xs)), xs tuples of ints. -/
namespace Lw
open PySem L2 RZ
/-! ### the order of tuples of ints -/
theorem dataLt_nil_tup : PySem.W.dataLt (.tuple []) (.tuple []) = false := by decide
theorem lexLt_atom (n m : Int) (a b : List (Int ⊕ List Nat)) : PyProof.Rows.lexLt PyProof.Rows.itemOrd (.inl n :: a) (.inl m :: b) = (decide (n < m) || (!decide (m < n) && PyProof.Rows.lexLt PyProof.Rows.itemOrd a b)) := by
  rw [PyProof.Rows.lex_cons]; rfl
theorem dataLt_tup_int (n m : Int) (xs ys : List PyData) : PySem.W.dataLt (.tuple (.int n :: xs)) (.tuple (.int m :: ys)) = (decide (n < m) || (decide (n = m) && PySem.W.dataLt (.tuple xs) (.tuple ys))) := by
  have e : PySem.W.dataLt (.tuple (.int n :: xs)) (.tuple (.int m :: ys)) = PyProof.Rows.lexLt PyProof.Rows.itemOrd (.inl 1 :: .inl n :: PySem.W.keyToksAll xs) (.inl 1 :: .inl m :: PySem.W.keyToksAll ys) := by
    unfold PySem.W.dataLt
    simp [PySem.W.keyToks, PySem.W.keyToksAll]
  rw [e, lexLt_atom, lexLt_atom]
  have e2 : PySem.W.dataLt (.tuple xs) (.tuple ys) = PyProof.Rows.lexLt PyProof.Rows.itemOrd (PySem.W.keyToksAll xs) (PySem.W.keyToksAll ys) := by
    unfold PySem.W.dataLt
    simp [PySem.W.keyToks]
  rw [e2]
  rcases Int.lt_trichotomy n m with h | h | h
  · simp [h, show ¬ m < n by omega]
  · subst h; simp
  · simp [h, show ¬ n < m by omega, show ¬ n = m by omega]
def tupI (k : List Int) : PyData := .tuple (k.map .int)
theorem code_dataLt {B : Int} : ∀ (k q : List Int), k.length = q.length → TS.Bd B k → TS.Bd B q → (PySem.W.dataLt (tupI k) (tupI q) = true ↔ TS.code B k < TS.code B q)
  | [], [], _, _, _ => by
    constructor
    · intro h; exact absurd h (by unfold tupI; rw [List.map_nil, dataLt_nil_tup]; decide)
    · intro h; exact absurd h (Int.lt_irrefl _)
  | [], _ :: _, h, _, _ => by cases h
  | _ :: _, [], h, _, _ => by cases h
  | d :: r, e :: s, h, h1, h2 => by
    have hl : r.length = s.length := by simpa using h
    have ih := code_dataLt r s hl h1.tail h2.tail
    have e1 : PySem.W.dataLt (tupI (d :: r)) (tupI (e :: s)) = (decide (d < e) || (decide (d = e) && PySem.W.dataLt (tupI r) (tupI s))) := dataLt_tup_int d e _ _
    rw [e1]
    rcases Int.lt_trichotomy d e with hde | hde | hde
    · have := TS.code_lt hl h1.tail h2.tail hde
      simp [hde, this]
    · subst hde
      rw [TS.code_same hl, ← ih]
      simp
    · have := TS.code_lt hl.symm h2.tail h1.tail hde
      have q : ¬ TS.code B (d :: r) < TS.code B (e :: s) := by omega
      simp [show ¬ d < e by omega, show ¬ d = e by omega, q]
theorem tupI_inj {k q : List Int} (h : tupI k = tupI q) : k = q := by
  unfold tupI at h
  injection h with h
  exact List.map_inj_right (fun a b e => by injection e) |>.mp h
theorem intsD_eq : ∀ {xs : List PyData} {is : List Int}, intsD xs = some is → xs = is.map .int
  | [], is, h => by rw [intsD] at h; cases h; rfl
  | x :: xs, is, h => by
    cases x <;> simp only [intsD] at h <;> try cases h
    split at h
    · rename_i js e
      cases h
      rw [intsD_eq e] <;> rfl
    · cases h
theorem tupsD_eq : ∀ {xs : List PyData} {ks : List (List Int)}, tupsD xs = some ks → xs = ks.map tupI
  | [], ks, h => by rw [tupsD] at h; cases h; rfl
  | x :: xs, ks, h => by
    cases x <;> simp only [tupsD] at h <;> try cases h
    split at h
    · rename_i a b e1 e2
      cases h
      rw [tupsD_eq e2, intsD_eq e1] <;> rfl
    · cases h
theorem tups_ks {K : PySem.W.Frag} {F : Hp} : ∀ {ks : List (List Int)} {ws : List V}, DqAll K F ws (ks.map tupI) → ∃ ps : List (Addr × List Int), ws = ps.map (fun p => V.ref p.1) ∧ ps.map (·.2) = ks ∧ ∀ p ∈ ps, SqT K F p.1 (p.2.map V.int)
  | [], ws, h => by cases h; exact ⟨[], rfl, rfl, fun _ z => nomatch z⟩
  | k :: ks, ws, h => by
    cases h with
    | cons h1 h2 =>
      obtain ⟨ps, e1, e2, e3⟩ := tups_ks h2
      obtain ⟨a, vs, rfl, k1, k2⟩ := Dq.tup_eq h1
      have : vs = k.map V.int := k2.ints (by
        have : ∀ k : List Int, intsD (k.map .int) = some k := fun k => by
          induction k with
          | nil => rfl
          | cons a k ih => rw [List.map_cons, intsD, ih]
        exact this k)
      subst this
      exact ⟨(a, k) :: ps, by rw [e1]; rfl, by rw [List.map_cons, e2], fun p hp => by
        rcases List.mem_cons.mp hp with rfl | hp
        · exact k1
        · exact e3 p hp⟩
theorem dq_tups {K : PySem.W.Frag} {F : Hp} : ∀ {ps : List (Addr × List Int)}, (∀ p ∈ ps, SqT K F p.1 (p.2.map V.int)) → DqAll K F (ps.map fun p => V.ref p.1) (ps.map fun p => tupI p.2)
  | [], _ => .nil
  | p :: ps, h => .cons (.tup (h p List.mem_cons_self) (DqAll.ofInts _)) (dq_tups fun q hq => h q (List.mem_cons_of_mem _ hq))
theorem mem_dedupL {k : List Int} : ∀ {ks : List (List Int)}, k ∈ dedupL ks ↔ k ∈ ks
  | [] => by rw [dedupL]
  | a :: ks => by
    rw [dedupL]
    split
    · rename_i h
      rw [mem_dedupL, List.mem_cons]
      constructor
      · exact .inr
      · rintro (rfl | h2)
        · simpa using h
        · exact h2
    · rw [List.mem_cons, List.mem_cons, mem_dedupL]
theorem nodup_dedupL : ∀ ks : List (List Int), (dedupL ks).Nodup
  | [] => .nil
  | a :: ks => by
    rw [dedupL]
    split
    · exact nodup_dedupL ks
    · rename_i h
      refine List.nodup_cons.mpr ⟨fun z => h ?_, nodup_dedupL ks⟩
      simpa using mem_dedupL.mp z
/-- what is there once, by the order -/
theorem sset_eq {B : Int} {d : Nat} {ks : List (List Int)} {L : List (List Int)} (hL : L.Nodup) (hm : ∀ k, k ∈ L ↔ k ∈ ks) (hk : ∀ k ∈ ks, k.length = d ∧ TS.Bd B k) (hs : L.Pairwise fun a b => TS.code B a ≤ TS.code B b) :
    L.map tupI = insSort ((dedupL ks).map tupI) := by
  have hn : ((dedupL ks)).Nodup := nodup_dedupL ks
  have pm : L.Perm (dedupL ks) := (List.perm_ext_iff_of_nodup hL hn).mpr fun k => by rw [hm k, mem_dedupL]
  have hlt : ∀ a ∈ L, ∀ b ∈ L, TS.code B a ≤ TS.code B b → leB (tupI a) (tupI b) = true := fun a ha b hb h => by
    unfold leB
    have ka := hk a ((hm a).mp ha)
    have kb := hk b ((hm b).mp hb)
    cases q : PySem.W.dataLt (tupI b) (tupI a) with
    | false => rfl
    | true =>
      have := (code_dataLt b a (by rw [ka.1, kb.1]) kb.2 ka.2).mp q
      omega
  refine List.Perm.eq_of_pairwise (le := fun a b => leB a b = true) (fun a b ha hb h1 h2 => ?_) ?_ (insSort_sorted _) ((pm.map tupI).trans (insSort_perm _).symm)
  · obtain ⟨x, hx, rfl⟩ := List.mem_map.mp ha
    obtain ⟨y, hy, rfl⟩ := List.mem_map.mp ((insSort_perm _).mem_iff.mp hb)
    have kx := hk x ((hm x).mp hx)
    have ky := hk y (by rw [mem_dedupL] at hy; exact hy)
    unfold leB at h1 h2
    have al : ∀ x y : List Int, PySem.W.alike (tupI x) (tupI y) = true := fun x y => by
      unfold tupI
      rw [PySem.W.alike]
      induction x generalizing y with
      | nil => rw [List.map_nil, PySem.W.alikeAll]
      | cons a x ih =>
        cases y with
        | nil => rw [List.map_cons, List.map_nil, PySem.W.alikeAll]
        | cons b y => rw [List.map_cons, List.map_cons, PySem.W.alikeAll, PySem.W.alike, ih y]; rfl
    refine lt_antisymm (al x y) ?_ ?_
    · cases q : PySem.W.dataLt (tupI x) (tupI y) with
      | false => rfl
      | true => rw [q] at h2; cases h2
    · cases q : PySem.W.dataLt (tupI y) (tupI x) with
      | false => rfl
      | true => rw [q] at h1; cases h1
  · refine List.pairwise_map.mpr (List.Pairwise.imp_of_mem (fun {a b} ha hb h => hlt a ha b hb h) hs)
theorem le_sum_nat : ∀ {ks : List (List Int)} {k : List Int} {n : Int}, k ∈ ks → n ∈ k → n ≤ ((ks.map fun k => (k.map Int.natAbs).sum).sum : Nat)
  | c :: ks, k, n, h, hn => by
    rw [List.map_cons, List.sum_cons]
    rcases List.mem_cons.mp h with rfl | h
    · have : ∀ {k : List Int} {n : Int}, n ∈ k → n ≤ ((k.map Int.natAbs).sum : Nat) := fun {k n} hn => by
        induction k with
        | nil => cases hn
        | cons a k ih =>
          rw [List.map_cons, List.sum_cons]
          rcases List.mem_cons.mp hn with rfl | hn
          · omega
          · have := ih hn
            omega
      have := this hn
      omega
    · have := le_sum_nat h hn
      omega
section
variable {g : Gx} {c : CC} {k : Nat} {W : WX} {X : Cx}
theorem e_sset (ok : XOk g c k W X) {a : CE} (ia : Snd g a) {e : Expr} (h : chk c (.sset a) e = true) : PE X e (rdE g W (qt (.sset a)) (ev g.G (.sset a))) := by
  simp only [chk] at h
  split at h
  · simp only [Bool.and_eq_true, decide_eq_true_eq] at h
    obtain ⟨⟨⟨⟨⟨⟨h1, h2⟩, h3⟩, h4⟩, h5⟩, h6⟩, h7⟩ := h
    subst h2; subst h4
    obtain ⟨g1, g2, g3, g4⟩ := ok.bltn h3
    obtain ⟨f1, f2, f3, f4⟩ := ok.bltn h5
    have hc : X.calm = true := by rw [ok.calm]; exact h1
    have hu := ok.un
    refine ⟨fun pins s σ H Q I ⟨F, A, ro, S, hh⟩ => ?_⟩
    refine (pe_callB (cr_sortedT hc) g1 g4 (by decide +kernel) (pa_cons (pe_callTy (cr_setOfT hc (by omega)) f1 f4 (by decide +kernel) (pa_cons (ia.E ok h7) pa_nil (star_of h6)) f3 f2 (star_of h6) rfl) pa_nil) g3 g2 rfl rfl).run pins s σ H Q I ?_
    simp only [ev] at hh
    refine ⟨F, A, ro, S, hh.bind fun hs ro1 _ hh v F1 H1 A1 Ao st S1 hv hq => ?_⟩
    have hh := hh.shift st (fun z => (hq z).s)
    split at hh
    · rename_i xs hx
      obtain ⟨hd, ho, hh⟩ := hh.ofOpt
      obtain ⟨ys, hy, rfl⟩ := of_map_some ho
      unfold ssetD at hy
      split at hy
      · rename_i ks hks
        split at hy
        · rename_i hcond
          cases hy
          obtain ⟨hlen, hall⟩ := hcond
          rw [tupsD_eq hks] at hx
          obtain ⟨l, ws, rfl, hl, hws⟩ := hv.lookF S1 hx
          obtain ⟨ps, e1, e2, e3⟩ := tups_ks hws
          subst e1
          have sq : ∀ p ∈ ps, SqT g.K F1 p.1 (p.2.map V.int) := e3
          have hB : ∀ p ∈ ps, p.2.length = (ks.headD []).length ∧ 1 ≤ p.2.length ∧ TS.Bd (((ks.map fun k => (k.map Int.natAbs).sum).sum : Nat) + 1) p.2 := fun p hp => by
            have hm : p.2 ∈ ks := by rw [← e2]; exact List.mem_map_of_mem hp
            have := List.all_eq_true.mp hall p.2 hm
            simp only [Bool.and_eq_true, decide_eq_true_eq, List.all_eq_true] at this
            refine ⟨this.1.2, this.1.1, fun n hn => ⟨this.2 n hn, ?_⟩⟩
            have := le_sum_nat hm hn
            omega
          rw [ok.kk, ok.pr, ok.ww]
          refine ⟨l, ps, rfl, SqL.of hl, fun p hp => S1.sub.sqT (sq p hp), by rw [← List.length_map (f := (·.2)), e2]; exact hlen, fun a L ha hL1 hL2 => ?_⟩
          have sub1 : Sub H1 (upd H1 a (SetTO g.P g.w a L)) := Sub.new ha
          have neA : ∀ p ∈ L, SqT g.K F1 p.1 (p.2.map V.int) := fun p hp => sq p (hL1 p hp)
          obtain ⟨d, hd1, hd⟩ : ∃ d : Nat, 1 ≤ d ∧ ∀ p ∈ ps, p.2.length = d := by
            cases ps with
            | nil => exact ⟨1, Nat.le_refl _, fun _ z => nomatch z⟩
            | cons p0 ps => exact ⟨_, (hB p0 List.mem_cons_self).2.1, fun p hp => (hB p hp).1.trans (hB p0 List.mem_cons_self).1.symm⟩
          refine ⟨a, L, d, ((ks.map fun k => (k.map Int.natAbs).sum).sum : Nat) + 1, rfl, upd_same, fun p hp => sub1.sqT (S1.sub.sqT (neA p hp)), hd1, fun p hp => ⟨hd p (hL1 p hp), (hB p (hL1 p hp)).2.2⟩, fun L' q pm nd few pw hq2 => ?_⟩
          obtain ⟨S2, st2, _, _⟩ := S1.newO (ob := SetTO g.P g.w a L) ha
          have hh2 := hh.shift st2.asT (fun _ => sub1)
          have em : (L'.map fun p => tupI p.2) = insSort ((dedupL ks).map tupI) := by
            have := sset_eq (ks := ks) (L := L'.map (·.2)) (d := d) (B := ((ks.map fun k => (k.map Int.natAbs).sum).sum : Nat) + 1) nd (fun k => ?_) (fun k hk => ?_) (List.pairwise_map.mpr pw)
            · rw [← this, List.map_map]; rfl
            · rw [← e2]
              constructor
              · intro h
                obtain ⟨p, hp, rfl⟩ := List.mem_map.mp h
                exact List.mem_map_of_mem (hL1 p (pm.mem_iff.mp hp))
              · intro h
                obtain ⟨p, hp, rfl⟩ := List.mem_map.mp h
                obtain ⟨r, hr, er⟩ := List.mem_map.mp (hL2 p hp)
                exact List.mem_map.mpr ⟨r, pm.mem_iff.mpr hr, er⟩
            · rw [← e2] at hk
              obtain ⟨p, hp, rfl⟩ := List.mem_map.mp hk
              exact ⟨hd p hp, (hB p hp).2.2⟩
          refine hh2.res S2 ⟨q, _, _, rfl, rfl, hq2, rfl, ?_⟩
          have := dq_tups (K := g.K) (F := F1) (ps := L') fun p hp => neA p (pm.mem_iff.mp hp)
          rw [em] at this
          exact this
        · cases hy
      · cases hy
    · exact hh.elim
  · cases h
end
end Lw

set_option maxRecDepth 100000
/-! LwF: sorted(d). -/
namespace Lw
open PySem PySem.Spec PyProof.Rows L2
mutual
theorem reads_key {h : Heap} : ∀ (k : NestedKey) (v : Value) (as : List Addr), Reads h v k.data as → as = []
  | .none, _, _, r => by cases r; rfl
  | .num _, _, _, r => by cases r; rfl
  | .text _, _, _, r => by cases r; rfl
  | .tup ks, _, _, r => by
    cases r with
    | tuple _ _ _ t => exact reads_keys ks _ _ t
theorem reads_keys {h : Heap} : ∀ (ks : List NestedKey) (vs : List Value) (as : List Addr), ReadsAll h vs (NestedKey.datas ks) as → as = []
  | [], _, _, r => by cases r; rfl
  | k :: ks, _, _, r => by
    cases r with
    | cons r1 r2 => rw [reads_key k _ _ r1, reads_keys ks _ _ r2]; rfl
end
section
variable {X : Cx}
def rSortN (K : PySem.W.Frag) (w : World) : List V → Hp → VK → Prop := fun vs H Q => ∃ (F : Hp) (d : Addr) (xs : NX) (ys : List PyData), Sub F H ∧ vs = [.ref d] ∧ H d = some (dcO w d xs) ∧ DcF K F d xs ∧ sortD (xs.map (·.1.data)) = some ys ∧
  ∀ p ws, H p = none → DqAll K F ws ys → Q (.ref p) (upd H p (.lst ws))
theorem dq_keys {K : PySem.W.Frag} {F : Hp} : ∀ {xs : NX}, KeysN K F xs → DqAll K F (xs.map fun x => V.ref x.2.1) (xs.map (·.1.data))
  | [], _ => .nil
  | x :: xs, h => .cons (h x List.mem_cons_self).1 (dq_keys fun z hz => h z (List.mem_cons_of_mem _ hz))
theorem vals_refs : ∀ xs : NX, Vals (xs.map fun x => V.ref x.2.1) (xs.map fun x => Value.ref x.2.1)
  | [] => .nil
  | _ :: xs => .cons rfl (vals_refs xs)
theorem cr_sortedN (hc : X.calm = true) (hu : X.A.units + 65 < cLine) : CallR X (.builtin "sorted") (rSortN X.K X.w) := by
  intro pins s σ H vs us Q I r h
  obtain ⟨F, d, xs, ys, sb, rfl, e, f, hs, q⟩ := h
  obtain rfl := Vals.ref1 r
  unfold sortD at hs
  split at hs
  · rename_i hcond
    cases hs
    rw [Bool.and_eq_true, Bool.and_eq_true] at hcond
    obtain ⟨⟨hs1, hs2⟩, hs3⟩ := hcond
    obtain ⟨a1, a2⟩ := allAlike_of hs1
    obtain ⟨o, es, ep, h1, h2, h3, h4, h5, h6⟩ := dc_at I sb e f
    have hes : es.size = xs.length := by rw [← Array.length_toList, h4, List.length_map]
    refine Calls.call_function_entry PyProof.Rows.kind_sorted PyProof.Rows.plain_sorted PyProof.Rows.entry_sorted (PyProof.Rows.args_sorted1 _) ?_
    unfold Builtin.«sorted»
    refine wpAny_bind (m := checkCount "sorted" 1 1 _) (wpAny_pure ?_)
    refine wpAny_bind (PySem.W.kdu_collect (A := X.A.in1) (PySem.KdlSrc.rawDict (d := d) (es := es) (ep := ep) f.2.2.2) (I.ok.hd hc) ⟨o, h1, h2, h3⟩ (by rw [hes]; exact f.2.2.1) fun h' tk acc hk hacc => ?_)
    have hacc' : acc.toList = xs.map fun x => Value.ref x.2.1 := by
      refine List.ext_getElem? fun j => ?_
      rw [Array.getElem?_toList, List.getElem?_map]
      cases q1 : acc[j]? with
      | none =>
        have : xs.length ≤ j := by rw [← hes, ← hacc.1]; exact Array.getElem?_eq_none_iff.mp q1
        rw [List.getElem?_eq_none this]; rfl
      | some v =>
        obtain ⟨hi, ev⟩ := hacc.2 j v q1
        have e2 : es.toList[j]? = some es[j] := by rw [Array.getElem?_toList]; exact Array.getElem?_eq_getElem hi
        rw [h4, List.getElem?_map] at e2
        cases e3 : xs[j]? with
        | none => rw [e3] at e2; cases e2
        | some x =>
          rw [e3] at e2
          rw [ev, ← Option.some.inj e2]
          rfl
    rw [hacc']
    have I1 : L2.Inv X pins σ H { s with heap := h', toks := tk } := I.kept hk
    have dk := dq_keys f.1
    have rv := vals_refs xs
    have lx : (xs.map fun x => Value.ref x.2.1).length = xs.length := List.length_map _
    refine wpAny_bind (wpAny_newList ?_ (by rw [lx]; exact f.2.2.1))
    have hoL : (h'.push (seqObj "list" (xs.map fun x => Value.ref x.2.1).toArray 0)).get? h'.objs.size = some (seqObj "list" (xs.map fun x => Value.ref x.2.1).toArray 0) := Heap.get?_push_size _ rfl
    show wpAny _ _ _ _ _ { s with heap := h'.push (seqObj "list" (xs.map fun x => Value.ref x.2.1).toArray 0), toks := tk }
    obtain ⟨as, hr⟩ := Dp.readsAll I1 _ _ _ (Dq.dpAll _ _ (Dq.monoAll sb _ _ dk)) rv
    have hlen := dk.len
    have e2 : ((xs.map fun x => V.ref x.2.1).zip (xs.map (·.1.data))).map (·.2) = xs.map (·.1.data) := List.map_snd_zip (by omega)
    have lz : ((xs.map fun x => V.ref x.2.1).zip (xs.map (·.1.data))).length = xs.length := by rw [← List.length_map (f := (·.2)), e2, List.length_map]
    refine wpAny_bind (wpAny_holding (PySem.W.list_sort_data (β := V × PyData) (enc := (·.2)) (R := fun u p => L2.RelV p.1 u) (bs := (xs.map fun x => V.ref x.2.1).zip (xs.map (·.1.data))) hoL (zip_each rv hlen fun _ _ _ _ _ _ _ r => r) (zip_each rv hlen fun i v u x e1 e2 e3 r => ?_) (by rw [e2]; exact a1.1) (by rw [e2]; exact sortable_of a1 hs2) (by rw [lz]; exact f.2.2.1) ?_ fun out hlo ho => ?_))
    · obtain ⟨cs, r1, _, _, _⟩ := PySem.W.readsAll_at hr i u e2
      rw [List.getD_eq_getElem?_getD, e3] at r1
      have r1 : Reads h' u x cs := r1
      refine ⟨cs, PyProof.Rows.Reads.keeps (fun b o e => Heap.get?_push_of_some _ e) r1, ?_⟩
      obtain ⟨k, hk⟩ : ∃ k : NestedKey, x = k.data := by
        rw [List.getElem?_map] at e3
        cases e4 : xs[i]? with
        | none => rw [e4] at e3; cases e3
        | some z => rw [e4] at e3; exact ⟨z.1, (Option.some.inj e3).symm⟩
      subst hk
      rw [reads_key k _ _ r1]
      simp
    · intro b hb
      have hb2 : b.2 ∈ xs.map (·.1.data) := by rw [← e2]; exact List.mem_map_of_mem hb
      have := depth_item hb2
      show X.A.in1.units + 1 + _ < _
      have : X.A.in1.units = X.A.units + 1 := rfl
      omega
    · obtain ⟨e', he'⟩ := PyProof.Rows.sortedHeap_at (vs := xs.map fun x => Value.ref x.2.1) (out := out.toArray) hoL
      have em : (((xs.map fun x => V.ref x.2.1).zip (xs.map (·.1.data))).mergeSort (PySem.W.dataLe false (·.2))).map (·.2) = insSort (xs.map (·.1.data)) := by
        rw [← insSort_eq a1]
        rw [List.map_mergeSort (s := leB) (fun a _ b _ => by rw [PySem.W.dataLe_eq]; rfl), e2]
      have hd : DqAll X.K F ((((xs.map fun x => V.ref x.2.1).zip (xs.map (·.1.data))).mergeSort (PySem.W.dataLe false (·.2))).map (·.1)) (insSort (xs.map (·.1.data))) := by
        rw [← em]
        exact dq_pairs fun p hp => dq_zip dk p ((List.mergeSort_perm _ _).mem_iff.mp hp)
      have hvv := each_vals (fun _ _ z => z) ho
      refine wpAny_pure ⟨_, rfl, .ref h'.objs.size, upd H h'.objs.size (.lst _), I1.laid (t' := tk) (fun b u e => ?_) (Nat.le_refl _) (show ObjOk X.prog X.w _ _ _ (.lst _) from ⟨?_, out, e', hvv, he'⟩), rfl, q _ _ (I1.hok.fresh (Nat.le_refl _)) hd⟩
      · have hb : b < h'.objs.size := Heap.lt_size e
        rw [PyProof.Rows.sortedHeap_old (Nat.ne_of_lt hb) (by rw [size_push']; exact Nat.lt_succ_of_lt hb)]
        exact Heap.get?_push_of_some _ e
      · rw [hvv.length, hlo, lz]
        exact f.2.2.1
  · cases hs
end
section
variable {g : Gx} {c : CC} {k : Nat} {W : WX} {X : Cx}
theorem e_dsort (ok : XOk g c k W X) {a : CE} (ia : Snd g a) {e : Expr} (h : chk c (.dsort a) e = true) : PE X e (rdE g W (qt (.dsort a)) (ev g.G (.dsort a))) := by
  simp only [chk] at h
  split at h
  · simp only [Bool.and_eq_true, decide_eq_true_eq] at h
    obtain ⟨⟨⟨⟨h1, h2⟩, h3⟩, h4⟩, h5⟩ := h
    subst h2
    obtain ⟨g1, g2, g3, g4⟩ := ok.bltn h3
    have hc : X.calm = true := by rw [ok.calm]; exact h1
    refine ⟨fun pins s σ H Q I ⟨F, A, ro, S, hh⟩ => ?_⟩
    refine (pe_callB (cr_sortedN hc ok.hu) g1 g4 (by decide +kernel) (pa_cons (ia.E ok h5) pa_nil (star_of h4)) g3 g2 (star_of h4) rfl).run pins s σ H Q I ?_
    simp only [ev] at hh
    refine ⟨F, A, ro, S, hh.bind fun hs ro1 _ hh v F1 H1 A1 Ao st S1 hv hq => ?_⟩
    have hh := hh.shift st (fun z => (hq z).s)
    split at hh
    · rename_i ks os hl
      obtain ⟨hd, ho, hh2⟩ := hh.ofOpt
      obtain ⟨ys, hy, rfl⟩ := of_map_some ho
      obtain ⟨B, hB, _⟩ := hv.look S1 hl
      obtain ⟨p, xs, vs, A', rfl, rfl, q1, q2, q3, q4⟩ := dc_of hB
      first | rw [ok.kk, ok.ww, ← ok.cw] | rw [ok.ww, ← ok.cw]
      exact ⟨F1, p, xs, ys, S1.sub, rfl, q1, q2, hy, fun pp ws hp dq => hh2.res S1 ⟨pp, _, _, rfl, rfl, hp, rfl, dq⟩⟩
    · exact hh.elim
  · cases h
end
end Lw

set_option maxRecDepth 100000
/-! LwE: enumerate over a tuple. -/
namespace Lw
open PySem PySem.Spec PyProof.Rows L2
open AutoSeq1 (wpAny_loadPart')

theorem meets_enumerate_newT (l : Addr) (items : Array Value) (n : Nat) (dct : Option Addr) (sl : Array (Option Value)) :
    Meets (Builtin.«enumerate.__new__» ⟨[.type "enumerate", .ref l], []⟩) (fun _ R s => s.heap.get? l = some { cls := .type "tuple", dict := dct, data := .seq items n, slots := sl } ∧
      R (.ok (.ret (.ref (s.heap.push { cls := .type "tuple_iterator", data := .fields #[.ref l, .int 0 0] }).objs.size)))
        { s with heap := (s.heap.push { cls := .type "tuple_iterator", data := .fields #[.ref l, .int 0 0] }).push { cls := .type "enumerate", data := .fields #[.none, .bool false, .ref s.heap.objs.size, rawInt 0, .none, .none] } }) :=
  .of_wp fun prog w A R s h => by
    obtain ⟨hp, g, d, tk, os⟩ := s; obtain ⟨hl, h⟩ := h
    have hsub := sub_enumerate
    have hL : Heap.IsTuple (Shared.heap ⟨hp, g, d, tk, os⟩) l items := ⟨_, hl, rfl, n, rfl⟩
    wp_walk using wpAny_loadPart' hl
    refine wpAny_stack_any fun st => wpAny_pure ?_
    split
    · rename_i c _ _ _ _ _
      cases (c == Value.type "enumerate")
      · wp_walk using wpAny_loadPart' hl, wpAny_pyIter_tuple hL
        exact ⟨_, rfl, h⟩
      · wp_walk using wpAny_loadPart' hl, wpAny_pyIter_tuple hL
        exact ⟨_, rfl, h⟩
    · wp_walk using wpAny_loadPart' hl, wpAny_pyIter_tuple hL
      exact ⟨_, rfl, h⟩
section
variable {prog : Program} {w : World} {A : Around} {E : Value → Shared → Prop} {s : Shared}
theorem call_enumerate_tuple {l : Addr} {items : Array Value} {Q : Value → Shared → Prop} (hL : s.heap.IsTuple l items)
    (h : ∀ h', IsEnum h' (s.heap.objs.size + 1) s.heap.objs.size 0 .none → h'.IsTupleIter s.heap.objs.size l 0 → h'.objs.size = s.heap.objs.size + 2 →
      (∀ b o, s.heap.get? b = some o → h'.get? b = some o) → Q (.ref (s.heap.objs.size + 1)) { s with heap := h' }) :
    wpAny (model prog w) A (call (.type "enumerate") [.ref l]) Q E s := by
  obtain ⟨⟨c, dct, dt, sl⟩, hl, hc, n, hd⟩ := hL
  replace hc : c = .type "tuple" := hc
  replace hd : dt = .seq items n := hd
  subst hc hd
  refine callType_new F.called_enumerate (by decide) (F.typeCall_enumerate_1 _) (F.newCall_enumerate_1 _) (fun obj => F.args_object_init_2 obj _) F.entry_enumerate_new
    (meets_enumerate_newT l items n dct sl) ⟨hl, ?_⟩
  have hz : (s.heap.push { cls := .type "tuple_iterator", data := .fields #[.ref l, .int 0 0] }).objs.size = s.heap.objs.size + 1 := Heap.size_push ..
  show _ ∧ _
  rw [hz]
  have he : IsEnum ((s.heap.push { cls := .type "tuple_iterator", data := .fields #[.ref l, .int 0 0] }).push
      { cls := .type "enumerate", data := .fields #[.none, .bool false, .ref s.heap.objs.size, rawInt 0, .none, .none] }) (s.heap.objs.size + 1) s.heap.objs.size 0 .none := by
    have := Heap.get?_push_size (s.heap.push { cls := .type "tuple_iterator", data := .fields #[.ref l, .int 0 0] })
      (o := { cls := .type "enumerate", data := .fields #[.none, .bool false, .ref s.heap.objs.size, rawInt 0, .none, .none] }) rfl
    rw [hz] at this; exact this
  refine ⟨⟨_, he, rfl⟩, h _ he ⟨_, Heap.get?_push_of_some _ (Heap.get?_push_size _ rfl), rfl, rfl⟩ (by rw [Heap.size_push, hz]) fun b o x => Heap.get?_push_of_some _ (Heap.get?_push_of_some _ x)⟩
end
/-- the tuple at a as it stands at each turn, each item in a new pair -/
def IteT (K : PySem.W.Frag) (a : Addr) : It :=
  ⟨fun i H => ∃ (xs : List V) (x : V), SqT K H a xs ∧ xs[i]? = some x, fun i H v H' => ∃ T x, v = .ref T ∧ H T = none ∧ H' = upd H T (.tup [.int (i : Nat), x]) ∧ ∀ xs, SqT K H a xs → xs[i]? = some x, fun i H => ∃ xs : List V, SqT K H a xs ∧ xs.length = i⟩
theorem turn_enumT {P : Program} {w : World} {K : PySem.W.Frag} {elts : List Expr} {kk : Nat} {tpos : Pos} (a e it : Addr) (hai : a ≠ it) (hae : a ≠ e) :
    Turn P w K (.Tuple elts kk tpos) (IteT K a) [e, it] e (fun i h => (∃ old, IsEnum h e it ((i : Nat) : Int) old) ∧ h.IsTupleIter it a i ∧ e ≠ it) where
  mem := by simp
  obj := fun i h st b hb => by
    obtain ⟨⟨old, he⟩, ⟨o, ho, hc, hd⟩, _⟩ := st
    have e' : b = e ∨ b = it := by simpa using hb
    rcases e' with z | z
    · rw [z]; exact ⟨_, he, fun v q => nomatch q⟩
    · rw [z]; exact ⟨o, ho, fun v q => by rw [hd] at q; cases q⟩
  keep := fun i h h' st k => let ⟨⟨old, he⟩, hi, hne⟩ := st; ⟨⟨old, k e (by simp) _ he⟩, hi.at fun o q => k it (by simp) o q, hne⟩
  item := by
    intro X hP hw hK hc i pins s σ H E I hf st hg
    subst hP hw hK
    obtain ⟨⟨old, he⟩, hit, hne⟩ := st
    obtain ⟨xs, x, hq, hx⟩ := hg
    obtain ⟨its, rv, p, hz⟩ := I.tuple hq
    have pT : s.heap.IsTuple a its.toArray := p
    obtain ⟨u, hu, ru⟩ := rv.get hx
    have hel : e < s.heap.objs.size := Heap.lt_size he
    have hil : it < s.heap.objs.size := by obtain ⟨_, q, _⟩ := hit; exact Heap.lt_size q
    have hin : i < its.toArray.size := by
      obtain ⟨w, _⟩ := List.getElem?_eq_some_iff.mp hu
      simpa using w
    refine wpAny_pyNext_enum_itemD (Draws.tuple (A := X.A.in1) (I.ok.hd hc) it a hai its.toArray) he ⟨hit, pT⟩ hin hne (by simp [hne, Ne.symm hae]) fun x' h' tk hP ho hst' hT hsz hk => ?_
    have hux : x' = u := by
      have h1 : its[i]? = some x' := by simpa using hP
      rw [hu] at h1
      exact (Option.some.inj h1).symm
    subst hux
    refine ⟨_, rfl, wpAny_letOwnedTupleGo_enum (s := { s with heap := h', toks := tk + 1 }) ho fun h'' he' sb => ?_⟩
    have hT2 : h''.get? s.heap.objs.size = some { cls := .type "tuple", data := .seq #[.int i tk, x'] } := (sb.2 _ (Nat.ne_of_gt hel)).trans hT
    have new : ObjOk X.prog X.w (upd H s.heap.objs.size (.tup [.int (i : Nat), x])) h'' s.heap.objs.size (.tup [.int (i : Nat), x]) :=
      ⟨by show 2 ≤ sizeLine; decide, [.int i tk, x'], .cons ⟨_, rfl⟩ (.cons ru .nil), ⟨_, hT2, rfl, _, rfl⟩⟩
    have I1 : Inv X pins σ (upd H s.heap.objs.size (.tup [.int (i : Nat), x])) { s with heap := h'', toks := tk + 1 } :=
      I.turnedNew (t' := tk + 1) (ch := [e, it]) (fun b ob hb q => (sb.2 b (fun z => hb (by simp [z]))).trans (hk b ob (fun z => hb (by simp [z])) (fun z => hb (by simp [z])) q)) hf (Nat.le_refl _) new
    refine ⟨.ref s.heap.objs.size, _, I1, rfl, ⟨_, x, rfl, I.hok.fresh (Nat.le_refl _), rfl, fun ys hy => by rw [I.tuple_inj hy hq]; exact hx⟩, ⟨⟨x', ?_⟩, hst'.1.at fun o q => (sb.2 it (Ne.symm hne)).trans q, hne⟩, fun b hb => ?_⟩
    · have e1 : ((i + 1 : Nat) : Int) = (i : Int) + 1 := by omega
      rw [e1]; exact he'
    · have hb' : b < s.heap.objs.size := by
        have e' : b = e ∨ b = it := by simpa using hb
        rcases e' with z | z
        · rw [z]; exact hel
        · rw [z]; exact hil
      rw [upd_ne (Nat.ne_of_lt hb')]
      exact (hf b hb).1
  done := by
    intro X hP hw hK hc i pins s σ H E I hf st hg
    subst hP hw hK
    obtain ⟨⟨old, he⟩, hit, hne⟩ := st
    obtain ⟨xs, hq, hx⟩ := hg
    obtain ⟨its, rv, p, hz⟩ := I.tuple hq
    have pT : s.heap.IsTuple a its.toArray := p
    obtain ⟨f0, f1, f2, f3, f4, f5⟩ := hf it (by simp)
    have hl := rv.length
    have en : i = its.toArray.size := by simp; omega
    refine wpAny_pyNext_enum_endD (Draws.tuple (A := X.A.in1) (I.ok.hd hc) it a hai its.toArray) he (by rw [← en]; exact ⟨hit, pT⟩) fun h' eb => ⟨rfl, I.turned (t' := s.toks) (fun b o hb q => eb b o hb q) f0 f1 f3 f4 f5⟩
  self := fun A i s Q E st h => let ⟨⟨_, he⟩, _⟩ := st; wpAny_pyIter_enum he h
def iEnumT (K : PySem.W.Frag) (ta : TA) : TI := fun σ H R => ta σ H fun vs H1 => ∃ a xs, vs = [.ref a] ∧ SqT K H1 a xs ∧ R (IteT K a) H1
theorem pi_enumT {X : Cx} {e : Expr} {ta : TA} {p pos tpos : Pos} {elts : List Expr} {kk : Nat} (hg : Gl X "enumerate") (hm : X.mg "enumerate" = none) (ha : PA X [e] ta) (hs : starEach [e] X.env = [(false, eval e X.env)] := by rfl) :
    PI X (.Tuple elts kk tpos) (.Call (.Name "enumerate" p) [e] [] pos) (iEnumT X.K ta) := by
  refine ⟨fun pins s σ H R I h => ?_⟩
  refine Call_ (ld_blt I hg hm boot_enumerate (PyProof.Rows.callWith_type1 (thn (ha.run pos pins s σ H _ I h) fun us s1 ⟨vs, H1, I1, r1, q1⟩ => ?_) hs rfl))
  obtain ⟨a, xs, ex, hq, q⟩ := q1
  subst ex
  cases r1 with
  | cons r rr =>
    cases rr
    cases r
    obtain ⟨its, rv, p', hz⟩ := I1.tuple hq
    have pT : s1.heap.IsTuple a its.toArray := p'
    have al : a < s1.heap.objs.size := by obtain ⟨_, q, _⟩ := id pT; exact Heap.lt_size q
    refine call_enumerate_tuple pT fun h' he hit hsz hk => wpAny_pyIter_enum he ?_
    have I2 : Inv X pins σ H1 { s1 with heap := h' } := I1.kept (t' := s1.toks) hk
    refine ⟨s1.heap.objs.size + 1, [s1.heap.objs.size + 1, s1.heap.objs.size], _, _, H1, rfl, I2, turn_enumT a (s1.heap.objs.size + 1) s1.heap.objs.size (Nat.ne_of_lt al) (Nat.ne_of_lt (Nat.lt_succ_of_lt al)), ⟨⟨.none, he⟩, hit, Nat.succ_ne_self _⟩, fun b hb => ?_, q⟩
    have e' : b = s1.heap.objs.size + 1 ∨ b = s1.heap.objs.size := by simpa using hb
    have hle : s1.heap.objs.size ≤ b := by
      rcases e' with z | z
      · rw [z]; exact Nat.le_add_right _ _
      · rw [z]; exact Nat.le_refl _
    exact I1.fpOk hle (I1.hok.fresh hle)
end Lw

set_option maxRecDepth 100000
/-! LwZ: zip of a list or a tuple with a list or a tuple. -/
namespace Lw
open PySem PySem.Spec PyProof.Rows L2
def SqB (b : Bool) (K : PySem.W.Frag) (H : Hp) (a : Addr) (xs : List V) : Prop := match b with
  | true => SqT K H a xs
  | false => SqL K H a xs
def SeqB (b : Bool) (h : Heap) (a : Addr) (items : Array Value) : Prop := match b with
  | true => h.IsTuple a items
  | false => h.IsList a items
def IterB (b : Bool) (h : Heap) (it a : Addr) (i : Nat) : Prop := match b with
  | true => h.IsTupleIter it a i
  | false => h.IsListIter it a i
def objB (b : Bool) (a : Addr) : Obj := match b with
  | true => { cls := .type "tuple_iterator", data := .fields #[.ref a, .int 0 0] }
  | false => { cls := .type "list_iterator", data := .fields #[.ref a, .int 0 0] }
theorem IterB.obj {b : Bool} {h : Heap} {it a : Addr} {i : Nat} (x : IterB b h it a i) : ∃ o, h.get? it = some o ∧ ∀ v, o.data ≠ .cell v := by
  cases b <;> exact (let ⟨o, e, _, d⟩ := x; ⟨o, e, fun v q => by rw [d] at q; cases q⟩)
theorem IterB.at {b : Bool} {h h' : Heap} {it a : Addr} {i : Nat} (x : IterB b h it a i) (e : ∀ o, h.get? it = some o → h'.get? it = some o) : IterB b h' it a i := by
  cases b
  · exact Heap.IsListIter.at x e
  · exact Heap.IsTupleIter.at x e
theorem SeqB.lt {b : Bool} {h : Heap} {a : Addr} {items : Array Value} (x : SeqB b h a items) : a < h.objs.size := by
  cases b
  · obtain ⟨o, e, _⟩ := x; exact Heap.lt_size e
  · obtain ⟨o, e, _⟩ := x; exact Heap.lt_size e
section
variable {X : Cx} {pins : List (Addr × Obj)} {σ : L2.St} {H : Hp} {s : Shared}
theorem sqB_get (I : Inv X pins σ H s) {b : Bool} {a : Addr} {xs : List V} (h : SqB b X.K H a xs) : ∃ its : List Value, Vals xs its ∧ SeqB b s.heap a its.toArray := by
  cases b
  · obtain ⟨its, rv, p, _⟩ := I.list h
    exact ⟨its, rv, p.isList⟩
  · obtain ⟨its, rv, p, _⟩ := I.tuple h
    exact ⟨its, rv, p⟩
theorem sqB_inj (I : Inv X pins σ H s) {b : Bool} {a : Addr} {xs ys : List V} (h : SqB b X.K H a xs) (h' : SqB b X.K H a ys) : xs = ys := by
  cases b
  · exact I.list_inj h h'
  · exact I.tuple_inj h h'
end
theorem draws_b {prog : Program} {w : World} {A : Around} (hh : A.handled = none) (b : Bool) (it a : Addr) (hne : a ≠ it) (items : Array Value) :
    Draws prog w A it [it, a] items.size (fun i v => items[i]? = some v) (fun i h => IterB b h it a i ∧ SeqB b h a items) := by
  cases b
  · exact Draws.list hh it a hne items
  · exact Draws.tuple hh it a hne items
theorem begins_b (b : Bool) (a : Addr) (items : Array Value) : Begins (.ref a) (objB b a) fun h => SeqB b h a items := by
  cases b
  · exact begins_list a items
  · exact begins_tuple a items
theorem iterB_new {b : Bool} {h : Heap} {it a : Addr} (e : h.get? it = some (objB b a)) : IterB b h it a 0 := by
  cases b
  · exact ⟨_, e, rfl, rfl⟩
  · exact ⟨_, e, rfl, rfl⟩
/-- the items of the two in new pairs -/
def ItG (K : PySem.W.Frag) (b1 b2 : Bool) (a b : Addr) : It :=
  ⟨fun i H => ∃ (xs ys : List V) (x y : V), SqB b1 K H a xs ∧ SqB b2 K H b ys ∧ xs[i]? = some x ∧ ys[i]? = some y,
    fun i H v H' => ∃ T x y, v = .ref T ∧ H T = none ∧ H' = upd H T (.tup [x, y]) ∧ (∀ xs, SqB b1 K H a xs → xs[i]? = some x) ∧ ∀ ys, SqB b2 K H b ys → ys[i]? = some y,
    fun i H => ∃ xs ys : List V, SqB b1 K H a xs ∧ SqB b2 K H b ys ∧ i ≤ xs.length ∧ i ≤ ys.length ∧ (xs.length = i ∨ ys.length = i)⟩
theorem turn_zipG {P : Program} {w : World} {K : PySem.W.Frag} {elts : List Expr} {kk : Nat} {tpos : Pos} {b1 b2 : Bool} {a b z TI TO i1 i2 : Addr} (D : ZipSep2 z TI TO i1 i2 [i1, a] [i2, b]) (ha : a ≠ i1) (hb : b ≠ i2) :
    Turn P w K (.Tuple elts kk tpos) (ItG K b1 b2 a b) [z, TI, TO, i1, i2] z (fun i h => IsZip h z TI TO .none ∧ IsTupOf2 h TI (.ref i1) (.ref i2) ∧ (∃ x y, IsTupOf2 h TO x y) ∧ IterB b1 h i1 a i ∧ IterB b2 h i2 b i) where
  mem := by simp
  obj := fun i h st c hc => by
    obtain ⟨hz, hTI, ⟨x, y, hTO⟩, h1, h2⟩ := st
    have e' : c = z ∨ c = TI ∨ c = TO ∨ c = i1 ∨ c = i2 := by simpa using hc
    rcases e' with q | q | q | q | q
    · rw [q]; exact ⟨_, hz, fun v q => nomatch q⟩
    · rw [q]; exact ⟨_, hTI, fun v q => nomatch q⟩
    · rw [q]; exact ⟨_, hTO, fun v q => nomatch q⟩
    · rw [q]; exact h1.obj
    · rw [q]; exact h2.obj
  keep := fun i h h' st k => by
    obtain ⟨hz, hTI, ⟨x, y, hTO⟩, h1, h2⟩ := st
    exact ⟨k z (by simp) _ hz, k TI (by simp) _ hTI, ⟨x, y, k TO (by simp) _ hTO⟩, h1.at fun o q => k i1 (by simp) o q, h2.at fun o q => k i2 (by simp) o q⟩
  item := by
    intro X hP hw hK hc i pins s σ H E I hf st hg
    subst hP hw hK
    obtain ⟨hz, hTI, ⟨x0, y0, hTO⟩, h1, h2⟩ := st
    obtain ⟨xs, ys, x, y, hqx, hqy, hx, hy⟩ := hg
    obtain ⟨its, rv, p⟩ := sqB_get I hqx
    obtain ⟨its2, rv2, p2⟩ := sqB_get I hqy
    obtain ⟨u, hu, ru⟩ := rv.get hx
    obtain ⟨u2, hu2, ru2⟩ := rv2.get hy
    have hzl : z < s.heap.objs.size := Heap.lt_size hz
    have l1 : i < its.toArray.size := by obtain ⟨w, _⟩ := List.getElem?_eq_some_iff.mp hu; simpa using w
    have l2 : i < its2.toArray.size := by obtain ⟨w, _⟩ := List.getElem?_eq_some_iff.mp hu2; simpa using w
    refine wpAny_pyNext_zipD2_item D (draws_b (A := X.A.in1) (I.ok.hd hc) b1 i1 a ha its.toArray) (draws_b (A := X.A.in1) (I.ok.hd hc) b2 i2 b hb its2.toArray) hz hTI hTO ⟨h1, p⟩ ⟨h2, p2⟩ l1 l2 fun v1 v2 h' tk e1 e2 z' TO' st1 st2 hT hsz hk => ?_
    have e1 : v1 = u := by
      have q : its[i]? = some v1 := by simpa using e1
      rw [hu] at q; exact (Option.some.inj q).symm
    have e2 : v2 = u2 := by
      have q : its2[i]? = some v2 := by simpa using e2
      rw [hu2] at q; exact (Option.some.inj q).symm
    subst e1; subst e2
    refine ⟨_, rfl, wpAny_letOwnedTupleGo_zip (s := { s with heap := h', toks := tk }) z' fun h'' z'' sb => ?_⟩
    have hT2 : h''.get? s.heap.objs.size = some { cls := .type "tuple", data := .seq #[v1, v2] } := (sb.2 _ (Nat.ne_of_gt hzl)).trans hT
    have new : ObjOk X.prog X.w (upd H s.heap.objs.size (.tup [x, y])) h'' s.heap.objs.size (.tup [x, y]) :=
      ⟨by show 2 ≤ sizeLine; decide, [v1, v2], .cons ru (.cons ru2 .nil), ⟨_, hT2, rfl, _, rfl⟩⟩
    have I1 : Inv X pins σ (upd H s.heap.objs.size (.tup [x, y])) { s with heap := h'', toks := tk } :=
      I.turnedNew (t' := tk) (ch := [z, TI, TO, i1, i2]) (fun c o hb q => (sb.2 c (fun q' => hb (by simp [q']))).trans (hk c o (fun q' => hb (by simp [q'])) (fun q' => hb (by simp [q'])) (fun q' => hb (by simp [q'])) (fun q' => hb (by simp [q'])) q)) hf (Nat.le_refl _) new
    refine ⟨.ref s.heap.objs.size, _, I1, rfl, ⟨_, x, y, rfl, I.hok.fresh (Nat.le_refl _), rfl, fun l hl => by rw [sqB_inj I hl hqx]; exact hx, fun l hl => by rw [sqB_inj I hl hqy]; exact hy⟩, ⟨z'', ?_, ⟨v1, v2, ?_⟩, ?_, ?_⟩, fun c hcm => ?_⟩
    · exact (sb.2 _ D.TIz).trans (hk _ _ D.TIz D.TITO D.TIi1 D.TIi2 hTI)
    · exact (sb.2 _ D.TOz).trans TO'
    · exact st1.1.at fun o q => (sb.2 _ (Ne.symm D.zi1)).trans q
    · exact st2.1.at fun o q => (sb.2 _ (Ne.symm D.zi2)).trans q
    · have hlt : c < s.heap.objs.size := by
        have e' : c = z ∨ c = TI ∨ c = TO ∨ c = i1 ∨ c = i2 := by simpa using hcm
        rcases e' with q | q | q | q | q
        · rw [q]; exact hzl
        · rw [q]; exact Heap.lt_size hTI
        · rw [q]; exact Heap.lt_size hTO
        · rw [q]; obtain ⟨_, e1, _⟩ := h1.obj; exact Heap.lt_size e1
        · rw [q]; obtain ⟨_, e2, _⟩ := h2.obj; exact Heap.lt_size e2
      rw [upd_ne (Nat.ne_of_lt hlt)]
      exact (hf c hcm).1
  done := by
    intro X hP hw hK hc i pins s σ H E I hf st hg
    subst hP hw hK
    obtain ⟨hz, hTI, ⟨x0, y0, hTO⟩, h1, h2⟩ := st
    obtain ⟨xs, ys, hqx, hqy, hi1, hi2, hend⟩ := hg
    obtain ⟨its, rv, p⟩ := sqB_get I hqx
    obtain ⟨its2, rv2, p2⟩ := sqB_get I hqy
    have l1 := rv.length
    have l2 := rv2.length
    refine wpAny_pyNext_zipD2_end D (draws_b (A := X.A.in1) (I.ok.hd hc) b1 i1 a ha its.toArray) (draws_b (A := X.A.in1) (I.ok.hd hc) b2 i2 b hb its2.toArray) hz hTI hTO ⟨h1, p⟩ ⟨h2, p2⟩ (by simp; omega) (by simp; omega) (by simp; omega) fun h' tk hk => ⟨rfl, I.turnedL (t' := tk) (ch := [z, TI, TO, i1, i2]) (fun c o hb q =>
      hk c o (fun q' => hb (by simp [q'])) (fun q' => hb (by simp [q'])) (fun q' => hb (by simp [q'])) (fun q' => hb (by simp [q'])) q) hf⟩
  self := fun A i s Q E st h => wpAny_pyIter_zip st.1 h
theorem sep2 (n a b : Nat) (la : a < n) (lb : b < n) : ZipSep2 (n + 4) (n + 2) (n + 3) n (n + 1) [n, a] [n + 1, b] where
  TIz := by show (n + 2 : Nat) ≠ n + 4; omega
  TOz := by show (n + 3 : Nat) ≠ n + 4; omega
  TITO := by show (n + 2 : Nat) ≠ n + 3; omega
  TIi1 := by show (n + 2 : Nat) ≠ n; omega
  mem1 := List.mem_cons_self
  zf1 := fun hh => by
    rcases List.mem_cons.mp hh with hh | hh
    · have hh : (n + 4 : Nat) = n := hh; omega
    · have hh : (n + 4 : Nat) = a := List.mem_singleton.mp hh; omega
  Tf1 := fun hh => by
    rcases List.mem_cons.mp hh with hh | hh
    · have hh : (n + 3 : Nat) = n := hh; omega
    · have hh : (n + 3 : Nat) = a := List.mem_singleton.mp hh; omega
  TIi2 := by show (n + 2 : Nat) ≠ n + 1; omega
  mem2 := List.mem_cons_self
  zf2 := fun hh => by
    rcases List.mem_cons.mp hh with hh | hh
    · have hh : (n + 4 : Nat) = n + 1 := hh; omega
    · have hh : (n + 4 : Nat) = b := List.mem_singleton.mp hh; omega
  Tf2 := fun hh => by
    rcases List.mem_cons.mp hh with hh | hh
    · have hh : (n + 3 : Nat) = n + 1 := hh; omega
    · have hh : (n + 3 : Nat) = b := List.mem_singleton.mp hh; omega
  sep1_2 := fun hh => by
    rcases List.mem_cons.mp hh with hh | hh
    · have hh : (n : Nat) = n + 1 := hh; omega
    · have hh : (n : Nat) = b := List.mem_singleton.mp hh; omega
  sep2_1 := fun hh => by
    rcases List.mem_cons.mp hh with hh | hh
    · have hh : (n + 1 : Nat) = n := hh; omega
    · have hh : (n + 1 : Nat) = a := List.mem_singleton.mp hh; omega
def iZipG (K : PySem.W.Frag) (b1 b2 : Bool) (ta : TA) : TI := fun σ H R => ta σ H fun vs H1 => ∃ a b xs ys, vs = [.ref a, .ref b] ∧ SqB b1 K H1 a xs ∧ SqB b2 K H1 b ys ∧ R (ItG K b1 b2 a b) H1
theorem pi_zipG {X : Cx} {e e2 : Expr} {ta : TA} {p pos tpos : Pos} {elts : List Expr} {kk : Nat} (b1 b2 : Bool) (hg : Gl X "zip") (hm : X.mg "zip" = none) (ha : PA X [e, e2] ta)
    (hs : starEach [e, e2] X.env = (false, eval e X.env) :: starEach [e2] X.env := by rfl) (hpl : (backTo pos (starEach [e2] X.env)).any (·.1) = false := by rfl) :
    PI X (.Tuple elts kk tpos) (.Call (.Name "zip" p) [e, e2] [] pos) (iZipG X.K b1 b2 ta) := by
  refine ⟨fun pins s σ H R I h => ?_⟩
  refine Call_ (ld_blt I hg hm PyProof.Rows.boot_zip (PyProof.Rows.callWith_type1 (thn (ha.run pos pins s σ H _ I h) fun us s1 ⟨vs, H1, I1, r1, q1⟩ => ?_) hs hpl))
  obtain ⟨a, b, xs, ys, ex, hqx, hqy, q⟩ := q1
  subst ex
  cases r1 with
  | cons r rr =>
    cases rr with
    | cons r' rr =>
      cases rr
      cases r
      cases r'
      obtain ⟨its, rv, p1⟩ := sqB_get I1 hqx
      obtain ⟨its2, rv2, p2⟩ := sqB_get I1 hqy
      have la := p1.lt
      have lb := p2.lt
      refine zip_begins2 (begins_b b1 a its.toArray) (begins_b b2 b its2.toArray) p1 p2 fun h' hz hTI hTO h1 h2 hsz hk => wpAny_pyIter_zip hz ?_
      have I2 : Inv X pins σ H1 { s1 with heap := h' } := I1.kept (t' := s1.toks) hk
      refine ⟨s1.heap.objs.size + 4, [s1.heap.objs.size + 4, s1.heap.objs.size + 2, s1.heap.objs.size + 3, s1.heap.objs.size, s1.heap.objs.size + 1], _, _, H1, rfl, I2, turn_zipG (b1 := b1) (b2 := b2) (a := a) (b := b) ?_ (Nat.ne_of_lt la) (Nat.ne_of_lt (Nat.lt_succ_of_lt lb)), ⟨hz, hTI, ⟨_, _, hTO⟩, iterB_new h1, iterB_new h2⟩, fun c hcm => ?_, q⟩
      · exact sep2 _ _ _ la lb
      · have e' : c = s1.heap.objs.size + 4 ∨ c = s1.heap.objs.size + 2 ∨ c = s1.heap.objs.size + 3 ∨ c = s1.heap.objs.size ∨ c = s1.heap.objs.size + 1 := by simpa using hcm
        have hle : s1.heap.objs.size ≤ c := by
          rcases e' with z | z | z | z | z
          · rw [z]; exact Nat.le_add_right _ _
          · rw [z]; exact Nat.le_add_right _ _
          · rw [z]; exact Nat.le_add_right _ _
          · rw [z]; exact Nat.le_refl _
          · rw [z]; exact Nat.le_add_right _ _
        exact I1.fpOk hle (I1.hok.fresh hle)
end Lw

set_option maxRecDepth 100000
/-! Lw10: enumerate, zip; comprehensions. -/
namespace Lw
open PySem L2 RZ
section
variable {g : Gx} {c : CC} {k : Nat} {W : WX} {X : Cx}
theorem walkP_dq {K : PySem.W.Frag} {F : Hp} {v : V} {x : PyData} (h : Dq K F v x) : WalkP K F F v x := by
  cases x <;> first | exact trivial | exact h.lst_eq | exact h.tup_eq
theorem walkP_fv {K : PySem.W.Frag} {F H : Hp} {v : V} {x : PyData} (s : Sub F H) (h : FV K F H v x) : WalkP K F H v x := by
  cases x with
  | list xs => exact h
  | tuple xs =>
    obtain ⟨a, vs, e1, e2, e3⟩ := Dq.tup_eq h
    exact ⟨a, vs, e1, s.sqT e2, e3⟩
  | _ => exact trivial
theorem walks_of {z : Bool} {F H : Hp} {A Ao : AS} {ro : Ro} {σ : L2.St} {hs : List Hd} {vs : List V} {xs : List PyData} {ro2 : Ro} (S : SR g.K g.cl F A ro σ H) (hv : HRs g.K g.cl F H A σ hs vs Ao) (e : (if z = true then escs hs ro else .ofOpt (looksF ro hs) ro) = .ok xs ro2) :
    ∃ F2 A2, SR g.K g.cl F2 A2 ro2 σ H ∧ Stp F H (fun a => A a ∨ Ao a) F2 H A2 ∧ Paired (WalkP g.K F2 (if z = true then F2 else H)) vs xs := by
  cases z with
  | true =>
    simp only [if_true] at e ⊢
    obtain ⟨F2, A2, S2, d, st, _⟩ := escs_ok S hv e
    refine ⟨F2, A2, S2, st, ?_⟩
    clear e hv
    induction xs generalizing vs with
    | nil => cases d; exact .nil
    | cons x xs ih =>
      cases d with
      | cons h t => exact .cons (walkP_dq h) (ih t)
  | false =>
    simp only [Bool.false_eq_true, if_false] at e ⊢
    cases q : looksF ro hs with
    | none => rw [q] at e; cases e
    | some ys =>
      rw [q] at e
      cases e
      have d := hv.looksF S q
      refine ⟨F, A, S, (Stp.refl.frame Ao).weak fun a z => .inl z, ?_⟩
      clear q hv
      induction xs generalizing vs with
      | nil => cases d; exact .nil
      | cons x xs ih =>
        cases d with
        | cons h t => exact .cons (walkP_fv S.sub h) (ih t)
theorem iter_enumT {K : PySem.W.Frag} {F B : Hp} {a : Addr} {vs : List V} {xs : List PyData} (hb : SqT K B a vs) (hd : DqAll K F vs xs) : IterFor K F B (IteT K a) (enumD xs) where
  go := fun i y H e s => by
    have hq : SqT K H a vs := s.sqT hb
    obtain ⟨x, ex, rfl⟩ := enum_get e
    obtain ⟨v, hv, hx⟩ := hd.getD ex
    refine ⟨⟨vs, v, hq, hv⟩, fun w H' y => ?_⟩
    obtain ⟨T, x', rfl, hT, rfl, y⟩ := y
    have := y vs hq
    rw [hv] at this
    cases this
    exact .inr ⟨T, _, rfl, hT, rfl, .cons (.int _) (.cons hx .nil)⟩
  stop := fun H s => ⟨vs, s.sqT hb, by rw [hd.len, enum_len]⟩
theorem walked (z : Bool) {hs : List Hd} {ro : Ro} : (∃ xs ro2, (if z = true then escs hs ro else .ofOpt (looksF ro hs) ro) = .ok xs ro2) ∨ (if z = true then escs hs ro else .ofOpt (looksF ro hs) ro : Out (List PyData)) = .stuck := by
  cases z with
  | true =>
    simp only [if_true]
    cases q : escs hs ro with
    | ok xs r => exact .inl ⟨xs, r, rfl⟩
    | exc x r => exact absurd q escs_noexc
    | stuck => exact .inr rfl
  | false =>
    simp only [Bool.false_eq_true, if_false]
    cases q : looksF ro hs with
    | none => exact .inr rfl
    | some xs => exact .inl ⟨xs, ro, rfl⟩
theorem i_enum {as : CE} (ia : Snd g as) (z : Bool) (ok : XOk g c k W X) {tg e : Expr} (h : chkI c (.enum as) tg e = true) : PI X tg e (rdI g W (qt (.enum as)) z (evI g.G z (.enum as))) := by
  cases tg <;> simp only [chkI, Bool.false_eq_true] at h
  split at h
  · simp only [Bool.and_eq_true, decide_eq_true_eq] at h
    obtain ⟨⟨h1, h2⟩, h3⟩ := h
    subst h1
    obtain ⟨g1, g2, g3, g4⟩ := ok.bltn h2
    obtain ⟨p1, p2⟩ := plain_args (env := X.env) (pos := default) h3
    refine ⟨fun pins s σ H R I ⟨F, A, ro, S, hh⟩ => ?_⟩
    simp only [evI] at hh
    cases r : evs g.G as ro with
    | stuck => rw [r] at hh; exact hh.elim
    | exc x ro1 =>
      refine (pi_enum g1 g4 (ia.L ok h3) p1).run pins s σ H R I ⟨F, A, ro, S, ?_⟩
      rw [r] at hh ⊢
      exact hh
    | ok hs ro1 =>
      rw [r] at hh
      simp only [Out.bind_ok] at hh
      rcases walked z (hs := hs) (ro := ro1) with ⟨xs, ro2, q⟩ | q
      · rw [q] at hh
        simp only [Out.bind_ok] at hh
        split at hh
        · rename_i x
          cases x with
          | list xs =>
            refine (pi_enum g1 g4 (ia.L ok h3) p1).run pins s σ H R I ⟨F, A, ro, S, ?_⟩
            rw [r]
            intro vs F1 H1 A1 Ao st S1 hv hq
            obtain ⟨F2, A2, S2, st2, wp⟩ := walks_of S1 hv q
            cases wp with
            | cons w t =>
              cases t
              obtain ⟨a', ws, rfl, e2, e3⟩ := w
              refine ⟨a', ws, rfl, .of ?_, ?_⟩
              · cases z with
                | true => exact S2.sub _ _ e2
                | false => exact e2
              · rw [ok.kk]
                exact hh _ F2 H1 A2 (st.trans st2) S2 (iter_enum e2 e3) fun z => (hq z).s
          | tuple xs =>
            refine (pi_enumT g1 g4 (ia.L ok h3) p1).run pins s σ H R I ⟨F, A, ro, S, ?_⟩
            rw [r]
            intro vs F1 H1 A1 Ao st S1 hv hq
            obtain ⟨F2, A2, S2, st2, wp⟩ := walks_of S1 hv q
            cases wp with
            | cons w t =>
              cases t
              obtain ⟨a', ws, rfl, e2, e3⟩ := w
              refine ⟨a', ws, rfl, ?_, ?_⟩
              · rw [ok.kk]
                cases z with
                | true => exact S2.sub.sqT e2
                | false => exact e2
              · rw [ok.kk]
                exact hh _ F2 H1 A2 (st.trans st2) S2 (iter_enumT e2 e3) fun z => (hq z).s
          | _ => exact hh.elim
        · exact hh.elim
      · rw [q] at hh
        exact hh.elim
  · cases h
def tupB : PyData → Bool
  | .tuple _ => true
  | _ => false
theorem SqB.mono {K : PySem.W.Frag} {b : Bool} {F H : Hp} {a : Addr} {xs : List V} (s : Sub F H) (h : SqB b K F a xs) : SqB b K H a xs := by
  cases b
  · exact s.sqL h
  · exact s.sqT h
theorem walkB {K : PySem.W.Frag} {F B : Hp} {v : V} {x : PyData} {xs : List PyData} (e : itemsD x = some xs) (h : WalkP K F B v x) : ∃ a vs, v = .ref a ∧ SqB (tupB x) K B a vs ∧ DqAll K F vs xs := by
  cases x <;> simp only [itemsD] at e <;> cases e
  · obtain ⟨a, vs, e1, e2, e3⟩ := h
    exact ⟨a, vs, e1, SqL.of e2, e3⟩
  · exact h
theorem iter_zipG {K : PySem.W.Frag} {F B : Hp} {b1 b2 : Bool} {a b : Addr} {vs ws : List V} {xs ys : List PyData} (hb : SqB b1 K B a vs) (hb2 : SqB b2 K B b ws) (hd : DqAll K F vs xs) (hd2 : DqAll K F ws ys) : IterFor K F B (ItG K b1 b2 a b) (zipD xs ys) where
  go := fun i y H e s => by
    have hq : SqB b1 K H a vs := hb.mono s
    have hq2 : SqB b2 K H b ws := hb2.mono s
    obtain ⟨x, y', ex, ey, rfl⟩ := zip_get e
    obtain ⟨v, hv, hx⟩ := hd.getD ex
    obtain ⟨w, hw, hy⟩ := hd2.getD ey
    refine ⟨⟨vs, ws, v, w, hq, hq2, hv, hw⟩, fun u H' y => ?_⟩
    obtain ⟨T, x1, x2, rfl, hT, rfl, y1, y2⟩ := y
    have e1 := y1 vs hq
    have e2 := y2 ws hq2
    rw [hv] at e1; cases e1
    rw [hw] at e2; cases e2
    exact .inr ⟨T, _, rfl, hT, rfl, .cons hx (.cons hy .nil)⟩
  stop := fun H s => ⟨vs, ws, hb.mono s, hb2.mono s, by
    unfold zipD
    rw [List.length_zipWith, hd.len, hd2.len]
    omega⟩
theorem i_zip {as : CE} (ia : Snd g as) (z : Bool) (ok : XOk g c k W X) {tg e : Expr} (h : chkI c (.zip as) tg e = true) : PI X tg e (rdI g W (qt (.zip as)) z (evI g.G z (.zip as))) := by
  cases tg <;> simp only [chkI, Bool.false_eq_true] at h
  split at h
  · simp only [Bool.and_eq_true, decide_eq_true_eq] at h
    obtain ⟨⟨h1, h2⟩, h3⟩ := h
    subst h1
    obtain ⟨g1, g2, g3, g4⟩ := ok.bltn h2
    refine ⟨fun pins s σ H R I ⟨F, A, ro, S, hh⟩ => ?_⟩
    simp only [evI] at hh
    cases r : evs g.G as ro with
    | stuck => rw [r] at hh; exact hh.elim
    | exc x ro1 =>
      refine (pi_zipG true true g1 g4 (ia.L ok h3) (plain_args (env := X.env) (pos := default) h3).1 (plain_args h3).2).run pins s σ H R I ⟨F, A, ro, S, ?_⟩
      rw [r] at hh ⊢
      exact hh
    | ok hs ro1 =>
      rw [r] at hh
      simp only [Out.bind_ok] at hh
      rcases walked z (hs := hs) (ro := ro1) with ⟨xs, ro2, q⟩ | q
      · rw [q] at hh
        simp only [Out.bind_ok] at hh
        split at hh
        · rename_i x y
          split at hh
          · rename_i dx dy ex ey
            refine (pi_zipG (tupB x) (tupB y) g1 g4 (ia.L ok h3) (plain_args (env := X.env) (pos := default) h3).1 (plain_args h3).2).run pins s σ H R I ⟨F, A, ro, S, ?_⟩
            rw [r]
            intro vs F1 H1 A1 Ao st S1 hv hq
            obtain ⟨F2, A2, S2, st2, wp⟩ := walks_of S1 hv q
            cases wp with
            | cons w t =>
              cases t with
              | cons w2 t =>
                cases t
                obtain ⟨a', ws, rfl, e2, e3⟩ := walkB ex w
                obtain ⟨b', us, rfl, e4, e5⟩ := walkB ey w2
                have sB : Sub (if z = true then F2 else H1) H1 := by
                  cases z with
                  | true => exact S2.sub
                  | false => exact .refl _
                rw [ok.kk]
                exact ⟨a', b', ws, us, rfl, e2.mono sB, e4.mono sB, hh _ F2 H1 A2 (st.trans st2) S2 (iter_zipG e2 e4 e3 e5) fun z => (hq z).s⟩
          · exact hh.elim
        · exact hh.elim
      · rw [q] at hh
        exact hh.elim
  · cases h
end
end Lw

set_option maxRecDepth 100000
/-! Lw11: targets, tests of a clause, slots of a block. -/
namespace Lw
open PySem L2 RZ
section
variable {g : Gx} {c : CC} {k : Nat} {W : WX} {X : Cx}
/-! ### targets -/
def PostG (g : Gx) (F : Hp) (A : AS) (sl : List Nat) (σ : L2.St) (H : Hp) (ro' : Ro) (Q : L2.St → Hp → Prop) : Prop :=
  ∀ σ' A', SR g.K g.cl F A' ro' σ' H → (∀ a, A' a → A a) → (∀ vs : List Nat, (∀ i ∈ sl, i ∈ vs) → wipe σ' vs = wipe σ vs) → Q σ' H
def rdG (g : Gx) (tg : CE) : TG := fun v σ H Q => ∃ F A ro x ro', SR g.K g.cl F A ro σ H ∧ Dq g.K F v x ∧ asgT tg x ro = some ro' ∧ PostG g F A (tgSlots tg) σ H ro' Q
def rdGs (g : Gx) (tg : CE) : TGs := fun vs σ H Q => ∃ F A ro xs ro', SR g.K g.cl F A ro σ H ∧ DqAll g.K F vs xs ∧ asgTs tg xs ro = some ro' ∧ PostG g F A (tgSlots tg) σ H ro' Q
theorem wipe_set {σ : L2.St} {i : Nat} {v : Option V} : ∀ {vs : List Nat}, i ∈ vs → wipe (σ.set i v) vs = wipe σ vs
  | [], h => by cases h
  | j :: vs, h => by
    unfold wipe
    by_cases e : i ∈ vs
    · rw [wipe_set e]
    · have e2 : i = j := by
        rcases List.mem_cons.mp h with z | z
        · exact z
        · exact absurd z e
      subst e2
      -- the slot i is forgotten at the end
      have key : ∀ vs : List Nat, i ∉ vs → wipe (σ.set i v) vs = (wipe σ vs).set i v := by
        intro vs
        induction vs with
        | nil => intro _; rfl
        | cons k vs ih =>
          intro hk
          have h1 : i ≠ k := fun z => hk (by simp [z])
          unfold wipe
          rw [ih fun z => hk (List.mem_cons_of_mem _ z), List.set_comm _ _ h1]
      rw [key vs e, List.set_set]
theorem SR.setD {K : PySem.W.Frag} {cl : ClW} {F H : Hp} {A : AS} {ro : Ro} {σ : L2.St} {i : Nat} {v : V} {x : PyData} (S : SR K cl F A ro σ H) (hi : i < σ.length) (h : Dq K F v x) : ∃ A', SR K cl F A' (ro.set i (some (.d x))) (σ.set i (some v)) H ∧ ∀ a, A' a → A a := by
  obtain ⟨B, h1, h2⟩ := S.rs.store (i := i) (o := .d x) (v := v) (Ao := fun _ => False) (by rw [S.rs.len]; exact hi) (.d h) (fun _ z => z.elim)
  exact ⟨B, ⟨h1, S.sub⟩, fun a z => (h2 a z).elim id False.elim⟩
theorem assign_each {env : Env} {e : Expr} {es : List Expr} (h : plainE e = true) : assignEach (e :: es) env = (false, assign e env) :: assignEach es env := by
  cases e <;> first | rfl | cases h
theorem tgs_len {env : Env} : ∀ {ts : CE} {es : List Expr}, chkTs c ts es = true → (assignEach es env).length = es.length ∧ (assignEach es env).findIdx? (·.1) = none
  | ts, [], _ => ⟨rfl, rfl⟩
  | ts, e :: es, h => by
    cases ts <;> simp only [chkTs, Bool.false_eq_true] at h
    case cons t ts =>
      simp only [Bool.and_eq_true] at h
      obtain ⟨k1, k2⟩ := tgs_len (env := env) h.2
      rw [assign_each h.1.1]
      refine ⟨by rw [List.length_cons, List.length_cons, k1], ?_⟩
      rw [List.findIdx?_cons]
      simp [k2]
theorem asgTs_len : ∀ {ts : CE} {xs : List PyData} {ro ro' : Ro} {es : List Expr}, chkTs c ts es = true → asgTs ts xs ro = some ro' → xs.length = es.length
  | ts, xs, ro, ro', [], h, e => by
    cases ts <;> simp only [chkTs, Bool.false_eq_true] at h
    cases xs with
    | nil => rfl
    | cons x xs => rw [asgTs] at e; cases e; all_goals (intros; contradiction)
  | ts, xs, ro, ro', y :: es, h, e => by
    cases ts <;> simp only [chkTs, Bool.false_eq_true] at h
    case cons t ts =>
      cases xs with
      | nil => rw [asgTs] at e; cases e; all_goals (intros; contradiction)
      | cons x xs =>
        simp only [Bool.and_eq_true] at h
        rw [asgTs] at e
        split at e
        · rw [List.length_cons, List.length_cons, asgTs_len h.2 e]
        · cases e
mutual
theorem g_all (ok : XOk g c k W X) (hc : c.calm = true) : ∀ (tg : CE) {e : Expr}, chkT c tg e = true → PG X e (rdG g tg)
  | .var i, e, h => by
    simp only [chkT] at h
    split at h
    · simp only [Bool.and_eq_true, decide_eq_true_eq] at h
      obtain ⟨h1, h2⟩ := h
      obtain ⟨l1, l2⟩ := ok.loc h2
      refine ⟨fun pins s σ H v u Q I r ⟨F, A, ro, x, ro', S, hx, ha, hh⟩ => ?_⟩
      refine (pg_name (i := i) (by rw [ok.hN]; exact ok.nd) (by rw [ok.hN]; exact h1) l1 l2).run pins s σ H v u Q I r ?_
      rw [asgT] at ha
      cases ha
      have hi : i < σ.length := by
        rw [I.len, ok.hN]
        exact (List.getElem?_eq_some_iff.mp h1).1
      obtain ⟨A', S', sb⟩ := S.setD hi hx
      exact hh _ A' S' sb fun vs hv => wipe_set (hv i (by simp [tgSlots]))
    · cases h
  | .tup ts, e, h => by
    simp only [chkT] at h
    split at h
    · rename_i es _ _
      obtain ⟨l1, l2⟩ := tgs_len (env := X.env) h
      refine ⟨fun pins s σ H v u Q I r ⟨F, A, ro, x, ro', S, hx, ha, hh⟩ => ?_⟩
      refine (pg_tup (n := es.length) (by rw [ok.calm]; exact hc) (gs_all ok hc ts h) l1 l2).run pins s σ H v u Q I r ?_
      cases x <;> first | (rw [asgT] at ha; cases ha; done) | skip
      all_goals try (rw [asgT] at ha)
      all_goals first
        | (obtain ⟨a, vs, e1, e2, e3⟩ := Dq.tup_eq hx
           refine ⟨a, vs, e1, by rw [ok.kk]; exact S.sub.sqT e2, by rw [e3.len]; exact asgTs_len h ha, F, A, ro, _, ro', S, e3, ha, ?_⟩
           exact hh)
        | (exfalso; cases ha)
        | skip
    · cases h
  | .int _, e, h => by simp [chkT] at h
  | .bl _, e, h => by simp [chkT] at h
  | .non, e, h => by simp [chkT] at h
  | .str _, e, h => by simp [chkT] at h
  | .glob _, e, h => by simp [chkT] at h
  | .bin _ _ _, e, h => by simp [chkT] at h
  | .neg _, e, h => by simp [chkT] at h
  | .not _, e, h => by simp [chkT] at h
  | .and _ _, e, h => by simp [chkT] at h
  | .or _ _, e, h => by simp [chkT] at h
  | .one _, e, h => by simp [chkT] at h
  | .cmp _ _ _, e, h => by simp [chkT] at h
  | .chain _ _ _ _ _, e, h => by simp [chkT] at h
  | .ifx _ _ _, e, h => by simp [chkT] at h
  | .lst _, e, h => by simp [chkT] at h
  | .idx _ _, e, h => by simp [chkT] at h
  | .slc _ _ _, e, h => by simp [chkT] at h
  | .call _ _, e, h => by simp [chkT] at h
  | .prim _ _, e, h => by simp [chkT] at h
  | .isi _ _, e, h => by simp [chkT] at h
  | .mth _ _ _, e, h => by simp [chkT] at h
  | .comp _ _ _ _ _ _, e, h => by simp [chkT] at h
  | .seq _, e, h => by simp [chkT] at h
  | .rng _, e, h => by simp [chkT] at h
  | .enum _, e, h => by simp [chkT] at h
  | .zip _, e, h => by simp [chkT] at h
  | .share _ _, e, h => by simp [chkT] at h
  | .rgl _ _ _, e, h => by simp [chkT] at h
  | .rev _, e, h => by simp [chkT] at h
  | .nil, e, h => by simp [chkT] at h
  | .cons _ _, e, h => by simp [chkT] at h
theorem gs_all (ok : XOk g c k W X) (hc : c.calm = true) : ∀ (tg : CE) {es : List Expr}, chkTs c tg es = true → PGs X es (rdGs g tg)
  | .nil, es, h => by
    simp only [chkTs] at h
    split at h
    · refine ⟨fun pins s σ H vs us Q I r ⟨F, A, ro, xs, ro', S, hx, ha, hh⟩ => ?_⟩
      refine pgs_nil.run pins s σ H vs us Q I r ?_
      cases xs with
      | nil =>
        rw [asgTs] at ha
        cases ha
        cases hx
        exact ⟨rfl, hh σ A S (fun a z => z) fun vs _ => rfl⟩
      | cons x xs => rw [asgTs] at ha; cases ha; all_goals (intros; contradiction)
    · cases h
  | .cons t ts, es, h => by
    simp only [chkTs] at h
    split at h
    · simp only [Bool.and_eq_true] at h
      obtain ⟨⟨h1, h2⟩, h3⟩ := h
      refine ⟨fun pins s σ H vs us Q I r ⟨F, A, ro, xs, ro', S, hx, ha, hh⟩ => ?_⟩
      refine (pgs_cons (g_all ok hc t h2) (gs_all ok hc ts h3) (by rw [assign_each h1]; rfl)).run pins s σ H vs us Q I r ?_
      cases xs with
      | nil => rw [asgTs] at ha; cases ha; all_goals (intros; contradiction)
      | cons x xs =>
        rw [asgTs] at ha
        cases hx with
        | cons hx1 hx2 =>
          split at ha
          · rename_i ro1 e1
            refine ⟨_, _, rfl, F, A, ro, x, ro1, S, hx1, e1, fun σ1 A1 S1 sb1 w1 => ⟨F, A1, ro1, xs, ro', S1, hx2, ha, fun σ2 A2 S2 sb2 w2 => hh σ2 A2 S2 (fun a z => sb1 a (sb2 a z)) fun vs hv => ?_⟩⟩
            simp only [tgSlots] at hv
            rw [w2 vs fun i hi => hv i (List.mem_append_right _ hi), w1 vs fun i hi => hv i (List.mem_append_left _ hi)]
          · cases ha
    · cases h
  | .var _, es, h => by simp [chkTs] at h
  | .tup _, es, h => by simp [chkTs] at h
  | .int _, e, h => by simp [chkTs] at h
  | .bl _, e, h => by simp [chkTs] at h
  | .non, e, h => by simp [chkTs] at h
  | .str _, e, h => by simp [chkTs] at h
  | .glob _, e, h => by simp [chkTs] at h
  | .bin _ _ _, e, h => by simp [chkTs] at h
  | .neg _, e, h => by simp [chkTs] at h
  | .not _, e, h => by simp [chkTs] at h
  | .and _ _, e, h => by simp [chkTs] at h
  | .or _ _, e, h => by simp [chkTs] at h
  | .one _, e, h => by simp [chkTs] at h
  | .cmp _ _ _, e, h => by simp [chkTs] at h
  | .chain _ _ _ _ _, e, h => by simp [chkTs] at h
  | .ifx _ _ _, e, h => by simp [chkTs] at h
  | .lst _, e, h => by simp [chkTs] at h
  | .idx _ _, e, h => by simp [chkTs] at h
  | .slc _ _ _, e, h => by simp [chkTs] at h
  | .call _ _, e, h => by simp [chkTs] at h
  | .prim _ _, e, h => by simp [chkTs] at h
  | .isi _ _, e, h => by simp [chkTs] at h
  | .mth _ _ _, e, h => by simp [chkTs] at h
  | .comp _ _ _ _ _ _, e, h => by simp [chkTs] at h
  | .seq _, e, h => by simp [chkTs] at h
  | .rng _, e, h => by simp [chkTs] at h
  | .enum _, e, h => by simp [chkTs] at h
  | .zip _, e, h => by simp [chkTs] at h
  | .share _ _, e, h => by simp [chkTs] at h
  | .rgl _ _ _, e, h => by simp [chkTs] at h
  | .rev _, e, h => by simp [chkTs] at h
end
end
end Lw

set_option maxRecDepth 100000
/-! LwX: list comprehensions that an exception may leave. -/
namespace Lw
open PySem L2 RZ PySem.HandSPX
section
variable {M : Model} {A : Around} {E : Value → Shared → Prop} {s : Shared} {Z : Obj → Prop} {base : Heap} {env : Env} {outer l : List Env} {L L' e : Addr}
/-- noted elsewhere, now by this frame -/
theorem looks_heldZ {fl : Value} {Q : Unit → Shared → Prop} (hZ : Steady Z) (hfr : A.frames = some (env :: outer)) (hf : env.frame = some L) (hne : (fl == rawInt L) = false) (hkb : base.StaysIn s.heap) (hen : base.get? e = none) (hl : s.heap.FunFrames base (env :: outer)) (ht : TracedZ s.heap base e Z fl)
    (hQ : ∀ h', HeldZ base (env :: outer) e Z L h' → s.heap.UpToSlots h' → Q () { s with heap := h' }) : wpAny M A (noteFrame (.ref e) env) Q E s := by
  obtain ⟨oe, vs, T, oT, ts, he, hz, hd, h1, hnT, hTe, hT, hdT, h3⟩ := ht
  unfold noteFrame
  simp only [hf]
  refine wpAny_bind (wpAny_field he hd h1 ?_)
  rw [if_pos (show (Value.ref T != Value.none) = true from by simp)]
  refine wpAny_bind (wpAny_field hT hdT h3 ?_)
  rw [if_neg (show ¬ ((fl == rawInt L) = true) from by rw [hne]; decide)]
  refine wpAny_bind (wpAny_setField hT hdT (Array.getElem?_eq_some_iff.mp h3).1 ?_)
  have other : ∀ b, b ≠ T → (s.heap.update T (Obj.mapFields (·.setIfInBounds 3 Value.none))).get? b = s.heap.get? b := fun b hb => Heap.get?_update_other _ _ (Ne.symm hb)
  have noRecord : ∀ b o, s.heap.get? b = some o → (∀ vs, o.data ≠ .fields vs) → b ≠ T := fun b o hb hnf q => by
    rw [q, hT] at hb; injection hb with hb; subst hb; exact hnf ts hdT
  refine wpAny_entryZ hZ hfr (hl.of_keeps fun b o hb hnf => ⟨o, (other b (noRecord b o hb hnf)).trans hb, rfl⟩) hf ((other e (Ne.symm hTe)).trans he)
    (fun b o hbo => (other b fun q => by rw [q, hnT] at hbo; cases hbo).trans (hkb b o hbo)) hen hd (Array.getElem?_eq_some_iff.mp h1).1 hz fun h' hN => ?_
  obtain ⟨x1, x2, x3, x4⟩ := hN
  exact hQ h' ⟨x1, hen, x2, x3⟩ fun b o hb hnf => x4 b o ((other b (noRecord b o hb hnf)).trans hb) hnf
/-- in the air, noted by this frame -/
theorem sky_noted {a : Addr} {B : Heap} {Q : Unit → Shared → Prop} (hZ : Steady Z) (hfr : A.frames = some (env :: outer)) (hf : env.frame = some L) (x : Sky B (env :: outer) a Z L' s.heap)
    (hQ : ∀ h', HeldZ B (env :: outer) a Z L h' → s.heap.UpToSlots h' → Q () { s with heap := h' }) : wpAny M A (noteFrame (.ref a) env) Q E s := by
  rcases x with ⟨hB, hn, hl, oe, vs, he, hz, hd, h1⟩ | fl | hh
  · exact look_newZ hZ hfr hl hf he hB hn hd h1 hz hQ
  · exact looks_onZ hZ hfr hf fl hQ
  · cases q : (rawInt L' == rawInt L) with
    | false => exact looks_heldZ hZ hfr hf q hh.1 hh.2.1 hh.2.2.1 hh.2.2.2 hQ
    | true =>
      have e : rawInt L' = rawInt L := eq_of_beq q
      have h4 := hh.2.2.2
      rw [e] at h4
      exact againZ hf h4 (hQ s.heap ⟨hh.1, hh.2.1, hh.2.2.1, h4⟩ (Heap.UpToSlots.refl _))
end
/-- a block with its own wish -/
abbrev _root_.L2.Cx.blkX (X : Cx) (s : Shared) (H : Hp) (scope : Scope) (cenv : Env) (fp : List Addr) (xe : Value → Shared → Prop) : Cx := { X.blk s H scope cenv fp with xe := xe }
section
variable {X : Cx} {pins : List (Addr × Obj)} {σ : L2.St} {H H' : Hp} {s : Shared} {scope : Scope} {cenv : Env} {fp : List Addr} {xe : Value → Shared → Prop}
theorem inv_blkX (I : Inv (X.blk s H scope cenv fp) pins σ H' s') : Inv (X.blkX s H scope cenv fp xe) pins σ H' s' :=
  ⟨⟨I.ok.mod, I.ok.kind, I.ok.glob, I.ok.blt, I.ok.above, I.ok.inj, I.ok.has, I.ok.cab, I.ok.hd, I.ok.frames, I.ok.stk, I.ok.exf, I.ok.bs, I.ok.bsz, I.ok.noex, I.ok.exfs, I.ok.funs, I.ok.frf⟩, I.os, I.bare, I.base, I.loc, I.cell, I.free, I.freeC, I.pin, I.hok, I.len⟩
end
theorem hide_ne {h : Heap} {C b : Addr} {o : Obj} (e : h.get? b = some o) (n : b ≠ C) : (PySem.W.hideAll h [C]).get? b = some o := PySem.W.hideAll_get [C] e (by simpa using n)
theorem of_hide {h : Heap} {C b : Addr} {o : Obj} (e : (PySem.W.hideAll h [C]).get? b = some o) : h.get? b = some o ∧ b ≠ C := ⟨PySem.W.of_hideAll [C] e, fun z => by
  have := PySem.W.hideAll_none [C] (h := h) (b := b) (by simp [z])
  rw [this] at e; cases e⟩
section
variable {X : Cx}
/-- what leaves the block is taken by those around -/
theorem blk_takes {pins : List (Addr × Obj)} {σ : L2.St} {H3 : Hp} {s3 : Shared} {scope : Scope} {ce : Env} {fp : List Addr} {W : WX} {use : Option (Value → Sem Unit)} {Qf : Value → Shared → Prop} {acc : Value} {xe : Value → Shared → Prop}
    (I3 : Inv X pins σ H3 s3) (hs : X.stack = X.env :: X.outer) (hf : X.env.frame = some X.env.locals) (tk : Takes X W) (cL : ce.locals = s3.heap.objs.size) (cF : ce.frame = X.env.frame)
    (f3 : ∀ b ∈ fp, FpOk X pins H3 b) (hxe : xe = notedBy (model X.prog X.w) X.A ce fun e s' => compEnds (model X.prog X.w) X.A X.xe use Qf acc ce (.error e) s') :
    Takes (X.blkX s3 H3 scope ce fp xe) (fun cls d _ H' => W cls d σ H') := by
  rintro u s' ⟨a, B, sI, pins', σ', H', cls, d, rfl, I', nb, up, sky, na, os, ag, w⟩
  show xe (.ref a) s'
  rw [hxe]
  have hfr : X.A.frames = some (X.env :: X.outer) := by rw [I3.ok.frames, hs]
  have nb : ∀ b o, sI.heap.get? b = some o → b ∉ frs X.stack → B.get? b = some o := nb
  have sky : Sky B X.stack a (Zc cls d) ce.locals s'.heap := sky
  rw [hs] at sky
  show wpAny (model X.prog X.w) X.A (noteFrame (.ref a) ce) _ _ s'
  rw [noteFrame_env _ cF]
  refine sky_noted Zc.steady hfr hf sky fun h' hh up' => ?_
  have hC : H' ce.locals = none := I'.free
  obtain ⟨m, hn, _⟩ := I'.loc
  have hn : sI.heap.Ns ce.locals m := hn
  have nfs : ∀ {h : Heap} {m : Str → Option Value} {b : Addr}, h.Ns ce.locals m → b = ce.locals → ∀ o, h.get? b = some o → ∀ vs, o.data ≠ .fields vs := fun {h m b} ⟨oL, es, ep, hoL, hdL, _⟩ eb o ho vs q => by
    subst eb
    rw [hoL] at ho
    cases ho
    rw [hdL] at q; cases q
  have upS : ∀ {h1 h2 : Heap}, h1.UpToSlots h2 → h1.Ns ce.locals m → h2.Ns ce.locals m := fun u n => Heap.Ns.upToSlots n u
  have hn' : h'.Ns ce.locals m := upS up' (upS up hn)
  show CompFails (model X.prog X.w) X.A X.xe ce (.ref a) { s' with heap := h' }
  refine ⟨m, hn', fun h2 m2 hn2 sb => ?_⟩
  obtain ⟨k1, k2, k3, oe, vs, T, oT, ts, he, hz, hd, h1, hnT, hTe, hT, hdT, h3⟩ := hh
  have sb : Heap.SameBut ce.locals h' h2 := sb
  have aC : a ≠ ce.locals := fun z => nfs hn' z oe he vs hd
  have tC : T ≠ ce.locals := fun z => nfs hn' z oT hT ts hdT
  have keep : ∀ b o, h'.get? b = some o → b ≠ ce.locals → h2.get? b = some o := fun b o q n => (sb.2 b n).trans q
  -- the ground without the block's names
  have st2 : (PySem.W.hideAll B [ce.locals]).StaysIn h2 := fun b o q => by
    obtain ⟨q1, q2⟩ := of_hide q
    exact keep b o (k1 b o q1) q2
  have hen2 : (PySem.W.hideAll B [ce.locals]).get? a = none := by
    cases q : (PySem.W.hideAll B [ce.locals]).get? a with
    | none => rfl
    | some o => have := (of_hide q).1; rw [k2] at this; cases this
  have hnT2 : (PySem.W.hideAll B [ce.locals]).get? T = none := by
    cases q : (PySem.W.hideAll B [ce.locals]).get? T with
    | none => rfl
    | some o => have := (of_hide q).1; rw [hnT] at this; cases this
  have ff2 : h2.FunFrames (PySem.W.hideAll B [ce.locals]) (X.env :: X.outer) := by
    refine funFrames_none (Heap.FunFrames.sameBut sb hn2 k3) fun b hb => ?_
    cases q : (PySem.W.hideAll B [ce.locals]).get? b with
    | none => rfl
    | some o => have := (of_hide q).1; rw [(k3.mem hb).1] at this; cases this
  have tr2 : TracedZ h2 (PySem.W.hideAll B [ce.locals]) a (Zc cls d) (rawInt X.env.locals) := ⟨oe, vs, T, oT, ts, keep _ _ he aC, hz, hd, h1, hnT2, hTe, keep _ _ hT tC, hdT, h3⟩
  unfold passOn
  refine wpAny_bind (wpAny_field (keep _ _ he aC) hd h1 ?_)
  rw [if_neg (show ¬ ((Value.ref T == Value.none) = true) from by simp)]
  refine wpAny_bind ?_
  rw [cF, hf]
  refine setFlight_onZ (L := X.env.locals) (base := PySem.W.hideAll B [ce.locals]) (l := X.env :: X.outer) (Z := Zc cls d) ⟨st2, hen2, ff2, tr2⟩ fun h4 hh4 up4 => ?_
  refine wpAny_throw (tk _ _ ?_)
  have hne : ∀ b o, s3.heap.get? b = some o → b ≠ ce.locals := fun b o q z => by
    have := Heap.lt_size q
    rw [z, cL] at this
    exact Nat.lt_irrefl _ this
  have I6 := I'.base
  refine ⟨a, PySem.W.hideAll B [ce.locals], { sI with heap := PySem.W.hideAll sI.heap [ce.locals] }, pins, σ, H', cls, d, rfl, ?_, fun b o q hb => ?_, fun b o q hnf => ?_, .inr (.inr (by rw [hs]; exact hh4)), na, os, ag, w⟩
  · refine I3.call' (ch := fp) I'.os ⟨fun b o q n h1 h2 => hide_ne (I6.keep b o q n h1 h2) (hne b o q), fun b o q n h1 h2 => ?_, I6.free, fun b o q h2 => ?_, I6.tups, I6.frzs, I6.tbls⟩ (fun b o q => ?_) I'.bare fun b hb => ⟨(f3 b hb).2.2.2.1, (f3 b hb).2.1, (f3 b hb).2.2.2.2.1, (f3 b hb).2.2.2.2.2⟩
    · obtain ⟨sl, z⟩ := I6.slot b o q n h1 h2
      exact ⟨sl, hide_ne z (hne b o q)⟩
    · obtain ⟨o', z⟩ := I6.there b o q h2
      exact ⟨o', hide_ne z (hne b o q)⟩
    · refine (I'.hok b o q).stay (fun c u hc r => hide_ne r fun z => ?_) (fun _ r => r) fun _ _ r => r
      rw [z] at hc
      rcases hc with hc | hc
      · rw [← hc, hC] at q; cases q
      · rw [hC] at hc; cases hc
  · obtain ⟨q1, q2⟩ := of_hide q
    exact hide_ne (nb b o q1 hb) q2
  · obtain ⟨q1, q2⟩ := of_hide q
    obtain ⟨sl1, z1⟩ := up b o q1 hnf
    obtain ⟨sl2, z2⟩ := up' b _ z1 hnf
    obtain ⟨sl3, z3⟩ := up4 b _ (keep b _ z2 q2) hnf
    exact ⟨sl3, z3⟩

theorem lc_coreX {pins : List (Addr × Obj)} {s : Shared} {σ : L2.St} {H : Hp} {Q : VK} {elt tg iter : Expr} {ifs : List Expr} {scope : Scope} {own : List (Str × Nat)} {pos pos' : Pos} {wi : TI} {g : TG} {tt : TT} {te : TE} {use : Option (Value → Sem Unit)} {Qf : Value → Shared → Prop} {W : WX}
    (hs0 : X.stack = X.env :: X.outer) (hf0 : X.env.frame = some X.env.locals) (tk : Takes X W)
    (hc : X.calm = true) (hN : X.N.Nodup) (I : Inv X pins σ H s) (hi : PI X tg iter wi) (ok : BlkOk X.N X.env.scope scope own)
    (hg : ∀ (s : Shared) (H : Hp) (C : Addr) (cl : List (Str × Addr)) (fp : List Addr) xe, PG (X.blkX s H scope (compEnvC scope cl C X.env) fp xe) tg g)
    (ht : ∀ (s : Shared) (H : Hp) (C : Addr) (cl : List (Str × Addr)) (fp : List Addr) xe, Takes (X.blkX s H scope (compEnvC scope cl C X.env) fp xe) (fun cls d _ H' => W cls d σ H') → PTs (X.blkX s H scope (compEnvC scope cl C X.env) fp xe) ifs tt)
    (he : ∀ (s : Shared) (H : Hp) (C : Addr) (cl : List (Str × Addr)) (fp : List Addr) xe, Takes (X.blkX s H scope (compEnvC scope cl C X.env) fp xe) (fun cls d _ H' => W cls d σ H') → PE (X.blkX s H scope (compEnvC scope cl C X.env) fp xe) elt te) (hs : ∀ x, foldedSetIterable iter X.env x = pure x)
    (h : tLc wi g tt te (own.map (·.2)) σ H Q)
    (hRR : ∀ D (ce : Env) s' m H', Inv X pins σ H' s' → Q (.ref D) H' → s'.heap.Ns ce.locals m → FpOk X pins H' ce.locals → compEnds (model X.prog X.w) X.A X.xe use Qf (.ref D) ce (.ok .next) s') :
    wpAny (model X.prog X.w) X.A (comprehension (.ListComp elt [⟨tg, iter, ifs, 0⟩] scope pos) scope X.env pos' (newList []) false (eval iter X.env) use) Qf X.xe s := by
  have hfree : ∀ y ∈ scope.names, y.2 = .free → ∃ c, X.env.cells.lookup y.1 = some c := fun y hy e => by
    rcases ok.free y hy e with k | k
    · exact I.ok.has _ (.inl k)
    · exact I.ok.has _ (.inr k)
  refine comprehension_at (use := use) rfl hs (closure_ok hfree) ok.kind (fun y hy e => by rw [ok.uniq y hy, e])
    (thn (hi.run pins s σ H _ I h) fun xv s1 hx => thn hx fun itv s2 h2 => ?_)
  obtain ⟨it, fp, tn, J, H2, e, I2, T, st2, f2, q⟩ := h2
  subst e
  refine wpAny_newObj_type (newEnv_comp ?_) (by show 0 ≤ sizeLine; decide)
  generalize hD : s2.heap.objs.size = D
  have hDn : H2 D = none := I2.hok.fresh (Nat.le_of_eq hD)
  obtain ⟨W0, ⟨m0, w0⟩, turn⟩ := q D hDn
  generalize hs3 : ({ s2 with heap := s2.heap.push { cls := .type "list", data := .seq ([] : List Value).toArray } } : Shared) = s3
  have I3 : Inv X pins σ (upd H2 D (.lst [])) s3 := by
    rw [← hs3]
    refine I2.laid (t' := s2.toks) (fun b o e => Heap.get?_push_of_some _ e) (Nat.le_of_eq hD) ⟨Nat.zero_le _, [], 0, .nil, ?_⟩
    rw [← hD]
    exact Heap.get?_push_size _ rfl
  have h3 : s3.heap = s2.heap.push { cls := .type "list", data := .seq ([] : List Value).toArray } := by rw [← hs3]
  have sz : ∀ b ∈ fp, b < s2.heap.objs.size := fun b hb => by
    obtain ⟨o, e, _⟩ := T.obj _ _ st2 b hb
    exact Heap.lt_size e
  have f3 : ∀ b ∈ fp, FpOk X pins (upd H2 D (.lst [])) b ∧ b < s3.heap.objs.size := fun b hb => by
    have hlt := sz b hb
    refine ⟨⟨?_, (f2 b hb).2⟩, by rw [h3, Heap.size_push]; exact Nat.lt_succ_of_lt hlt⟩
    rw [upd_ne (by rw [← hD]; exact Nat.ne_of_lt hlt)]
    exact (f2 b hb).1
  have st3 : tn 0 s3.heap := T.keep _ _ _ st2 fun b _ o e => by rw [h3]; exact Heap.get?_push_of_some _ e
  have I4 := block_start I3 ok hN f3
  have pg := hg s3 (upd H2 D (.lst [])) s3.heap.objs.size (cellsFrom (s3.heap.objs.size + 1) scope.names (cloFrom X.env.cells scope.names [])) fp
  have pt := ht s3 (upd H2 D (.lst [])) s3.heap.objs.size (cellsFrom (s3.heap.objs.size + 1) scope.names (cloFrom X.env.cells scope.names [])) fp
  have pe := he s3 (upd H2 D (.lst [])) s3.heap.objs.size (cellsFrom (s3.heap.objs.size + 1) scope.names (cloFrom X.env.cells scope.names [])) fp
  show codeAny _ _ (.compStart (.ListComp elt [⟨tg, iter, ifs, 0⟩] scope pos) 0 (.ref it) (.ref D) (compEnvC scope (cellsFrom (s3.heap.objs.size + 1) scope.names (cloFrom X.env.cells scope.names [])) s3.heap.objs.size X.env)) (compEnds (model X.prog X.w) X.A X.xe use Qf (.ref D) (compEnvC scope (cellsFrom (s3.heap.objs.size + 1) scope.names (cloFrom X.env.cells scope.names [])) s3.heap.objs.size X.env)) { s3 with heap := pushCells (s3.heap.push { cls := .type "dict", data := .dict #[] }) scope.names }
  have nfp : ∀ b ∈ fp, (upd H2 D (.lst [])) b = none := fun b hb => (f3 b hb).1.1
  have cF : (compEnvC scope (cellsFrom (s3.heap.objs.size + 1) scope.names (cloFrom X.env.cells scope.names [])) s3.heap.objs.size X.env).frame = X.env.frame := rfl
  generalize hce : compEnvC scope (cellsFrom (s3.heap.objs.size + 1) scope.names (cloFrom X.env.cells scope.names [])) s3.heap.objs.size X.env = ce at I4 pg pt pe cF ⊢
  have cL : ce.locals = s3.heap.objs.size := by subst hce; rfl
  generalize hH3 : upd H2 D (.lst []) = H3 at I3 I4 pg pt pe w0 nfp f3
  generalize hs4 : ({ s3 with heap := pushCells (s3.heap.push { cls := .type "dict", data := .dict #[] }) scope.names } : Shared) = s4 at I4 ⊢
  have st4 : tn 0 s4.heap := T.keep _ _ _ st3 fun b _ o e => by rw [← hs4]; exact pushCells_keeps _ _ _ _ (Heap.get?_push_of_some _ e)
  generalize hxe : (notedBy (model X.prog X.w) X.A ce fun e s' => compEnds (model X.prog X.w) X.A X.xe use Qf (.ref D) ce (.error e) s') = xe
  have tkB : Takes (X.blkX s3 H3 scope ce fp xe) (fun cls d _ H' => W cls d σ H') := blk_takes I3 hs0 hf0 tk cL cF (fun b hb => (f3 b hb).1) hxe.symm
  have I4 : Inv (X.blkX s3 H3 scope ce fp xe) [] (L2.wipe σ (own.map (·.2))) H3 s4 := inv_blkX I4
  have pg := pg xe
  have pt := pt xe tkB
  have pe := pe xe tkB
  have stat : ∀ {σ' : L2.St} {H' : Hp} {s' : Shared}, Inv (X.blkX s3 H3 scope ce fp xe) [] σ' H' s' → (∀ b ∈ fp, H' b = none) → ∀ b ∈ fp, FpOk (X.blkX s3 H3 scope ce fp xe) [] H' b := fun {σ' H' s'} I' hn b hb =>
    ⟨hn b hb, (I'.ok.exf b hb).1, I'.ok.exfs b hb, .inl hb, fun x c e => (I'.ok.exf b hb).2 x c e, fun p hp => absurd (show p ∈ ([] : List (Addr × Obj)) ++ [] from hp) (by simp)⟩
  have loop : codeAny (model X.prog X.w) X.A (.compLoop (.ListComp elt [⟨tg, iter, ifs, 0⟩] scope pos) 0 (.ref it) (.ref D) ce) (compEnds (model X.prog X.w) X.A X.xe use Qf (.ref D) ce) s4 := by
    refine compLoop_any (fun n s' => ∃ i H', Inv (X.blkX s3 H3 scope ce fp xe) [] (L2.wipe σ (own.map (·.2))) H' s' ∧ tn i s'.heap ∧ (∀ b ∈ fp, H' b = none) ∧ W0 i n H') ?_ m0 ⟨0, H3, I4, st4, nfp, w0⟩
    rw [hxe]
    rintro n s5 ⟨i, H5, I5, st5, n5, w5⟩
    rcases turn i n H5 w5 with ⟨stop, qq⟩ | ⟨go, Nx, hNx, step⟩
    · have td := T.done (X.blkX s3 H3 scope ce fp xe) rfl rfl rfl hc i [] s5 _ H5 (fun _ _ => False) I5 (stat I5 n5) st5 stop
      refine thnF td fun r s6 ⟨hr, I6⟩ => ?_
      subst hr
      have I7 : Inv X pins σ H5 s6 := I3.call' (ch := fp) I6.os I6.base I6.hok I6.bare fun b hb => ⟨(f3 b hb).1.2.2.2.1, (f3 b hb).1.2.1, (f3 b hb).1.2.2.2.2.1, (f3 b hb).1.2.2.2.2.2⟩
      have nC : H5 ce.locals = none := I6.free
      obtain ⟨m, hn, _⟩ := I6.loc
      have hn : s6.heap.Ns ce.locals m := hn
      exact hRR D ce s6 m H5 I7 qq hn (I3.fpOk (Nat.le_of_eq cL.symm) nC)
    · have ti := T.item (X.blkX s3 H3 scope ce fp xe) rfl rfl rfl hc i [] s5 _ H5 (fun _ _ => False) I5 (stat I5 n5) st5 go
      refine thnF ti fun r s6 ⟨u, hr, h6⟩ => ?_
      subst hr
      refine thnF h6 fun _ s7 ⟨x, H7, I7, r7, y7, st7, n7⟩ => ?_
      have I7' := I7.pinned (stat I7 n7) (T.obj _ _ st7)
      refine thn (pg.run _ s7 _ H7 x u _ I7' r7 (step x H7 y7)) fun _ s8 ⟨σ8, H8, I8, hw8, q8⟩ => ?_
      refine thn (pt.run _ s8 σ8 H8 _ I8 q8) fun b s9 ⟨H9, I9, q9⟩ => ?_
      have fin : ∀ {s' : Shared} {H' : Hp}, Inv (X.blkX s3 H3 scope ce fp xe) ([] ++ pinsAt fp s7.heap) σ8 H' s' → Nx H' → ∃ m, m < n ∧ ∃ i H', Inv (X.blkX s3 H3 scope ce fp xe) [] (L2.wipe σ (own.map (·.2))) H' s' ∧ tn i s'.heap ∧ (∀ b ∈ fp, H' b = none) ∧ W0 i m H' := fun {s' H'} I' nx => by
        obtain ⟨m', hm, w'⟩ := hNx H' nx
        have pin' : ∀ b ∈ fp, ∀ o, s7.heap.get? b = some o → s'.heap.get? b = some o ∧ H' b = none := fun b hb o e =>
          let z := I'.pin (b, o) (List.mem_append_right _ (List.mem_append_right _ (mem_pinsAt hb e)))
          ⟨z.1, z.2.1⟩
        have hl : (L2.wipe σ (own.map (·.2))).length = σ8.length := by rw [← hw8, wipe_length]
        refine ⟨m', hm, i + 1, H', (I'.unpinned (pins := [])).weak hl (fun j v e => ?_), T.keep _ _ _ st7 fun b hb o e => (pin' b hb o e).1, fun b hb => ?_, w'⟩
        · rw [← hw8] at e
          exact (wipe_some e).1
        · obtain ⟨o, e, _⟩ := T.obj _ _ st7 b hb
          exact (pin' b hb o e).2
      cases b with
      | false =>
        simp only [Bool.false_eq_true, if_false] at q9 ⊢
        exact fin I9 q9
      | true =>
        simp only [if_true] at q9 ⊢
        refine thn (pe.run _ s9 σ8 H9 _ I9 q9) fun z s10 ⟨yv, H10, I10, r10, acc, hD10, hz10, nx⟩ => ?_
        exact app_ok (X := X.blkX s3 H3 scope ce fp xe) I10 hD10 hz10 r10 fun s11 I11 => fin I11 nx
  refine codeAny_compStart_list loop (T.self X.A 0 _ _ _ st4 loop)
/-- as a value -/
theorem pe_lcX {elt tg iter : Expr} {ifs : List Expr} {scope : Scope} {own : List (Str × Nat)} {pos : Pos} {wi : TI} {g : TG} {tt : L2.St → TT} {te : L2.St → TE} {W : WX} (hs0 : X.stack = X.env :: X.outer) (hf0 : X.env.frame = some X.env.locals) (tk : Takes X W)
    (hc : X.calm = true) (hN : X.N.Nodup) (hi : PI X tg iter wi) (ok : BlkOk X.N X.env.scope scope own)
    (hg : ∀ (s : Shared) (H : Hp) (C : Addr) (cl : List (Str × Addr)) (fp : List Addr) xe, PG (X.blkX s H scope (compEnvC scope cl C X.env) fp xe) tg g)
    (ht : ∀ (σ : L2.St) (s : Shared) (H : Hp) (C : Addr) (cl : List (Str × Addr)) (fp : List Addr) xe, Takes (X.blkX s H scope (compEnvC scope cl C X.env) fp xe) (fun cls d _ H' => W cls d σ H') → PTs (X.blkX s H scope (compEnvC scope cl C X.env) fp xe) ifs (tt σ))
    (he : ∀ (σ : L2.St) (s : Shared) (H : Hp) (C : Addr) (cl : List (Str × Addr)) (fp : List Addr) xe, Takes (X.blkX s H scope (compEnvC scope cl C X.env) fp xe) (fun cls d _ H' => W cls d σ H') → PE (X.blkX s H scope (compEnvC scope cl C X.env) fp xe) elt (te σ)) (hs : ∀ x, foldedSetIterable iter X.env x = pure x := by intro _; rfl) :
    PE X (.ListComp elt [⟨tg, iter, ifs, 0⟩] scope pos) (fun σ H Q => tLc wi g (tt σ) (te σ) (own.map (·.2)) σ H Q) := by
  refine ⟨fun pins s σ H Q I h => ?_⟩
  rw [eval_ListComp]
  refine lc_coreX hs0 hf0 tk hc hN I hi ok hg (ht σ) (he σ) hs h fun D ce s' m H' I' q hn f => ⟨m, hn, fun h'' sb => ?_⟩
  obtain ⟨f0, f1, f2, f3, f4, f5⟩ := f
  exact ⟨.ref D, H', I'.turned (t' := s'.toks) (fun b o hb e => (sb.2 b hb).trans e) f0 f1 f3 f4 f5, rfl, q⟩
/-- name = [..] on one line, the name a local -/
theorem ps_setLcX {i : Nat} {y : Str} {py : Pos} {elt tg iter : Expr} {ifs : List Expr} {scope : Scope} {own : List (Str × Nat)} {pos spos : Pos} {wi : TI} {g : TG} {tt : L2.St → TT} {te : L2.St → TE} {W : WX} (hs0 : X.stack = X.env :: X.outer) (hf0 : X.env.frame = some X.env.locals) (tk : Takes X W)
    (hc : X.calm = true) (hN : X.N.Nodup) (hy : X.N[i]? = some y) (hyl : X.env.scope.names.lookup y = some .local)
    (hsw : swapsWith (.ListComp elt [⟨tg, iter, ifs, 0⟩] scope pos) (some (.Name y py)) spos.line X.env = pure true) (hi : PI X tg iter wi) (ok : BlkOk X.N X.env.scope scope own)
    (hg : ∀ (s : Shared) (H : Hp) (C : Addr) (cl : List (Str × Addr)) (fp : List Addr) xe, PG (X.blkX s H scope (compEnvC scope cl C X.env) fp xe) tg g)
    (ht : ∀ (σ : L2.St) (s : Shared) (H : Hp) (C : Addr) (cl : List (Str × Addr)) (fp : List Addr) xe, Takes (X.blkX s H scope (compEnvC scope cl C X.env) fp xe) (fun cls d _ H' => W cls d σ H') → PTs (X.blkX s H scope (compEnvC scope cl C X.env) fp xe) ifs (tt σ))
    (he : ∀ (σ : L2.St) (s : Shared) (H : Hp) (C : Addr) (cl : List (Str × Addr)) (fp : List Addr) xe, Takes (X.blkX s H scope (compEnvC scope cl C X.env) fp xe) (fun cls d _ H' => W cls d σ H') → PE (X.blkX s H scope (compEnvC scope cl C X.env) fp xe) elt (te σ)) (hs : ∀ x, foldedSetIterable iter X.env x = pure x := by intro _; rfl) :
    PS X (.Assign [.Name y py] (.ListComp elt [⟨tg, iter, ifs, 0⟩] scope pos) spos) (tAsg (fun σ H Q => tLc wi g (tt σ) (te σ) (own.map (·.2)) σ H Q) (gName i)) := by
  refine ⟨fun pins s σ H D I h => ?_⟩
  rw [exec_Assign_Name_used _ _ _ _ hsw]
  refine wpAny_bind (wpAny_standAt (wpAny_bind ?_))
  show wpAny _ X.A (do let _ ← comprehension (.ListComp elt [⟨tg, iter, ifs, 0⟩] scope pos) scope X.env (firstIterPos [⟨tg, iter, ifs, 0⟩] pos) (newList []) false (eval iter X.env) (some (assign (.Name y py) X.env))) _ _ s
  have h : tLc wi g (tt σ) (te σ) (own.map (·.2)) σ H (fun x H1 => gName i x σ H1 D.nx) := h
  refine wpAny_bind (thn (lc_coreX (Qf := fun _ s' => SP X pins D .next s') hs0 hf0 tk hc hN I hi ok hg (ht σ) (he σ) hs h fun L ce s' m H' I' q hn f => ?_) fun _ s' hq => wpAny_pure (wpAny_pure hq))
  show wpAny _ _ (assign (.Name y py) X.env (.ref L)) _ _ _
  refine wpAny_assign_Name (store_ok2 (v := V.ref L) I' hN hy (.inl hyl) rfl (fun s2 I2 ⟨a, sb, ha⟩ => ?_) (.inr hyl))
  obtain ⟨f0, f1, f2, f3, f4, f5⟩ := f
  have haC : ce.locals ≠ a := by
    rcases ha with z | z
    · rw [z]; exact f1
    · exact fun e => f4 y a z e.symm
  refine ⟨m, hn.sameBut sb haC, fun h3 sb3 => ?_⟩
  exact ⟨_, H', I2.turned (t' := s2.toks) (fun b o hb e => (sb3.2 b hb).trans e) f0 f1 f3 f4 f5, q⟩
end
end Lw

set_option maxRecDepth 100000
/-! Lw12: comprehensions. -/
namespace Lw
open PySem L2 RZ
section
variable {g : Gx} {c : CC} {k : Nat} {W : WX} {X : Cx}
section
variable {K : PySem.W.Frag} {cl : ClW} {F H : Hp}
theorem RS.wipe {r : Ro} {s : L2.St} {A : AS} (h : RS K cl F H r s A) : ∀ own : List (Str × Nat), ∃ B, RS K cl F H (wipeR own r) (L2.wipe s (own.map (·.2))) B ∧ ∀ a, B a → A a
  | [] => ⟨A, h, fun _ z => z⟩
  | p :: ps => by
    obtain ⟨B, h1, h2⟩ := RS.wipe h ps
    obtain ⟨C, h3, h4⟩ := RS.drop p.2 none h1
    exact ⟨C, h3, fun a z => h2 a (h4 a z)⟩
/-- what is put back into a block's slots -/
def unwS (σ : L2.St) : List (Str × Nat) → L2.St → L2.St
  | [], s => s
  | p :: ps, s => unwS σ ps (s.set p.2 (σ[p.2]?.join))
theorem unwS_get {σ : L2.St} : ∀ {own : List (Str × Nat)} {s : L2.St} {j : Nat}, s.length = σ.length → (j ∈ own.map (·.2) ∨ s[j]? = σ[j]?) → (unwS σ own s)[j]? = σ[j]?
  | [], s, j, hl, h => by
    rcases h with h | h
    · cases h
    · exact h
  | p :: ps, s, j, hl, h => by
    rw [unwS]
    refine unwS_get (by rw [List.length_set, hl]) ?_
    by_cases e : p.2 = j
    · right
      rw [e]
      by_cases hj : j < σ.length
      · rw [List.getElem?_set_self (by rw [hl]; exact hj), List.getElem?_eq_getElem hj]
        rfl
      · rw [List.getElem?_eq_none (by rw [List.length_set, hl]; exact Nat.le_of_not_lt hj), List.getElem?_eq_none (Nat.le_of_not_lt hj)]
    · rw [List.getElem?_set_ne e]
      rcases h with h | h
      · rw [List.map_cons] at h
        rcases List.mem_cons.mp h with z | z
        · exact absurd z.symm e
        · exact .inl z
      · exact .inr h
theorem wipe_get {σ : L2.St} {j : Nat} : ∀ {vs : List Nat}, j ∉ vs → (L2.wipe σ vs)[j]? = σ[j]?
  | [], _ => rfl
  | v :: vs, h => by
    unfold L2.wipe
    rw [List.getElem?_set_ne (fun e => h (by simp [e])), wipe_get fun z => h (List.mem_cons_of_mem _ z)]
theorem unwS_wipe (σ : L2.St) (own : List (Str × Nat)) : unwS σ own (L2.wipe σ (own.map (·.2))) = σ := by
  apply List.ext_getElem?
  intro j
  refine unwS_get (wipe_length σ _) ?_
  by_cases h : j ∈ own.map (·.2)
  · exact .inl h
  · exact .inr (wipe_get h)
theorem RS.unwipe {old : Ro} {σ : L2.St} : ∀ {own : List (Str × Nat)} {r : Ro} {s : L2.St} {A : AS}, RS K cl F H r s A →
    (∀ p ∈ own, old[p.2]? = some none ∨ ∃ x v, old[p.2]? = some (some (.d x)) ∧ σ[p.2]? = some (some v) ∧ Dq K F v x) → (old.length = r.length) → ∃ B, RS K cl F H (Lw.unwipe old own r) (unwS σ own s) B ∧ ∀ a, B a → A a
  | [], r, s, A, h, _, _ => ⟨A, h, fun _ z => z⟩
  | p :: ps, r, s, A, h, q, hl => by
    rw [Lw.unwipe, unwS]
    rcases q p (by simp) with e | ⟨x, v, e1, e2, e3⟩
    · obtain ⟨B, h1, h2⟩ := RS.drop p.2 (σ[p.2]?.join) h
      rw [e]
      obtain ⟨C, h3, h4⟩ := RS.unwipe (own := ps) h1 (fun p hp => q p (List.mem_cons_of_mem _ hp)) (by rw [List.length_set, hl])
      exact ⟨C, h3, fun a z => h2 a (h4 a z)⟩
    · rw [e1, e2]
      have hi : p.2 < r.length := by
        rw [← hl]
        exact (List.getElem?_eq_some_iff.mp e1).1
      obtain ⟨B, h1, h2⟩ := RS.store (i := p.2) (o := .d x) (v := v) (Ao := fun _ => False) h hi (.d e3) (fun _ z => z.elim)
      obtain ⟨C, h3, h4⟩ := RS.unwipe (own := ps) h1 (fun p hp => q p (List.mem_cons_of_mem _ hp)) (by rw [List.length_set, hl])
      exact ⟨C, h3, fun a z => (h2 a (h4 a z)).elim id False.elim⟩
theorem quietOwn_of {old : Ro} {σ : L2.St} {A : AS} (h : RS K cl F H old σ A) : ∀ {own : List (Str × Nat)}, quietOwn old own = true → ∀ p ∈ own, old[p.2]? = some none ∨ ∃ x v, old[p.2]? = some (some (.d x)) ∧ σ[p.2]? = some (some v) ∧ Dq K F v x
  | [], _, p, hp => by cases hp
  | q :: own, e, p, hp => by
    rw [quietOwn] at e
    obtain ⟨e1, e2⟩ := and2 e
    rcases List.mem_cons.mp hp with z | z
    · rw [z]
      split at e1
      · exact .inl (by assumption)
      · rename_i x hx
        obtain ⟨v, Ai, B, k1, k2, _⟩ := h.out hx
        cases k2 with
        | d k2 => exact .inr ⟨x, v, hx, k1, k2⟩
      · cases e1
    · exact quietOwn_of h e2 p z
theorem unwipe_len (old : Ro) : ∀ (own : List (Str × Nat)) (r : Ro), (Lw.unwipe old own r).length = r.length
  | [], r => rfl
  | p :: ps, r => by rw [Lw.unwipe, unwipe_len, List.length_set]
theorem wipeR_len : ∀ (own : List (Str × Nat)) (r : Ro), (wipeR own r).length = r.length
  | [], r => rfl
  | p :: ps, r => by rw [wipeR, List.length_set, wipeR_len]
theorem ORs.snoc {o : O} {v : V} {B : AS} : ∀ {os : List O} {vs : List V} {A : AS}, ORs K cl F H os vs A → OR K cl F H o v B → (∀ a, A a → B a → False) → ORs K cl F H (os ++ [o]) (vs ++ [v]) (fun a => A a ∨ B a)
  | _, _, _, .nil, h, n => by
    refine (ORs.cons h .nil fun a _ z => z).cast fun a => ?_
    constructor
    · rintro (z | z)
      · exact .inr z
      · exact z.elim
    · rintro (z | z)
      · exact z.elim
      · exact .inl z
  | _, _, _, .cons h1 t n1, h, n => by
    refine (ORs.cons h1 (ORs.snoc t h fun a x y => n a (.inr x) y) fun a x y => y.elim (n1 a x) fun y => n a (.inl x) y).cast fun a => ?_
    constructor
    · rintro (z | z | z)
      · exact .inl (.inl z)
      · exact .inl (.inr z)
      · exact .inr z
    · rintro ((z | z) | z)
      · exact .inl z
      · exact .inr (.inl z)
      · exact .inr (.inr z)
end
theorem pts_of (ok : XOk g c k W X) {ifs : CE} (hT : ∀ a, ifs = .cons a .nil → Snd g a) {es : List Expr} (h : chks c ifs es = true) : PTs X es (rdB g W (qt ifs) (evB g.G ifs)) := by
  refine ⟨fun pins s σ H Q I ⟨F, A, ro, S, hh⟩ => ?_⟩
  cases ifs with
  | nil =>
    simp only [chks] at h
    split at h
    · simp only [evB] at hh
      exact pts_nil.run pins s σ H Q I (hh F H A .refl S fun _ => .refl _)
    · cases h
  | cons a as =>
    cases as with
    | nil =>
      cases es with
      | nil => simp [chks] at h
      | cons e es =>
        simp only [chks, Bool.and_eq_true] at h
        obtain ⟨⟨h1, h2⟩, h3⟩ := h
        cases es with
        | cons _ _ => cases h3
        | nil =>
          refine (pts_one ((hT a rfl).T ok h2)).run pins s σ H Q I ⟨F, A, ro, S, ?_⟩
          simp only [evB] at hh
          cases r : ev g.G a ro with
          | ok hd ro1 =>
            rw [r] at hh
            simp only [Out.bind_ok] at hh
            cases q : hd.bool ro1 with
            | none => rw [q] at hh; exact hh.elim
            | some b =>
              rw [q] at hh
              exact ⟨b, q, fun F' H' A' st S' hs => hh F' H' A' st S' fun z => hs (and2 z).1⟩
          | exc x ro1 => rw [r] at hh; exact hh
          | stuck => rw [r] at hh; exact hh
    | _ => simp only [evB] at hh; exact hh.elim
  | _ => simp only [evB] at hh; exact hh.elim
/-- the surroundings of a comprehension's block -/
theorem XOk.blk (ok : XOk g c k W X) (s : Shared) (H : Hp) (C : Addr) (cl : List (Str × Addr)) (fp : List Addr) (scope : Scope) :
    XOk g { c with sc := relS scope c.sc, fnB := some scope.names } k (fun _ _ _ _ => False) (X.blk s H scope (compEnvC scope cl C X.env) fp) where
  pr := ok.pr
  ww := ok.ww
  kk := ok.kk
  mm := ok.mm
  bb := ok.bb
  hN := ok.hN
  nd := ok.nd
  sc := by rw [← ok.sc]; rfl
  calm := ok.calm
  room := ok.room
  room1 := ok.room1
  un := ok.un
  fns := ok.fns
  blt := ok.blt
  gls := ok.gls
  fnc := fun x h => h
  exs := ok.exs
  exm := ok.exm
  cls := ok.cls
  hds := ok.hds
  cw := ok.cw
  tk := takes_none5
  stk0 := fun z => by cases z

/-- .. that an exception may leave -/
theorem XOk.blkX (ok : XOk g c k W X) (s : Shared) (H : Hp) (C : Addr) (cl : List (Str × Addr)) (fp : List Addr) (scope : Scope) (xe : Value → Shared → Prop) {W2 : WX} (tk : Takes (X.blkX s H scope (compEnvC scope cl C X.env) fp xe) W2) :
    XOk g { c with sc := relS scope c.sc, fnB := some scope.names } k W2 (X.blkX s H scope (compEnvC scope cl C X.env) fp xe) where
  pr := ok.pr
  ww := ok.ww
  kk := ok.kk
  mm := ok.mm
  bb := ok.bb
  hN := ok.hN
  nd := ok.nd
  sc := by rw [← ok.sc]; rfl
  calm := ok.calm
  room := ok.room
  room1 := ok.room1
  un := ok.un
  fns := ok.fns
  blt := ok.blt
  gls := ok.gls
  fnc := fun x h => h
  exs := ok.exs
  exm := ok.exm
  cls := ok.cls
  hds := ok.hds
  cw := ok.cw
  tk := tk
  stk0 := fun z => by cases z

section
variable {K : PySem.W.Frag} {cl : ClW} {F H F1 H1 : Hp}
theorem wipe_sub {σ : L2.St} {vs : List Nat} : ∀ {us : List Nat}, (∀ u ∈ us, u ∈ vs) → L2.wipe (L2.wipe σ us) vs = L2.wipe σ vs
  | [], _ => rfl
  | u :: us, h => by
    show L2.wipe ((L2.wipe σ us).set u none) vs = _
    rw [wipe_set (h u (by simp)), wipe_sub fun v hv => h v (List.mem_cons_of_mem _ hv)]
theorem SR.reWipe {A : AS} {ro : Ro} {σ σ2 : L2.St} (S : SR K cl F A ro σ2 H) (own : List (Str × Nat)) (h : L2.wipe σ2 (own.map (·.2)) = L2.wipe σ (own.map (·.2))) :
    ∃ B, SR K cl F B (wipeR own (wipeR own ro)) (L2.wipe σ (own.map (·.2))) H ∧ ∀ a, B a → A a := by
  obtain ⟨B, h1, h2⟩ := S.rs.wipe own
  obtain ⟨C, h3, h4⟩ := h1.wipe own
  rw [wipe_sub (fun _ z => z), h] at h3
  exact ⟨C, ⟨h3, S.sub⟩, fun a z => h2 a (h4 a z)⟩
/-- one more at the end of a list of trees -/
theorem OR.append {A T Bo : AS} {os : List O} {o : O} {D : Addr} {y : V} {ro : Ro} {σ : L2.St} (S : SR K cl F A ro σ H) (h : OR K cl F H (.lst os) (.ref D) T) (ho : OR K cl F H o y Bo) (n1 : ∀ a, T a → A a → False) (n2 : ∀ a, T a → Bo a → False) (n3 : ∀ a, Bo a → A a → False) :
    ∃ vs, H D = some (.lst vs) ∧ vs.length = os.length ∧ OR K cl F (upd H D (.lst (vs ++ [y]))) (.lst (os ++ [o])) (.ref D) (fun a => T a ∨ Bo a) ∧ SR K cl F A ro σ (upd H D (.lst (vs ++ [y]))) ∧
      (∀ a, (T a ∨ Bo a) → A a → False) ∧ Stp F H (fun a => A a ∨ (T a ∨ Bo a)) F (upd H D (.lst (vs ++ [y]))) (fun a => A a ∨ (T a ∨ Bo a)) ∧ T D ∧ F D = none := by
  cases h with
  | @lst p vs os A0 h1 h2 h3 h4 =>
    have nB : ¬ Bo D := fun z => n2 D (.inl rfl) z
    have nA : ¬ A D := fun z => n1 D (.inl rfl) z
    have fr : ∀ (T : AS), ¬ T D → ∀ a, T a → upd H D (.lst (vs ++ [y])) a = H a := fun T nT a z => upd_ne fun e => nT (e ▸ z)
    have q1 := ORs.frame (F' := F) (H' := upd H D (.lst (vs ++ [y]))) (.refl _) h2 (fr A0 h3) fun a z => (h2.own a z).1
    have q2 := OR.frame (F' := F) (H' := upd H D (.lst (vs ++ [y]))) (.refl _) ho (fr Bo nB) fun a z => (ho.own a z).1
    refine ⟨vs, h1, h2.len.symm, ?_, ⟨S.rs.frame (.refl _) (fr A nA) fun a z => (S.rs.own a z).1, fun a o e => ?_⟩, fun a z w => z.elim (fun z => n1 a z w) fun z => n3 a z w, ⟨.refl _, fun a o e n => ?_, fun a z => .inl z, fun a z => .inl z⟩, .inl rfl, h4⟩
    · refine (OR.lst upd_same (q1.snoc q2 fun a x z => n2 a (.inr x) z) (fun z => z.elim h3 nB) h4).cast fun a => ?_
      constructor
      · rintro (z | z | z)
        · exact .inl (.inl z)
        · exact .inl (.inr z)
        · exact .inr z
      · rintro ((z | z) | z)
        · exact .inl z
        · exact .inr (.inl z)
        · exact .inr (.inr z)
    · rw [upd_ne fun e2 => by rw [e2, h4] at e; cases e]
      exact S.sub a o e
    · rw [upd_ne fun e2 => n (.inr (.inl (.inl e2)))]
      exact e
end
theorem Post.bindI {q qa z : Bool} {F : Hp} {A : AS} {σ : L2.St} {H : Hp} {Q : VK} {R : It → Hp → Prop} {r : Out (List PyData)} {f : List PyData → Ro → Out Hd} (h : Post g W q F A σ H (r.bind f) Q)
    (k : ∀ xs ro1, r = .ok xs ro1 → Post g W q F A σ H (f xs ro1) Q → ∀ J F1 H1 A1, Stp F H A F1 H1 A1 → SR g.K g.cl F1 A1 ro1 σ H1 → IterFor g.K F1 (if z then F1 else H1) J xs → (qa = true → Sub H H1) → R J H1) : PostI g W qa z F A σ H r R := by
  cases r with
  | ok hd ro1 => exact k hd ro1 rfl h
  | exc x ro1 => exact h
  | stuck => exact h
/-- one turn of a comprehension's block -/
def cStep (G : GE) (own : List (Str × Nat)) (elt tg ifs : CE) (x : PyData) (ro : Ro) : Out (Option O) := match asgT tg x (wipeR own ro) with
  | some ro => (evB G ifs ro).bind fun b ro => if b then (ev G elt ro).bind fun h ro => (h.sto ro).bind fun o ro => .ok (some o) (wipeR own ro) else .ok none (wipeR own ro)
  | none => .stuck
/-- what is made so far, ahead of the rest -/
def ahead (os : List O) : Out (List O) → Out (List O)
  | .ok os2 ro => .ok (os ++ os2) ro
  | .exc x ro => .exc x ro
  | .stuck => .stuck
def LcI (g : Gx) (own : List (Str × Nat)) (elt tg ifs : CE) (xs : List PyData) (σ : L2.St) (D : Addr) (F1 H1 : Hp) (A1 : AS) (r : Out (List O)) (i : Nat) (H : Hp) : Prop :=
  ∃ F A ro os T, SR g.K g.cl F A (wipeR own ro) (L2.wipe σ (own.map (·.2))) H ∧ OR g.K g.cl F H (.lst os) (.ref D) T ∧ (∀ a, T a → A a → False) ∧ Stp F1 H1 A1 F H (fun a => A a ∨ T a) ∧
    ((qt elt && qt ifs) = true → Sub H1 H ∧ ∀ a, T a → H1 a = none) ∧ ahead os (cLoop (cStep g.G own elt tg ifs) (xs.drop i) ro) = r ∧ os.length ≤ i
/-- an item comes into the frozen part -/
theorem item_in {K : PySem.W.Frag} {cl : ClW} {F0 F H H' : Hp} {A T : AS} {ro : Ro} {σ : L2.St} {x : PyData} {v : V} {os : List O} {D : Addr} (s0 : Sub F0 F) (S : SR K cl F A ro σ H) (h : OR K cl F H (.lst os) (.ref D) T) (r : Res K F0 H (.d x) v H') :
    ∃ F2, SR K cl F2 A ro σ H' ∧ Dq K F2 v x ∧ OR K cl F2 H' (.lst os) (.ref D) T ∧ Stp F H (fun a => A a ∨ T a) F2 H' (fun a => A a ∨ T a) ∧ Sub H H' := by
  have old : H' = H → Dq K F0 v x → ∃ F2, SR K cl F2 A ro σ H' ∧ Dq K F2 v x ∧ OR K cl F2 H' (.lst os) (.ref D) T ∧ Stp F H (fun a => A a ∨ T a) F2 H' (fun a => A a ∨ T a) ∧ Sub H H' := fun e d => by
    subst e
    exact ⟨F, S, Dq.mono s0 _ _ d, h, .refl, .refl _⟩
  cases x with
  | tuple xs =>
    rcases r with ⟨e, d⟩ | ⟨p, vs, rfl, hp, rfl, d⟩
    · exact old e d
    · obtain ⟨S1, s1⟩ := S.newF (ob := .tup vs) hp
      have fp : F p = none := S.sub.none hp
      have nT : ∀ a, T a → a ≠ p := fun a z e => by subst e; exact (h.own _ z).2 hp
      refine ⟨_, S1, .tup (SqT.of upd_same) (Dq.monoAll (s0.trans (Sub.new fp)) _ _ d), h.frame (Sub.new fp) (fun a z => upd_ne (nT a z)) (fun a z => by rw [upd_ne (nT a z)]; exact (h.own a z).1), s1.frame T, Sub.new hp⟩
  | none => exact old r.1 r.2
  | bool _ => exact old r.1 r.2
  | int _ => exact old r.1 r.2
  | str _ => exact old r.1 r.2
  | list _ => exact old r.1 r.2
  | dict _ => exact old r.1 r.2
theorem wipeR_set (i : Nat) : ∀ (own : List (Str × Nat)) (ro : Ro), wipeR own (ro.set i none) = (wipeR own ro).set i none
  | [], ro => rfl
  | p :: ps, ro => by
    rw [wipeR, wipeR, wipeR_set i ps]
    by_cases e : i = p.2
    · subst e; rfl
    · exact List.set_comm _ _ e
theorem wipeR_idem : ∀ (own : List (Str × Nat)) (ro : Ro), wipeR own (wipeR own ro) = wipeR own ro
  | [], ro => rfl
  | p :: ps, ro => by
    rw [wipeR, wipeR, wipeR_set, wipeR_idem ps]
    simp
/-- the slots put back -/
theorem SR.back {K : PySem.W.Frag} {cl : ClW} {F1 F H1 H : Hp} {A1 A : AS} {ro0 ro : Ro} {σ σ2 : L2.St} {own : List (Str × Nat)} (S1 : SR K cl F1 A1 ro0 σ H1) (hown : quietOwn ro0 own = true) (S : SR K cl F A ro σ2 H) (hw : L2.wipe σ2 (own.map (·.2)) = L2.wipe σ (own.map (·.2))) (s : Sub F1 F) :
    ∃ B, SR K cl F B (Lw.unwipe ro0 own (wipeR own ro)) σ H ∧ ∀ a, B a → A a := by
  obtain ⟨B, S6, sb6⟩ := S.reWipe own hw
  rw [wipeR_idem] at S6
  obtain ⟨B2, r1, r2⟩ := RS.unwipe (old := ro0) (σ := σ) S6.rs (fun p hp => (quietOwn_of S1.rs hown p hp).imp_right fun ⟨x, v, e1, e2, e3⟩ => ⟨x, v, e1, e2, Dq.mono s _ _ e3⟩) (by rw [S1.rs.len, S6.rs.len, wipe_length])
  rw [unwS_wipe] at r1
  exact ⟨B2, ⟨r1, S6.sub⟩, fun a z => sb6 a (r2 a z)⟩
theorem comp_red {q : Bool} {own : List (Str × Nat)} {elt tg it ifs : CE} {σ : L2.St} {H : Hp} {Q : VK} {W2 : WX} (h5 : (tgSlots tg).all (fun i => (own.map (·.2)).contains i) = true)
    (hr : ∃ F A ro, SR g.K g.cl F A ro σ H ∧ Post g W (qt (.comp q own elt tg it ifs)) F A σ H (ev g.G (.comp q own elt tg it ifs) ro) Q ∧
      ((∃ x ro', ev g.G (.comp q own elt tg it ifs) ro = .exc x ro') → (∀ x ro', evI g.G (!q) it ro ≠ .exc x ro') → ∀ cls d σ' H', W cls d σ H' → W2 cls d σ' H')) :
    tLc (rdI g W (qt it) (!q) (evI g.G (!q) it)) (rdG g tg) (rdB g W2 (qt ifs) (evB g.G ifs)) (rdE g W2 (qt elt) (ev g.G elt)) (own.map (·.2)) σ H Q := by
  obtain ⟨F, A, ro, S, hh, hW⟩ := hr
  refine ⟨F, A, ro, S, ?_⟩
  simp only [ev] at hh hW
  refine hh.bindI fun xs ro0 hev hh J F1 H1 A1 st S1 itf hq => ?_
  rw [hev] at hW
  simp only [Out.bind_ok] at hW
  split at hh
  · rename_i hcond
    obtain ⟨hoq, hlen⟩ := and2 hcond
    obtain ⟨hown, hqq⟩ := and2 hoq
    rw [if_pos hcond] at hW
    change Post g W _ F A σ H (cEnd ro0 own (cLoop (cStep g.G own elt tg ifs) xs ro0)) Q at hh
    change ((∃ x ro', cEnd ro0 own (cLoop (cStep g.G own elt tg ifs) xs ro0) = .exc x ro') → _) at hW
    generalize hl : cLoop (cStep g.G own elt tg ifs) xs ro0 = r at hh hW
    have nst : r ≠ .stuck := fun e => by rw [e] at hh; exact hh.elim
    intro D hD
    have hqt : qt (.comp q own elt tg it ifs) = true → qt it = true ∧ (qt elt && qt ifs) = true := fun z => by
      simp only [qt, Bool.and_eq_true] at z ⊢
      exact ⟨z.1.2, z.1.1, z.2⟩
    have hbase : ∀ {i : Nat} {H' : Hp}, LcI g own elt tg ifs xs σ D F1 H1 A1 r i H' → Sub (if (!q) = true then F1 else H1) H' := fun {i H'} ⟨F2, A2, ro2, os, T, S2, _, _, st2, qq, _, _⟩ => by
      cases q with
      | false =>
        simp only [Bool.not_false, if_true]
        exact st2.fr.trans S2.sub
      | true =>
        simp only [Bool.not_true, Bool.false_eq_true, if_false] at hqq ⊢
        exact (qq (by simpa using hqq)).1
    -- an exception leaves the block
    have leave : ∀ {x : Exn} {ro3 : Ro} {F2 H2 F3 H3 : Hp} {A2 A3 T : AS} {σ2 : L2.St}, r = .exc x ro3 → Stp F1 H1 A1 F3 H3 (fun a => A3 a ∨ T a) → ∀ C, g.mg x.cls = some (.ref C) → SR g.K g.cl F3 A3 ro3 σ2 H3 → L2.wipe σ2 (own.map (·.2)) = L2.wipe σ (own.map (·.2)) → W2 (.ref C) none σ2 H3 := by
      intro x ro3 F2 H2 F3 H3 A2 A3 T σ2 e st3 C hm S3 hw
      subst e
      obtain ⟨B, S4, sb⟩ := S1.back hown S3 hw st3.fr
      refine hW ⟨x, _, rfl⟩ (fun y r' z => by cases z) _ _ _ _ ?_
      exact hh C F3 H3 B hm (st.trans (st3.weak fun a z => .inl (sb a z))) S4
    refine ⟨fun i m H => m = xs.length - i ∧ i ≤ xs.length ∧ LcI g own elt tg ifs xs σ D F1 H1 A1 r i H, ⟨xs.length, rfl, Nat.zero_le _, ?_⟩, ?_⟩
    · -- the start
      obtain ⟨B, w1, w2⟩ := S1.rs.wipe own
      obtain ⟨S2, s2, fD, nD⟩ := SR.newO (ob := .lst []) ⟨w1, S1.sub⟩ hD
      refine ⟨F1, B, ro0, [], fun a => a = D ∨ False, S2, .lst upd_same .nil (fun z => z) fD, fun a z w => ?_, ⟨.refl _, fun a o e n => Sub.new hD a o e, fun a z => .inl z, fun a z => ?_⟩, fun _ => ⟨Sub.new hD, fun a z => ?_⟩, ?_, Nat.le_refl _⟩
      · rcases z with z | z
        · subst z; exact nD w
        · exact z
      · rcases z with z | z | z
        · exact .inl (w2 a z)
        · subst z; exact .inr hD
        · exact z.elim
      · rcases z with z | z
        · subst z; exact hD
        · exact z.elim
      · rw [List.drop_zero, hl]
        cases r with
        | ok os r2 => rfl
        | exc x r2 => rfl
        | stuck => rfl
    · rintro i m H2 ⟨rfl, hi, inv⟩
      have sB := hbase inv
      obtain ⟨F2, A2, ro2, os, T, S2, hL, dj, st2, qq, hc, hli⟩ := inv
      by_cases hlt : i < xs.length
      · have hx : xs[i]? = some xs[i] := List.getElem?_eq_getElem hlt
        obtain ⟨go, yl⟩ := itf.go i xs[i] H2 hx sB
        refine .inr ⟨go, fun H' => LcI g own elt tg ifs xs σ D F1 H1 A1 r (i + 1) H', fun H' hN => ⟨xs.length - (i + 1), by omega, rfl, hlt, hN⟩, fun v H' y => ?_⟩
        obtain ⟨F3, S3, hdq, hL3, st3, sub3⟩ := item_in st2.fr S2 hL (yl v H' y)
        rw [List.drop_eq_getElem_cons hlt, cLoop] at hc
        generalize hxx : xs[i] = x at hc hdq
        have hst : cStep g.G own elt tg ifs x ro2 ≠ .stuck := fun e => by
          rw [e] at hc
          exact nst hc.symm
        cases ha : asgT tg x (wipeR own ro2) with
        | none =>
          exfalso
          apply hst
          unfold cStep
          rw [ha]
        | some roa =>
          have hf : cStep g.G own elt tg ifs x ro2 = (evB g.G ifs roa).bind fun b ro => if b then (ev g.G elt ro).bind fun h ro => (h.sto ro).bind fun o ro => .ok (some o) (wipeR own ro) else .ok none (wipeR own ro) := by
            unfold cStep
            rw [ha]
          rw [hf] at hc
          refine ⟨F3, A2, wipeR own ro2, x, roa, S3, hdq, ha, fun σ' A' S4 sb4 hw => ?_⟩
          have hw' : L2.wipe σ' (own.map (·.2)) = L2.wipe σ (own.map (·.2)) := by
            rw [hw (own.map (·.2)) fun j hj => ?_, wipe_sub fun _ z => z]
            have := List.all_eq_true.mp h5 j hj
            simpa using this
          refine ⟨hw', F3, A', roa, S4, ?_⟩
          -- from the block's slots on
          have lift : ∀ {F5 H5 : Hp} {A5 : AS}, Stp F3 H' A' F5 H5 A5 → Stp F3 H' A2 F5 H5 A5 := fun {F5 H5 A5} st5 => ⟨st5.fr, fun a o e n => st5.kp a o e fun z => n (sb4 a z), fun a z => (st5.nf a z).imp_right fun z => z.imp_right (sb4 a), fun a z => (st5.na a z).imp_left (sb4 a)⟩
          cases hb : evB g.G ifs roa with
          | stuck =>
            exfalso
            rw [hb] at hc
            exact nst hc.symm
          | exc y r5 =>
            rw [hb] at hc
            intro C F5 H5 A5 hm st5 S5
            exact leave (F2 := F5) (H2 := H5) (A2 := A5) hc.symm (((st2.trans st3).trans ((lift st5).frame T))) C hm S5 hw'
          | ok b rob =>
            rw [hb] at hc
            simp only [Out.bind_ok] at hc
            intro F5 H5 A5 st5 S5 hs5
            have st5' : Stp F3 H' A2 F5 H5 A5 := lift st5
            cases b with
            | false =>
              simp only [Bool.false_eq_true, if_false, Out.bind_ok] at hc ⊢
              obtain ⟨B, S6, sb6⟩ := S5.reWipe own hw'
              obtain ⟨hL5, dj5⟩ := hL3.step dj st5'
              refine ⟨F5, B, wipeR own rob, os, T, S6, hL5, fun a z w => dj5 a z (sb6 a w), ((st2.trans st3).trans (st5'.frame T)).weak (fun a z => z.imp_left (sb6 a)), fun z => ⟨(((qq z).1.trans sub3).trans (hs5 (and2 z).2)), (qq z).2⟩, ?_, by omega⟩
              rw [← hc]
              cases cLoop (cStep g.G own elt tg ifs) (xs.drop (i + 1)) (wipeR own rob) <;> rfl
            | true =>
              simp only [if_true] at hc ⊢
              refine ⟨F5, A5, rob, S5, ?_⟩
              cases he : ev g.G elt rob with
              | stuck =>
                exfalso
                rw [he] at hc
                exact nst hc.symm
              | exc y r6 =>
                rw [he] at hc
                intro C F6 H6 A6 hm st6 S6
                exact leave (F2 := F6) (H2 := H6) (A2 := A6) hc.symm ((st2.trans st3).trans ((st5'.trans st6).frame T)) C hm S6 hw'
              | ok hd roc =>
                rw [he] at hc
                simp only [Out.bind_ok] at hc
                cases ht : hd.sto roc with
                | exc y r => exact absurd ht sto_noexc
                | stuck =>
                  exfalso
                  rw [ht] at hc
                  exact nst hc.symm
                | ok o rod =>
                  rw [ht] at hc
                  simp only [Out.bind_ok] at hc
                  intro y F6 H6 A6 Ao6 st6 S6 hv6 hq6
                  obtain ⟨F7, A7, Bo, S7, ho7, dj7, st7, su7, sb7⟩ := sto_ok S6 hv6 ht
                  have stT : Stp F3 H' A2 F7 H6 (fun a => A7 a ∨ Bo a) := (st5'.trans st6).trans st7
                  obtain ⟨hL7, djT⟩ := hL3.step dj stT
                  obtain ⟨B, S8, sb8⟩ := S7.reWipe own hw'
                  obtain ⟨vs, k1, k2, k3, k4, k5, k6, k7, k8⟩ := OR.append S8 hL7 ho7 (fun a z w => djT a z (.inl (sb8 a w))) (fun a z w => djT a z (.inr w)) (fun a z w => dj7 a z (sb8 a w))
                  have hrest : ahead (os ++ [o]) (cLoop (cStep g.G own elt tg ifs) (xs.drop (i + 1)) (wipeR own rod)) = r := by
                    rw [← hc]
                    cases cLoop (cStep g.G own elt tg ifs) (xs.drop (i + 1)) (wipeR own rod) with
                    | ok os3 r3 => simp [ahead]
                    | exc x3 r3 => rfl
                    | stuck => rfl
                  refine ⟨vs, k1, ?_, F7, B, wipeR own rod, os ++ [o], fun a => T a ∨ Bo a, k4, k3, k5, ?_, fun z => ?_, hrest, by rw [List.length_append, List.length_singleton]; omega⟩
                  · have := lenOk_le hlen
                    rw [k2]; omega
                  · have t1 : Stp F1 H1 A1 F7 H6 (fun a => (A7 a ∨ Bo a) ∨ T a) := (st2.trans st3).trans (stT.frame T)
                    exact (t1.weak (T := fun a => B a ∨ (T a ∨ Bo a)) fun a z => by
                      rcases z with z | z | z
                      · exact .inl (.inl (sb8 a z))
                      · exact .inr z
                      · exact .inl (.inr z)).trans k6
                  · obtain ⟨z1, z2⟩ := and2 z
                    have s6 : Sub H1 H6 := (((qq z).1.trans sub3).trans (hs5 z2)).trans (hq6 z1).s
                    have h1D : H1 D = none := (qq z).2 D k7
                    refine ⟨fun a o e => ?_, fun a w => ?_⟩
                    · rw [upd_ne fun e2 => by rw [e2, h1D] at e; cases e]
                      exact s6 a o e
                    · rcases w with w | w
                      · exact (qq z).2 a w
                      · exact (((qq z).1.trans sub3).trans (hs5 z2)).none ((hq6 z1).f a (sb7 a w))
      · have en : i = xs.length := by omega
        subst en
        rw [List.drop_length, cLoop] at hc
        have hc : .ok os ro2 = r := by rw [← hc]; simp [ahead]
        subst hc
        refine .inl ⟨itf.stop H2 sB, ?_⟩
        simp only [cEnd] at hh
        obtain ⟨B, r1, r2⟩ := RS.unwipe (old := ro0) (σ := σ) S2.rs (fun p hp => (quietOwn_of S1.rs hown p hp).imp_right fun ⟨x, v, e1, e2, e3⟩ => ⟨x, v, e1, e2, Dq.mono st2.fr _ _ e3⟩) (by rw [S1.rs.len, S2.rs.len, wipe_length])
        rw [unwS_wipe] at r1
        refine hh (.ref D) F2 H2 B T ((st.trans st2).weak fun a z => z.imp_left (r2 a)) ⟨r1, S2.sub⟩ ⟨hL, fun a z w => dj a z (r2 a w)⟩ fun z => ?_
        obtain ⟨z1, z2⟩ := hqt z
        exact ⟨(hq z1).trans (qq z2).1, fun a w => (hq z1).none ((qq z2).2 a w)⟩
  · exact hh.elim
theorem e_comp (ok : XOk g c k W X) {q : Bool} {own : List (Str × Nat)} {elt tg it ifs : CE} (iE : Snd g elt) (iI : Snd g it) (iB : Snd g ifs) {e : Expr} (h : chk c (.comp q own elt tg it ifs) e = true) :
    PE X e (rdE g W (qt (.comp q own elt tg it ifs)) (ev g.G (.comp q own elt tg it ifs))) := by
  simp only [chk] at h
  split at h
  · rename_i e' t' i' ifs' scope pos
    simp only [Bool.and_eq_true] at h
    obtain ⟨⟨⟨⟨⟨⟨⟨⟨h1, h0⟩, h2⟩, h3⟩, h4⟩, h5⟩, h6⟩, h7⟩, h8⟩ := h
    have hcalm : X.calm = true := by rw [ok.calm]; exact h1
    obtain ⟨hs0, hf0⟩ := ok.stk0 h0
    refine ⟨fun pins s σ H Q I ⟨F, A, ro, S, hh⟩ => ?_⟩
    refine (pe_lcX (W := W) (wi := rdI g W (qt it) (!q) (evI g.G (!q) it)) (g := rdG g tg) (tt := fun σ => rdB g (fun cls d _ H' => W cls d σ H') (qt ifs) (evB g.G ifs)) (te := fun σ => rdE g (fun cls d _ H' => W cls d σ H') (qt elt) (ev g.G elt)) (own := own) hs0 hf0 ok.tk hcalm (by rw [ok.hN]; exact ok.nd) (iI.I _ ok h2)
      (by rw [ok.hN, ok.sc]; exact blkOk_by h4) (fun s H C cl fp xe => g_all (ok.blkX s H C cl fp scope xe takes_none5) h1 tg h6) (fun σ s H C cl fp xe tk => iB.D (ok.blkX s H C cl fp scope xe tk) h7) (fun σ s H C cl fp xe tk => iE.E (ok.blkX s H C cl fp scope xe tk) h8) (fun x => fold_of h3 x)).run pins s σ H Q I ?_
    refine comp_red (W := W) (W2 := fun cls d _ H' => W cls d σ H') h5 ⟨F, A, ro, S, hh, fun _ _ cls d σ' H' w => w⟩
  · cases h
/-- within another comprehension's block: no exception leaves -/
theorem e_nox (ok : XOk g c k W X) {a : CE} (sn : ∀ q own elt tg it ifs, a = .comp q own elt tg it ifs → Snd g elt ∧ Snd g it ∧ Snd g ifs) {e : Expr} (h : chk c (.nox a) e = true) :
    PE X e (rdE g W (qt (.nox a)) (ev g.G (.nox a))) := by
  cases a <;> try (simp only [chk] at h; cases h; done)
  rename_i q own elt tg it ifs
  obtain ⟨iE, iI, iB⟩ := sn _ _ _ _ _ _ rfl
  simp only [chk] at h
  split at h
  · rename_i e' t' i' ifs' scope pos
    simp only [Bool.and_eq_true] at h
    obtain ⟨⟨⟨⟨⟨⟨⟨h1, h2⟩, h3⟩, h4⟩, h5⟩, h6⟩, h7⟩, h8⟩ := h
    have hcalm : X.calm = true := by rw [ok.calm]; exact h1
    refine ⟨fun pins s σ H Q I ⟨F, A, ro, S, hh⟩ => ?_⟩
    have qq : ev g.G (.nox (.comp q own elt tg it ifs)) ro = (match ev g.G (.comp q own elt tg it ifs) ro with | .exc _ _ => .stuck | r => r) := by rw [ev] <;> rfl
    rw [qq] at hh
    refine (pe_lc (wi := rdI g W (qt it) (!q) (evI g.G (!q) it)) (g := rdG g tg) (tt := rdB g (fun _ _ _ _ => False) (qt ifs) (evB g.G ifs)) (te := rdE g (fun _ _ _ _ => False) (qt elt) (ev g.G elt)) (own := own) hcalm (by rw [ok.hN]; exact ok.nd) (iI.I _ ok h2)
      (by rw [ok.hN, ok.sc]; exact blkOk_by h4) (fun s H C cl fp => g_all (ok.blk s H C cl fp scope) h1 tg h6) (fun s H C cl fp => iB.D (ok.blk s H C cl fp scope) h7) (fun s H C cl fp => iE.E (ok.blk s H C cl fp scope) h8) (fun x => fold_of h3 x)).run pins s σ H Q I ?_
    cases r : ev g.G (.comp q own elt tg it ifs) ro with
    | stuck => rw [r] at hh; exact hh.elim
    | exc x ro' => rw [r] at hh; exact hh.elim
    | ok hd ro' =>
      refine comp_red (W := W) (W2 := fun _ _ _ _ => False) h5 ⟨F, A, ro, S, ?_, fun ⟨x, r', z⟩ => by rw [r] at z; cases z⟩
      rw [r] at hh ⊢
      exact hh
  · cases h
end
end Lw

set_option maxRecDepth 100000
/-! Lw13: all expressions. -/
namespace Lw
open PySem L2 RZ
section
variable {g : Gx} {c : CC} {k : Nat} {W : WX} {X : Cx}
section
variable {K : PySem.W.Frag} {cl : ClW} {F F2 H : Hp}
theorem Dq.scal {x : PyData} {v : V} (h : Dq K F2 v x) (e : scalD x = true) : Dq K F v x := by
  cases h with
  | non => exact .non
  | bl b => exact .bl b
  | int i => exact .int i
  | str x => exact .str x
  | lst _ _ => cases e
  | tup _ _ => cases e
theorem ORs.unfrz : ∀ {os : List O} {vs : List V} {A : AS}, ORs K cl F2 H os vs A → (os.all fun o => match o with | .d x => scalD x | _ => false) = true → ORs K cl F H os vs A
  | _, _, _, .nil, _ => .nil
  | _, _, _, .cons (o := o) a b n, e => by
    rw [List.all_cons, Bool.and_eq_true] at e
    refine .cons ?_ (ORs.unfrz b e.2) n
    cases a with
    | d h => exact .d (Dq.scal h e.1)
    | scr h => cases e.1
    | dct _ _ _ _ _ => cases e.1
    | ins _ _ _ _ _ => cases e.1
    | lst _ _ _ _ => cases e.1
theorem OR.unfrz {o : O} {v : V} {A : AS} (h : OR K cl F2 H o v A) (e : flatO o = true) (s : Sub F F2) : OR K cl F H o v A := by
  cases h with
  | d h => exact .d (Dq.scal h e)
  | scr h => cases e
  | dct _ _ _ _ _ => cases e
  | ins _ _ _ _ _ => cases e
  | lst h1 h2 h3 h4 =>
    refine .lst h1 ?_ h3 (s.none h4)
    simp only [flatO] at e
    exact ORs.unfrz h2 e
end
theorem e_share (ok : XOk g c k W X) {i : Nat} {a : CE} (ia : Snd g a) {e : Expr} (h : chk c (.share i a) e = true) : PE X e (rdE g W (qt (.share i a)) (ev g.G (.share i a))) := by
  simp only [chk] at h
  replace h := (and2 h).2
  refine ⟨fun pins s σ H Q I ⟨F, A, ro, S, hh⟩ => ?_⟩
  simp only [ev] at hh
  split at hh
  · rename_i o ho
    split at hh
    · rename_i x hx
      split at hh
      · rename_i hq
        obtain ⟨v0, F1, A1, k1, k2, S1, st1⟩ := S.freezeSlot ho hx
        refine (ia.E ok h).run pins s σ H Q I ⟨F1, A1, _, S1, ?_⟩
        cases r : ev g.G a (ro.set i (some (.d x))) with
        | stuck => rw [r] at hh; exact hh.elim
        | exc x r2 => rw [r] at hh; exact hh.elim
        | ok hd ro1 =>
          rw [r] at hh
          simp only [Out.fin] at hh
          intro v F2 H2 A2 Ao st S2 hv hqq
          have q := hqq hq
          split at hh
          · rename_i o
            split at hh
            · rename_i hf
              have fr : ∀ a, A a → H2 a = H a := fun a z => by
                cases e : H a with
                | none => exact absurd e (S.rs.own a z).2
                | some o => exact q.s a o e
              refine hh v F H2 A Ao ⟨.refl _, fun a o e _ => q.s a o e, fun a z => .inl z, fun a z => z.elim .inl fun z => .inr (q.f a z)⟩ ⟨S.rs.frame (.refl _) fr fun a z => (S.rs.own a z).1, S.sub.trans q.s⟩ ⟨hv.1.unfrz hf (st1.fr.trans st.fr), fun a z w => (S.rs.own a w).2 (q.f a z)⟩ fun _ => q
            · exact hh.elim
          · exact hh.elim
      · exact hh.elim
    · exact hh.elim
  · exact hh.elim
theorem tests_cons {a as : CE} (ia : Snd g a) : ∀ {c : CC} {k : Nat} {W : WX} {X : Cx}, XOk g c k W X → ∀ {es : List Expr}, chks c (.cons a as) es = true → PTs X es (rdB g W (qt (.cons a as)) (evB g.G (.cons a as))) := by
  intro c k W X ok es h
  exact pts_of ok (fun b e => by cases e; exact ia) h
theorem tests_nil : ∀ {c : CC} {k : Nat} {W : WX} {X : Cx}, XOk g c k W X → ∀ {es : List Expr}, chks c .nil es = true → PTs X es (rdB g W (qt .nil) (evB g.G .nil)) := by
  intro c k W X ok es h
  exact pts_of ok (fun b e => by cases e) h
theorem no {a : Bool} {P : Prop} (e : a = false) (h : a = true) : P := by rw [e] at h; cases h
/-- an expression's statement, by its value and its test -/
theorem Snd.of {ce : CE} (hE : ∀ {c : CC} {k : Nat} {W : WX} {X : Cx}, XOk g c k W X → ∀ {e : Expr}, chk c ce e = true → PE X e (rdE g W (qt ce) (ev g.G ce)))
    (hT : ∀ {c : CC} {k : Nat} {W : WX} {X : Cx}, XOk g c k W X → ∀ {e : Expr}, chk c ce e = true → PT X e (rdT g W (qt ce) (ev g.G ce)))
    (hB : ∀ (c : CC) op es pos, chk c ce (.BoolOp op es pos) = false := by intros; rfl) (hL : ∀ (c : CC) es, chks c ce es = false := by intros; rfl) (hO : ∀ (c : CC) e, chkO c ce e = false := by intros; rfl) (hI : ∀ (c : CC) tg e, chkI c ce tg e = false := by intros; rfl) : Snd g ce where
  E := hE
  T := hT
  B := by intro c k W X ok op es pos h; exact no (hB _ _ _ _) h
  L := by intro c k W X ok es h; exact no (hL _ _) h
  O := by intro c k W X ok e h; exact no (hO _ _) h
  I := by intro c k W X z ok tg e h; exact no (hI _ _ _) h
  D := by intro c k W X ok es h; exact no (hL _ _) h
/-- .. tested by its value -/
theorem Snd.pl {ce : CE} (hE : ∀ {c : CC} {k : Nat} {W : WX} {X : Cx}, XOk g c k W X → ∀ {e : Expr}, chk c ce e = true → PE X e (rdE g W (qt ce) (ev g.G ce)))
    (hp : ∀ (c : CC) (e : Expr), chk c ce e = true → testPlain e = true := by intro c e h; simp only [chk] at h; split at h <;> first | rfl | cases h)
    (hB : ∀ (c : CC) op es pos, chk c ce (.BoolOp op es pos) = false := by intros; rfl) (hL : ∀ (c : CC) es, chks c ce es = false := by intros; rfl) (hO : ∀ (c : CC) e, chkO c ce e = false := by intros; rfl) (hI : ∀ (c : CC) tg e, chkI c ce tg e = false := by intros; rfl) : Snd g ce :=
  .of hE (by intro c k W X ok e h; exact pt_of (hE ok h) (hp c e h)) hB hL hO hI
/-- .. a chain of and, or -/
theorem Snd.bo {ce : CE} (hE : ∀ {c : CC} {k : Nat} {W : WX} {X : Cx}, XOk g c k W X → ∀ {e : Expr}, chk c ce e = true → PE X e (rdE g W (qt ce) (ev g.G ce)))
    (hB : ∀ {c : CC} {k : Nat} {W : WX} {X : Cx}, XOk g c k W X → ∀ {op : BoolOp} {es : List Expr} {pos : Pos}, chk c ce (.BoolOp op es pos) = true → PW X (.BoolOp op es pos) (rdT g W (qt ce) (ev g.G ce)))
    (hf : ∀ (c : CC) (e : Expr), chk c ce e = true → ∃ op es pos, e = .BoolOp op es pos := by intro c e h; simp only [chk] at h; split at h <;> first | exact ⟨_, _, _, rfl⟩ | cases h)
    (hL : ∀ (c : CC) es, chks c ce es = false := by intros; rfl) (hO : ∀ (c : CC) e, chkO c ce e = false := by intros; rfl) (hI : ∀ (c : CC) tg e, chkI c ce tg e = false := by intros; rfl) : Snd g ce where
  E := hE
  T := by
    intro c k W X ok e h
    obtain ⟨op, es, pos, rfl⟩ := hf c e h
    exact (hB ok h).pt
  B := hB
  L := by intro c k W X ok es h; exact no (hL _ _) h
  O := by intro c k W X ok e h; exact no (hO _ _) h
  I := by intro c k W X z ok tg e h; exact no (hI _ _ _) h
  D := by intro c k W X ok es h; exact no (hL _ _) h
/-- what a loop walks -/
theorem Snd.iter {ce : CE} (hI : ∀ (z : Bool) {c : CC} {k : Nat} {W : WX} {X : Cx}, XOk g c k W X → ∀ {tg e : Expr}, chkI c ce tg e = true → PI X tg e (rdI g W (qt ce) z (evI g.G z ce)))
    (hE : ∀ (c : CC) e, chk c ce e = false := by intros; rfl) (hL : ∀ (c : CC) es, chks c ce es = false := by intros; rfl) (hO : ∀ (c : CC) e, chkO c ce e = false := by intros; rfl) : Snd g ce where
  E := by intro c k W X ok e h; exact no (hE _ _) h
  T := by intro c k W X ok e h; exact no (hE _ _) h
  B := by intro c k W X ok op es pos h; exact no (hE _ _) h
  L := by intro c k W X ok es h; exact no (hL _ _) h
  O := by intro c k W X ok e h; exact no (hO _ _) h
  I := by intro c k W X z ok tg e h; exact hI z ok h
  D := by intro c k W X ok es h; exact no (hL _ _) h
/-- arguments -/
theorem Snd.args {ce : CE} (hL : ∀ {c : CC} {k : Nat} {W : WX} {X : Cx}, XOk g c k W X → ∀ {es : List Expr}, chks c ce es = true → PA X es (rdA g W (qt ce) (evs g.G ce)))
    (hO : ∀ {c : CC} {k : Nat} {W : WX} {X : Cx}, XOk g c k W X → ∀ {e : Option Expr}, chkO c ce e = true → PO X e (tOof (rdA g W (qt ce) (evs g.G ce))))
    (hD : ∀ {c : CC} {k : Nat} {W : WX} {X : Cx}, XOk g c k W X → ∀ {es : List Expr}, chks c ce es = true → PTs X es (rdB g W (qt ce) (evB g.G ce)))
    (hE : ∀ (c : CC) e, chk c ce e = false := by intros; rfl) (hI : ∀ (c : CC) tg e, chkI c ce tg e = false := by intros; rfl) : Snd g ce where
  E := by intro c k W X ok e h; exact no (hE _ _) h
  T := by intro c k W X ok e h; exact no (hE _ _) h
  B := by intro c k W X ok op es pos h; exact no (hE _ _) h
  L := hL
  O := hO
  I := by intro c k W X z ok tg e h; exact no (hI _ _ _) h
  D := hD
end
end Lw

set_option maxRecDepth 100000
/-! Lw14: a tree rewritten at a place within. -/
namespace Lw
open PySem L2 RZ
section
variable {K : PySem.W.Frag} {cl : ClW} {F H : Hp}
/-- one of a list of trees taken out, and another put -/
theorem ORs.split : ∀ {os : List O} {vs : List V} {A : AS} {k : Nat} {o : O} {v : V}, ORs K cl F H os vs A → os[k]? = some o → vs[k]? = some v →
    ∃ B C : AS, OR K cl F H o v B ∧ (∀ a, A a ↔ B a ∨ C a) ∧ (∀ a, B a → C a → False) ∧
      ∀ (H' : Hp) (o' : O) (B' : AS), OR K cl F H' o' v B' → (∀ a, C a → H' a = H a) → (∀ a, B' a → C a → False) → ORs K cl F H' (os.set k o') vs (fun a => B' a ∨ C a)
  | _, _, _, _, _, _, .nil, e, _ => by simp at e
  | _, _, _, 0, _, _, .cons (A := A) (B := B) h t n, e, e2 => by
    simp at e e2; subst e; subst e2
    refine ⟨A, B, h, fun a => Iff.rfl, n, fun H' o' B' h' fr dj => ?_⟩
    rw [List.set_cons_zero]
    exact .cons h' (t.frame (.refl _) fr fun a z => (t.own a z).1) dj
  | _, _, _, k + 1, o, v, .cons (A := A) (B := B) h t n, e, e2 => by
    obtain ⟨B1, C1, k1, k2, k3, k4⟩ := ORs.split (k := k) (o := o) (v := v) t (by simpa using e) (by simpa using e2)
    refine ⟨B1, fun a => A a ∨ C1 a, k1, fun a => ?_, fun a x y => ?_, fun H' o' B' h' fr dj => ?_⟩
    · constructor
      · rintro (z | z)
        · exact .inr (.inl z)
        · rcases (k2 a).mp z with z | z
          · exact .inl z
          · exact .inr (.inr z)
      · rintro (z | z | z)
        · exact .inr ((k2 a).mpr (.inl z))
        · exact .inl z
        · exact .inr ((k2 a).mpr (.inr z))
    · rcases y with y | y
      · exact n a y ((k2 a).mpr (.inl x))
      · exact k3 a x y
    · rw [List.set_cons_succ]
      have t' := k4 H' o' B' h' (fun a z => fr a (.inr z)) fun a x y => dj a x (.inr y)
      refine (ORs.cons (h.frame (.refl _) (fun a z => fr a (.inl z)) fun a z => (h.own a z).1) t' fun a x y => ?_).cast fun a => ?_
      · rcases y with y | y
        · exact dj a y (.inl x)
        · exact n a x ((k2 a).mpr (.inr y))
      · constructor
        · rintro (z | z | z)
          · exact .inr (.inl z)
          · exact .inl z
          · exact .inr (.inr z)
        · rintro (z | z | z)
          · exact .inr (.inl z)
          · exact .inl z
          · exact .inr (.inr z)
theorem ORs.splitN : ∀ {fs : List (Str × V)} {os : List O} {A : AS} {m : Str} {o : O} {v : V}, ORs K cl F H os (fs.map (·.2)) A → Lw.getN (fs.map (·.1)) os m = some o → fs.lookup m = some v →
    ∃ B C : AS, OR K cl F H o v B ∧ (∀ a, A a ↔ B a ∨ C a) ∧ (∀ a, B a → C a → False) ∧
      ∀ (H' : Hp) (o' : O) (B' : AS), OR K cl F H' o' v B' → (∀ a, C a → H' a = H a) → (∀ a, B' a → C a → False) → ORs K cl F H' (setN (fs.map (·.1)) os m o') (fs.map (·.2)) (fun a => B' a ∨ C a)
  | [], _, _, _, _, _, h, e, _ => by rw [List.map_nil, Lw.getN] at e; cases e; intros; contradiction
  | (n, w) :: fs, os, A, m, o, v, h, e, e2 => by
    rw [List.map_cons] at h e
    cases h with
    | @cons o0 os0 _ _ A0 B0 h t n2 =>
      rw [Lw.getN] at e
      rw [List.lookup_cons] at e2
      split at e
      · rename_i hn
        have hn : n = m := hn
        cases e
        subst hn
        simp at e2
        subst e2
        refine ⟨A0, B0, h, fun a => Iff.rfl, n2, fun H' o' B' h' fr dj => ?_⟩
        rw [List.map_cons, List.map_cons, setN, if_pos rfl]
        exact .cons h' (t.frame (.refl _) fr fun a z => (t.own a z).1) dj
      · rename_i hn
        have hb : (m == n) = false := beq_eq_false_iff_ne.mpr fun z => hn z.symm
        rw [hb] at e2
        obtain ⟨B1, C1, k1, k2, k3, k4⟩ := ORs.splitN t e e2
        refine ⟨B1, fun a => A0 a ∨ C1 a, k1, fun a => ?_, fun a x y => ?_, fun H' o' B' h' fr dj => ?_⟩
        · constructor
          · rintro (z | z)
            · exact .inr (.inl z)
            · rcases (k2 a).mp z with z | z
              · exact .inl z
              · exact .inr (.inr z)
          · rintro (z | z | z)
            · exact .inr ((k2 a).mpr (.inl z))
            · exact .inl z
            · exact .inr ((k2 a).mpr (.inr z))
        · rcases y with y | y
          · exact n2 a y ((k2 a).mpr (.inl x))
          · exact k3 a x y
        · have hs : setN (((n, w) :: fs).map (·.1)) (o0 :: os0) m o' = o0 :: setN (fs.map (·.1)) os0 m o' := by
            rw [List.map_cons, setN, if_neg hn]
          rw [hs, List.map_cons]
          have t' := k4 H' o' B' h' (fun a z => fr a (.inr z)) fun a x y => dj a x (.inr y)
          refine (ORs.cons (h.frame (.refl _) (fun a z => fr a (.inl z)) fun a z => (h.own a z).1) t' fun a x y => ?_).cast fun a => ?_
          · rcases y with y | y
            · exact dj a y (.inl x)
            · exact n2 a x ((k2 a).mpr (.inr y))
          · constructor
            · rintro (z | z | z)
              · exact .inr (.inl z)
              · exact .inl z
              · exact .inr (.inr z)
            · rintro (z | z | z)
              · exact .inr (.inl z)
              · exact .inl z
              · exact .inr (.inr z)
theorem setN_names : ∀ (ns : List Str) (os : List O) (m : Str) (x : O), (setN ns os m x).length = os.length
  | [], os, m, x => by cases os <;> rfl
  | n :: ns, [], m, x => rfl
  | n :: ns, o :: os, m, x => by
    rw [setN]
    split
    · rfl
    · rw [List.length_cons, List.length_cons, setN_names]
/-- a tree rewritten at a place -/
theorem OR.updAt : ∀ {p : List Sel} {o s : O} {v0 v : V} {A : AS}, OR K cl F H o v0 A → O.walk p o = some s → WalkV H v0 p v →
    ∃ B C : AS, OR K cl F H s v B ∧ (∀ a, A a ↔ B a ∨ C a) ∧ (∀ a, B a → C a → False) ∧
      ∀ (H' : Hp) (s' : O) (B' : AS), OR K cl F H' s' v B' → (∀ a, C a → H' a = H a) → (∀ a, B' a → C a → False) → ∃ o', O.put p s' o = some o' ∧ OR K cl F H' o' v0 (fun a => B' a ∨ C a)
  | [], o, s, v0, v, A, h, e, w => by
    rw [O.walk] at e
    cases e
    cases w
    refine ⟨A, fun _ => False, h, fun a => by simp, fun _ _ z => z, fun H' s' B' h' _ _ => ⟨s', by rw [O.put], h'.cast fun a => by simp⟩⟩
  | .i k :: p, o, s, v0, v, A, h, e, ⟨v1, ⟨a0, vs, hv0, hH, hk⟩, w2⟩ => by
    rw [O.walk] at e
    subst hv0
    cases h with
    | @lst _ vs' os A0 h1 h2 h3 h4 =>
      rw [hH] at h1
      cases h1
      simp only [O.sel] at e
      cases q : os[k]? with
      | none => rw [q] at e; cases e
      | some o1 =>
        rw [q] at e
        obtain ⟨B1, C1, k1, k2, k3, k4⟩ := h2.split q hk
        obtain ⟨B, C2, j1, j2, j3, j4⟩ := OR.updAt k1 e w2
        refine ⟨B, fun a => a = a0 ∨ (C1 a ∨ C2 a), j1, fun a => ?_, fun a x y => ?_, fun H' s' B' h' fr dj => ?_⟩
        · constructor
          · rintro (z | z)
            · exact .inr (.inl z)
            · rcases (k2 a).mp z with z | z
              · rcases (j2 a).mp z with z | z
                · exact .inl z
                · exact .inr (.inr (.inr z))
              · exact .inr (.inr (.inl z))
          · rintro (z | z | z | z)
            · exact .inr ((k2 a).mpr (.inl ((j2 a).mpr (.inl z))))
            · exact .inl z
            · exact .inr ((k2 a).mpr (.inr z))
            · exact .inr ((k2 a).mpr (.inl ((j2 a).mpr (.inr z))))
        · rcases y with y | y | y
          · subst y; exact h3 ((k2 _).mpr (.inl ((j2 _).mpr (.inl x))))
          · exact k3 a ((j2 a).mpr (.inl x)) y
          · exact j3 a x y
        · obtain ⟨o', p1, p2⟩ := j4 H' s' B' h' (fun a z => fr a (.inr (.inr z))) fun a x y => dj a x (.inr (.inr y))
          have r := k4 H' o' _ p2 (fun a z => fr a (.inr (.inl z))) fun a x y => by
            rcases x with x | x
            · exact dj a x (.inr (.inl y))
            · exact k3 a ((j2 a).mpr (.inr x)) y
          refine ⟨.lst (os.set k o'), by simp only [O.put, q, p1], (OR.lst ((fr a0 (.inl rfl)).trans hH) r (fun z => ?_) h4).cast fun a => ?_⟩
          · rcases z with (z | z) | z
            · exact dj a0 z (.inl rfl)
            · exact h3 ((k2 _).mpr (.inl ((j2 _).mpr (.inr z))))
            · exact h3 ((k2 _).mpr (.inr z))
          · constructor
            · rintro (z | (z | z) | z)
              · exact .inr (.inl z)
              · exact .inl z
              · exact .inr (.inr (.inr z))
              · exact .inr (.inr (.inl z))
            · rintro (z | z | z | z)
              · exact .inr (.inl (.inl z))
              · exact .inl z
              · exact .inr (.inr z)
              · exact .inr (.inl (.inr z))
    | d _ => simp only [O.sel] at e; cases e
    | scr _ => simp only [O.sel] at e; cases e
    | dct _ _ _ _ _ => simp only [O.sel] at e; cases e
    | ins _ _ _ _ _ => simp only [O.sel] at e; cases e
  | .f n :: p, o, s, v0, v, A, h, e, ⟨v1, ⟨a0, C0, dx, fs, hv0, hH, hk⟩, w2⟩ => by
    rw [O.walk] at e
    subst hv0
    cases h with
    | @ins _ C' dx' c fs' os A0 h1 hc h2 h3 h4 =>
      rw [hH] at h1
      cases h1
      simp only [O.sel] at e
      cases q : getN (fs.map (·.1)) os n with
      | none => rw [q] at e; cases e
      | some o1 =>
        rw [q] at e
        obtain ⟨B1, C1, k1, k2, k3, k4⟩ := h2.splitN q hk
        obtain ⟨B, C2, j1, j2, j3, j4⟩ := OR.updAt k1 e w2
        refine ⟨B, fun a => a = a0 ∨ (C1 a ∨ C2 a), j1, fun a => ?_, fun a x y => ?_, fun H' s' B' h' fr dj => ?_⟩
        · constructor
          · rintro (z | z)
            · exact .inr (.inl z)
            · rcases (k2 a).mp z with z | z
              · rcases (j2 a).mp z with z | z
                · exact .inl z
                · exact .inr (.inr (.inr z))
              · exact .inr (.inr (.inl z))
          · rintro (z | z | z | z)
            · exact .inr ((k2 a).mpr (.inl ((j2 a).mpr (.inl z))))
            · exact .inl z
            · exact .inr ((k2 a).mpr (.inr z))
            · exact .inr ((k2 a).mpr (.inl ((j2 a).mpr (.inr z))))
        · rcases y with y | y | y
          · subst y; exact h3 ((k2 _).mpr (.inl ((j2 _).mpr (.inl x))))
          · exact k3 a ((j2 a).mpr (.inl x)) y
          · exact j3 a x y
        · obtain ⟨o', p1, p2⟩ := j4 H' s' B' h' (fun a z => fr a (.inr (.inr z))) fun a x y => dj a x (.inr (.inr y))
          have r := k4 H' o' _ p2 (fun a z => fr a (.inr (.inl z))) fun a x y => by
            rcases x with x | x
            · exact dj a x (.inr (.inl y))
            · exact k3 a ((j2 a).mpr (.inr x)) y
          refine ⟨.ins c (fs.map (·.1)) (setN (fs.map (·.1)) os n o'), by simp only [O.put, q, p1], (OR.ins ((fr a0 (.inl rfl)).trans hH) hc r (fun z => ?_) h4).cast fun a => ?_⟩
          · rcases z with (z | z) | z
            · exact dj a0 z (.inl rfl)
            · exact h3 ((k2 _).mpr (.inl ((j2 _).mpr (.inr z))))
            · exact h3 ((k2 _).mpr (.inr z))
          · constructor
            · rintro (z | (z | z) | z)
              · exact .inr (.inl z)
              · exact .inl z
              · exact .inr (.inr (.inr z))
              · exact .inr (.inr (.inl z))
            · rintro (z | z | z | z)
              · exact .inr (.inl (.inl z))
              · exact .inl z
              · exact .inr (.inr z)
              · exact .inr (.inl (.inr z))
    | d _ => simp only [O.sel] at e; cases e
    | scr _ => simp only [O.sel] at e; cases e
    | dct _ _ _ _ _ => simp only [O.sel] at e; cases e
    | lst _ _ _ _ => simp only [O.sel] at e; cases e
  | .k _ :: p, o, s, v0, v, A, h, e, ⟨v1, w1, w2⟩ => w1.elim
/-- a slot's tree rewritten at a place -/
theorem SR.updAt {A : AS} {ro : Ro} {σ : L2.St} {i : Nat} {o s : O} {p : List Sel} {v0 v : V} (S : SR K cl F A ro σ H) (hi : ro[i]? = some (some o)) (hs : σ[i]? = some (some v0)) (hw : O.walk p o = some s) (w : WalkV H v0 p v) :
    ∃ B C : AS, OR K cl F H s v B ∧ (∀ a, A a ↔ B a ∨ C a) ∧ (∀ a, B a → C a → False) ∧
      ∀ (H' : Hp) (s' : O) (B' : AS), OR K cl F H' s' v B' → (∀ a, C a → H' a = H a) → (∀ a, B' a → C a → False) → Sub F H' → ∃ o', O.put p s' o = some o' ∧ SR K cl F (fun a => B' a ∨ C a) (ro.set i (some o')) σ H' := by
  obtain ⟨v1, Ai, B0, h1, h2, h3, h4, h5⟩ := S.rs.out hi
  rw [hs] at h1
  cases h1
  obtain ⟨B, C, k1, k2, k3, k4⟩ := h2.updAt hw w
  refine ⟨B, fun a => C a ∨ B0 a, k1, fun a => ?_, fun a x y => ?_, fun H' s' B' h' fr dj sb => ?_⟩
  · constructor
    · intro z
      rcases (h5 a).mp z with z | z
      · rcases (k2 a).mp z with z | z
        · exact .inl z
        · exact .inr (.inl z)
      · exact .inr (.inr z)
    · rintro (z | z | z)
      · exact (h5 a).mpr (.inl ((k2 a).mpr (.inl z)))
      · exact (h5 a).mpr (.inl ((k2 a).mpr (.inr z)))
      · exact (h5 a).mpr (.inr z)
  · rcases y with y | y
    · exact k3 a x y
    · exact h4 a ((k2 a).mpr (.inl x)) y
  · obtain ⟨o', p1, p2⟩ := k4 H' s' B' h' (fun a z => fr a (.inl z)) fun a x y => dj a x (.inl y)
    have hl : i < ro.length := (List.getElem?_eq_some_iff.mp hi).1
    have r := (h3.frame (F' := F) (H' := H') (.refl _) (fun a z => fr a (.inr z)) fun a z => (h3.own a z).1).put (i := i) (o := o') (v := v0) (by rw [List.getElem?_set_self hl]) p2 (fun a x y => by
      rcases x with x | x
      · exact dj a x (.inr y)
      · exact h4 a ((k2 a).mpr (.inr x)) y)
    rw [List.set_set] at r
    have es : σ.set i (some v0) = σ := set_self hs
    rw [es] at r
    exact ⟨o', p1, r.cast fun a => by
      constructor
      · rintro (z | z | z)
        · exact .inr (.inr z)
        · exact .inl z
        · exact .inr (.inl z)
      · rintro (z | z | z)
        · exact .inr (.inl z)
        · exact .inr (.inr z)
        · exact .inl z, sb⟩
end
end Lw

set_option maxRecDepth 100000
/-! LwR: a tuple's items from the right, t[::-1]. -/
namespace Lw
open PySem PySem.Spec PyProof.Rows L2
theorem fm_congr {α β : Type} {f g : α → Option β} : ∀ l : List α, (∀ x ∈ l, f x = g x) → l.filterMap f = l.filterMap g
  | [], _ => rfl
  | x :: l, h => by
    rw [List.filterMap_cons, List.filterMap_cons, h x (by simp), fm_congr l fun y hy => h y (List.mem_cons_of_mem _ hy)]
section
variable {prog : Program} {w : World} {A : Around} {E : Value → Shared → Prop} {s : Shared}
theorem adjust_rev (n : Nat) : Builtin.Slice.sliceAdjust none none (-1) (n : Int) = ((n : Int) - 1, -1) := by
  unfold Builtin.Slice.sliceAdjust
  simp
theorem places_rev (n : Nat) : Builtin.Slice.slicePlaces ((n : Int) - 1) (-1) (-1) = n := by
  unfold Builtin.Slice.slicePlaces
  have h1 : ¬ ((-1 : Int) > 0) := by decide
  simp only [h1, if_false]
  split
  · have e : ((n : Int) - 1 - -1 - 1) / (- -1) = (n : Int) - 1 := by
      rw [show (- -1 : Int) = 1 by decide, Int.ediv_one]
      omega
    rw [e]
    omega
  · simp
    omega
theorem sliceApplied_rev {sl : Addr} {vl vu vs : Value} {n : Nat} {Q : Int × Int × Nat → Shared → Prop} (hs : s.heap.IsSliceOf sl vl vu vs) (pl : IsPart vl none) (pu : IsPart vu none) (ps : IsPart vs (some (-1))) (h : Q ((n : Int) - 1, -1, n) s) :
    wpAny (model prog w) A (Builtin.Slice.sliceApplied (.ref sl) (pure (n : Int))) Q E s := by
  obtain ⟨os, hos, hcs, hds⟩ := id hs
  unfold Builtin.Slice.sliceApplied Builtin.Slice.sliceFields
  refine wpAny_bind (wpAny_bind (wpAny_field hos hds (x := vl) rfl (wpAny_bind (wpAny_field hos hds (x := vu) rfl (wpAny_bind (wpAny_field hos hds (x := vs) rfl (wpAny_pure ?_)))))))
  refine wpAny_bind (HT.slicePart_ ps ?_)
  show wpAny _ _ (if ((-1 : Int) == 0) = true then _ else _) _ _ s
  rw [if_neg (by decide)]
  refine wpAny_bind (HT.slicePart_ pl (wpAny_bind (HT.slicePart_ pu (wpAny_bind (wpAny_pure ?_)))))
  show wpAny _ _ (match Builtin.Slice.sliceAdjust none none (-1) (n : Int) with | (lo, hi) => pure (lo, (-1 : Int), Builtin.Slice.slicePlaces lo hi (-1))) _ _ s
  rw [adjust_rev n]
  show wpAny _ _ (pure ((n : Int) - 1, (-1 : Int), Builtin.Slice.slicePlaces ((n : Int) - 1) (-1) (-1))) _ _ s
  rw [places_rev]
  exact wpAny_pure h
theorem pick_rev (xs : Array Value) : ((List.range xs.size).filterMap fun (m : Nat) => xs[((xs.size : Int) - 1 + (m : Int) * (-1)).toNat]?).toArray = xs.toList.reverse.toArray := by
  have e : (List.range xs.size).filterMap (fun (m : Nat) => xs[((xs.size : Int) - 1 + (m : Int) * (-1)).toNat]?) = ((List.range xs.size).map fun k => xs.size - 1 - k).filterMap (xs[·]?) := by
    rw [List.filterMap_map]
    refine fm_congr _ fun m hm => ?_
    have := List.mem_range.mp hm
    have e2 : ((xs.size : Int) - 1 + (m : Int) * (-1)).toNat = xs.size - 1 - m := by omega
    rw [e2] <;> rfl
  rw [e, PySem.W.krv_range, List.filterMap_reverse, PySem.W.krv_all]
theorem getItem_tuple_rev {t sl : Addr} {items : Array Value} {vl vu vs : Value} {Q : Value → Shared → Prop} (ht : IsTup s.heap t items) (hs : s.heap.IsSliceOf sl vl vu vs) (pl : IsPart vl none) (pu : IsPart vu none) (ps : IsPart vs (some (-1)))
    (h : Q (.ref s.heap.objs.size) { s with heap := s.heap.push { cls := .type "tuple", data := .seq items.toList.reverse.toArray } })
    (hsz : items.size ≤ sizeLine) : wpAny (model prog w) A (getItem (.ref t) (.ref sl)) Q E s := by
  have htake : sizeOk (.seq items.toList.reverse.toArray) := by
    show items.toList.reverse.toArray.size ≤ sizeLine
    rw [List.size_toArray, List.length_reverse, Array.length_toList]
    exact hsz
  obtain ⟨os, hos, hcs, hds⟩ := id hs
  have hTs : s.TypeIs (.ref sl) "slice" := ⟨os, hos, hcs⟩
  unfold getItem
  try with_reducible refine wpAny_holding ?_
  first | refine wpAny_bind (wpAny_pure ?_) | skip
  refine wpAny_bind (wpAny_sequenceKey ht.typeIs (by decide) ?_)
  refine wpAny_bind (wpAny_callSpecial?_slot (name := Str.ofString "__getitem__") ht.typeIs PyProof.Rows.slot_tuple_getitem
    (wpAny_call_entry PyProof.Rows.slot_tuple_getitem ht.typeIs entry_tuple_getitem ?_ (args_tuple_getitem _ _)))
  show wpAny _ _ (Builtin.Tuple.tupleItemsOf (.ref t) >>= _) _ _ s
  refine wpAny_bind (tupleItemsOf_ ht ?_)
  refine wpAny_bind (wpAny_typeOf hTs ?_)
  rw [if_pos (by decide)]
  refine wpAny_bind (sliceApplied_rev hs pl pu ps ?_)
  show wpAny _ _ (if (((items.size : Int) - 1) == 0 && (-1 : Int) == 1 && items.size == items.size) = true then _ else _) _ _ s
  have hno : ¬ ((((items.size : Int) - 1) == 0 && (-1 : Int) == 1 && items.size == items.size) = true) := by
    intro q
    rw [Bool.and_eq_true, Bool.and_eq_true] at q
    exact absurd (eq_of_beq q.1.2) (by decide)
  rw [if_neg hno, pick_rev]
  first
    | exact wpAny_bind (m := Builtin.Tuple.tupleExact _) (wpAny_newObj_type (wpAny_pure ⟨_, rfl, wpAny_pure h⟩) htake)
    | exact wpAny_bind (m := Builtin.Tuple.tupleExact _) (wpAny_newObj_type (wpAny_bind (wpAny_pure (wpAny_pure ⟨_, rfl, wpAny_pure h⟩))) htake)
    | exact wpAny_bind (wpAny_bind (m := Builtin.Tuple.tupleExact _) (wpAny_newObj_type (wpAny_pure (wpAny_pure ⟨_, rfl, wpAny_pure h⟩)) htake))
    | exact wpAny_bind (wpAny_bind (m := Builtin.Tuple.tupleExact _) (wpAny_newObj_type (wpAny_pure ⟨_, rfl, wpAny_pure h⟩) htake))
end
section
variable {X : Cx}
def tRevT (K : PySem.W.Frag) (te : TE) : TE := fun σ H Q => te σ H fun x H1 => ∃ a xs, x = .ref a ∧ SqT K H1 a xs ∧ ∀ p, H1 p = none → Q (.ref p) (upd H1 p (.tup xs.reverse))
theorem pe_revT {e : Expr} {te : TE} {k : Nat} {p1 p2 p3 pos : Pos} (he : PE X e te) : PE X (.Subscript e (.Slice none none (some (.UnaryOp .USub (.Constant (.int 1) k p1) p2)) p3) pos) (tRevT X.K te) := by
  refine ⟨fun pins s σ H Q I h => ?_⟩
  refine Subscript_ (thn (he.run pins s σ H _ I h) fun v s1 ⟨x, H1, I1, r1, q1⟩ => ?_)
  obtain ⟨a, xs, ex, hx, q⟩ := q1
  subst ex
  cases r1
  have hst : PO X (some (.UnaryOp .USub (.Constant (.int 1) k p1) p2)) (tPart (tUn (rU fun i => .int (-i)) (tC (.int 1)))) := po_some (pe_un un_neg pe_int)
  refine wpAny_Slice (thn (po_none.run pins s1 σ H1 (fun o H2 => o = none ∧ H2 = H1) I1 ⟨rfl, rfl⟩) fun vl s2 ⟨l, H2, I2, pl, el, e2⟩ => ?_)
  subst el e2
  refine thn (po_none.run pins s2 σ H2 (fun o H3 => o = none ∧ H3 = H2) I2 ⟨rfl, rfl⟩) fun vu s3 ⟨u, H3, I3, pu, eu, e3⟩ => ?_
  subst eu e3
  refine thn (hst.run pins s3 σ H3 (fun o H4 => o = some (-1) ∧ H4 = H3) I3 ⟨1, rfl, -1, rfl, rfl, rfl⟩) fun vs s4 ⟨o, H4, I4, ps, eo, e4⟩ => ?_
  subst eo e4
  have I5 : Inv X pins σ H4 { s4 with heap := s4.heap.push { cls := .type "slice", data := .fields #[vl, vu, vs] } } := I4.kept (t' := s4.toks) fun b ob q => Heap.get?_push_of_some _ q
  obtain ⟨its, r, ht, hz⟩ := I5.tuple hx
  have hlen := r.length
  show wpAny (model X.prog X.w) X.A (subscriptTail e (.Slice none none (some (.UnaryOp .USub (.Constant (.int 1) k p1) p2)) p3) (.ref a) (.ref s4.heap.objs.size)) (EP X pins σ Q) X.xe { s4 with heap := s4.heap.push { cls := .type "slice", data := .fields #[vl, vu, vs] } }
  refine tail_any (ops := [.ref a, .ref s4.heap.objs.size]) ht.typeIs (PyProof.Rows.slot_tuple_getitem.lookup) ?_ (by with_unfolding_all rfl)
  refine getItem_tuple_rev ht (Heap.IsSliceOf.new _ vl vu vs) pl pu ps ?_ (by rw [List.size_toArray]; omega)
  refine ⟨.ref _, _, I5.laid (t' := s4.toks) (o := .tup xs.reverse) (fun b ob q => Heap.get?_push_of_some _ q) (Nat.le_refl _) ?_, rfl, q _ (I5.hok.fresh (Nat.le_refl _))⟩
  exact ⟨by rw [List.length_reverse]; exact hz, _, r.reverse, IsTup.new _ _⟩
end
end Lw

set_option maxRecDepth 100000
/-! LwO: a tree rewritten at a place, the frozen part grown. -/
namespace Lw
open PySem L2 RZ
section
variable {K : PySem.W.Frag} {cl : ClW} {F H : Hp}
/-- one of a list of trees taken out, and another put -/
theorem ORs.splitF : ∀ {os : List O} {vs : List V} {A : AS} {k : Nat} {o : O} {v : V}, ORs K cl F H os vs A → os[k]? = some o → vs[k]? = some v →
    ∃ B C : AS, OR K cl F H o v B ∧ (∀ a, A a ↔ B a ∨ C a) ∧ (∀ a, B a → C a → False) ∧
      ∀ (F' H' : Hp) (o' : O) (B' : AS), Sub F F' → (∀ a, C a → F' a = none) → OR K cl F' H' o' v B' → (∀ a, C a → H' a = H a) → (∀ a, B' a → C a → False) → ORs K cl F' H' (os.set k o') vs (fun a => B' a ∨ C a)
  | _, _, _, _, _, _, .nil, e, _ => by simp at e
  | _, _, _, 0, _, _, .cons (A := A) (B := B) h t n, e, e2 => by
    simp at e e2; subst e; subst e2
    refine ⟨A, B, h, fun a => Iff.rfl, n, fun F' H' o' B' sF nF h' fr dj => ?_⟩
    rw [List.set_cons_zero]
    exact .cons h' (t.frame sF fr nF) dj
  | _, _, _, k + 1, o, v, .cons (A := A) (B := B) h t n, e, e2 => by
    obtain ⟨B1, C1, k1, k2, k3, k4⟩ := ORs.splitF (k := k) (o := o) (v := v) t (by simpa using e) (by simpa using e2)
    refine ⟨B1, fun a => A a ∨ C1 a, k1, fun a => ?_, fun a x y => ?_, fun F' H' o' B' sF nF h' fr dj => ?_⟩
    · constructor
      · rintro (z | z)
        · exact .inr (.inl z)
        · rcases (k2 a).mp z with z | z
          · exact .inl z
          · exact .inr (.inr z)
      · rintro (z | z | z)
        · exact .inr ((k2 a).mpr (.inl z))
        · exact .inl z
        · exact .inr ((k2 a).mpr (.inr z))
    · rcases y with y | y
      · exact n a y ((k2 a).mpr (.inl x))
      · exact k3 a x y
    · rw [List.set_cons_succ]
      have t' := k4 F' H' o' B' sF (fun a z => nF a (.inr z)) h' (fun a z => fr a (.inr z)) fun a x y => dj a x (.inr y)
      refine (ORs.cons (h.frame sF (fun a z => fr a (.inl z)) fun a z => nF a (.inl z)) t' fun a x y => ?_).cast fun a => ?_
      · rcases y with y | y
        · exact dj a y (.inl x)
        · exact n a x ((k2 a).mpr (.inr y))
      · constructor
        · rintro (z | z | z)
          · exact .inr (.inl z)
          · exact .inl z
          · exact .inr (.inr z)
        · rintro (z | z | z)
          · exact .inr (.inl z)
          · exact .inl z
          · exact .inr (.inr z)
theorem ORs.splitNF : ∀ {fs : List (Str × V)} {os : List O} {A : AS} {m : Str} {o : O} {v : V}, ORs K cl F H os (fs.map (·.2)) A → Lw.getN (fs.map (·.1)) os m = some o → fs.lookup m = some v →
    ∃ B C : AS, OR K cl F H o v B ∧ (∀ a, A a ↔ B a ∨ C a) ∧ (∀ a, B a → C a → False) ∧
      ∀ (F' H' : Hp) (o' : O) (B' : AS), Sub F F' → (∀ a, C a → F' a = none) → OR K cl F' H' o' v B' → (∀ a, C a → H' a = H a) → (∀ a, B' a → C a → False) → ORs K cl F' H' (setN (fs.map (·.1)) os m o') (fs.map (·.2)) (fun a => B' a ∨ C a)
  | [], _, _, _, _, _, h, e, _ => by rw [List.map_nil, Lw.getN] at e; cases e; intros; contradiction
  | (n, w) :: fs, os, A, m, o, v, h, e, e2 => by
    rw [List.map_cons] at h e
    cases h with
    | @cons o0 os0 _ _ A0 B0 h t n2 =>
      rw [Lw.getN] at e
      rw [List.lookup_cons] at e2
      split at e
      · rename_i hn
        have hn : n = m := hn
        cases e
        subst hn
        simp at e2
        subst e2
        refine ⟨A0, B0, h, fun a => Iff.rfl, n2, fun F' H' o' B' sF nF h' fr dj => ?_⟩
        rw [List.map_cons, List.map_cons, setN, if_pos rfl]
        exact .cons h' (t.frame sF fr nF) dj
      · rename_i hn
        have hb : (m == n) = false := beq_eq_false_iff_ne.mpr fun z => hn z.symm
        rw [hb] at e2
        obtain ⟨B1, C1, k1, k2, k3, k4⟩ := ORs.splitNF t e e2
        refine ⟨B1, fun a => A0 a ∨ C1 a, k1, fun a => ?_, fun a x y => ?_, fun F' H' o' B' sF nF h' fr dj => ?_⟩
        · constructor
          · rintro (z | z)
            · exact .inr (.inl z)
            · rcases (k2 a).mp z with z | z
              · exact .inl z
              · exact .inr (.inr z)
          · rintro (z | z | z)
            · exact .inr ((k2 a).mpr (.inl z))
            · exact .inl z
            · exact .inr ((k2 a).mpr (.inr z))
        · rcases y with y | y
          · exact n2 a y ((k2 a).mpr (.inl x))
          · exact k3 a x y
        · have hs : setN (((n, w) :: fs).map (·.1)) (o0 :: os0) m o' = o0 :: setN (fs.map (·.1)) os0 m o' := by
            rw [List.map_cons, setN, if_neg hn]
          rw [hs, List.map_cons]
          have t' := k4 F' H' o' B' sF (fun a z => nF a (.inr z)) h' (fun a z => fr a (.inr z)) fun a x y => dj a x (.inr y)
          refine (ORs.cons (h.frame sF (fun a z => fr a (.inl z)) fun a z => nF a (.inl z)) t' fun a x y => ?_).cast fun a => ?_
          · rcases y with y | y
            · exact dj a y (.inl x)
            · exact n2 a x ((k2 a).mpr (.inr y))
          · constructor
            · rintro (z | z | z)
              · exact .inr (.inl z)
              · exact .inl z
              · exact .inr (.inr z)
            · rintro (z | z | z)
              · exact .inr (.inl z)
              · exact .inl z
              · exact .inr (.inr z)
/-- a tree rewritten at a place -/
theorem OR.updAtF : ∀ {p : List Sel} {o s : O} {v0 v : V} {A : AS}, OR K cl F H o v0 A → O.walk p o = some s → WalkV H v0 p v →
    ∃ B C : AS, OR K cl F H s v B ∧ (∀ a, A a ↔ B a ∨ C a) ∧ (∀ a, B a → C a → False) ∧
      ∀ (F' H' : Hp) (s' : O) (B' : AS), Sub F F' → (∀ a, C a → F' a = none) → OR K cl F' H' s' v B' → (∀ a, C a → H' a = H a) → (∀ a, B' a → C a → False) → ∃ o', O.put p s' o = some o' ∧ OR K cl F' H' o' v0 (fun a => B' a ∨ C a)
  | [], o, s, v0, v, A, h, e, w => by
    rw [O.walk] at e
    cases e
    cases w
    refine ⟨A, fun _ => False, h, fun a => by simp, fun _ _ z => z, fun F' H' s' B' _ _ h' _ _ => ⟨s', by rw [O.put], h'.cast fun a => by simp⟩⟩
  | .i k :: p, o, s, v0, v, A, h, e, ⟨v1, ⟨a0, vs, hv0, hH, hk⟩, w2⟩ => by
    rw [O.walk] at e
    subst hv0
    cases h with
    | @lst _ vs' os A0 h1 h2 h3 h4 =>
      rw [hH] at h1
      cases h1
      simp only [O.sel] at e
      cases q : os[k]? with
      | none => rw [q] at e; cases e
      | some o1 =>
        rw [q] at e
        obtain ⟨B1, C1, k1, k2, k3, k4⟩ := h2.splitF q hk
        obtain ⟨B, C2, j1, j2, j3, j4⟩ := OR.updAtF k1 e w2
        refine ⟨B, fun a => a = a0 ∨ (C1 a ∨ C2 a), j1, fun a => ?_, fun a x y => ?_, fun F' H' s' B' sF nF h' fr dj => ?_⟩
        · constructor
          · rintro (z | z)
            · exact .inr (.inl z)
            · rcases (k2 a).mp z with z | z
              · rcases (j2 a).mp z with z | z
                · exact .inl z
                · exact .inr (.inr (.inr z))
              · exact .inr (.inr (.inl z))
          · rintro (z | z | z | z)
            · exact .inr ((k2 a).mpr (.inl ((j2 a).mpr (.inl z))))
            · exact .inl z
            · exact .inr ((k2 a).mpr (.inr z))
            · exact .inr ((k2 a).mpr (.inl ((j2 a).mpr (.inr z))))
        · rcases y with y | y | y
          · subst y; exact h3 ((k2 _).mpr (.inl ((j2 _).mpr (.inl x))))
          · exact k3 a ((j2 a).mpr (.inl x)) y
          · exact j3 a x y
        · obtain ⟨o', p1, p2⟩ := j4 F' H' s' B' sF (fun a z => nF a (.inr (.inr z))) h' (fun a z => fr a (.inr (.inr z))) fun a x y => dj a x (.inr (.inr y))
          have r := k4 F' H' o' _ sF (fun a z => nF a (.inr (.inl z))) p2 (fun a z => fr a (.inr (.inl z))) fun a x y => by
            rcases x with x | x
            · exact dj a x (.inr (.inl y))
            · exact k3 a ((j2 a).mpr (.inr x)) y
          refine ⟨.lst (os.set k o'), by simp only [O.put, q, p1], (OR.lst ((fr a0 (.inl rfl)).trans hH) r (fun z => ?_) (nF a0 (.inl rfl))).cast fun a => ?_⟩
          · rcases z with (z | z) | z
            · exact dj a0 z (.inl rfl)
            · exact h3 ((k2 _).mpr (.inl ((j2 _).mpr (.inr z))))
            · exact h3 ((k2 _).mpr (.inr z))
          · constructor
            · rintro (z | (z | z) | z)
              · exact .inr (.inl z)
              · exact .inl z
              · exact .inr (.inr (.inr z))
              · exact .inr (.inr (.inl z))
            · rintro (z | z | z | z)
              · exact .inr (.inl (.inl z))
              · exact .inl z
              · exact .inr (.inr z)
              · exact .inr (.inl (.inr z))
    | d _ => simp only [O.sel] at e; cases e
    | scr _ => simp only [O.sel] at e; cases e
    | dct _ _ _ _ _ => simp only [O.sel] at e; cases e
    | ins _ _ _ _ _ => simp only [O.sel] at e; cases e
  | .f n :: p, o, s, v0, v, A, h, e, ⟨v1, ⟨a0, C0, dx, fs, hv0, hH, hk⟩, w2⟩ => by
    rw [O.walk] at e
    subst hv0
    cases h with
    | @ins _ C' dx' c fs' os A0 h1 hc h2 h3 h4 =>
      rw [hH] at h1
      cases h1
      simp only [O.sel] at e
      cases q : getN (fs.map (·.1)) os n with
      | none => rw [q] at e; cases e
      | some o1 =>
        rw [q] at e
        obtain ⟨B1, C1, k1, k2, k3, k4⟩ := h2.splitNF q hk
        obtain ⟨B, C2, j1, j2, j3, j4⟩ := OR.updAtF k1 e w2
        refine ⟨B, fun a => a = a0 ∨ (C1 a ∨ C2 a), j1, fun a => ?_, fun a x y => ?_, fun F' H' s' B' sF nF h' fr dj => ?_⟩
        · constructor
          · rintro (z | z)
            · exact .inr (.inl z)
            · rcases (k2 a).mp z with z | z
              · rcases (j2 a).mp z with z | z
                · exact .inl z
                · exact .inr (.inr (.inr z))
              · exact .inr (.inr (.inl z))
          · rintro (z | z | z | z)
            · exact .inr ((k2 a).mpr (.inl ((j2 a).mpr (.inl z))))
            · exact .inl z
            · exact .inr ((k2 a).mpr (.inr z))
            · exact .inr ((k2 a).mpr (.inl ((j2 a).mpr (.inr z))))
        · rcases y with y | y | y
          · subst y; exact h3 ((k2 _).mpr (.inl ((j2 _).mpr (.inl x))))
          · exact k3 a ((j2 a).mpr (.inl x)) y
          · exact j3 a x y
        · obtain ⟨o', p1, p2⟩ := j4 F' H' s' B' sF (fun a z => nF a (.inr (.inr z))) h' (fun a z => fr a (.inr (.inr z))) fun a x y => dj a x (.inr (.inr y))
          have r := k4 F' H' o' _ sF (fun a z => nF a (.inr (.inl z))) p2 (fun a z => fr a (.inr (.inl z))) fun a x y => by
            rcases x with x | x
            · exact dj a x (.inr (.inl y))
            · exact k3 a ((j2 a).mpr (.inr x)) y
          refine ⟨.ins c (fs.map (·.1)) (setN (fs.map (·.1)) os n o'), by simp only [O.put, q, p1], (OR.ins ((fr a0 (.inl rfl)).trans hH) hc r (fun z => ?_) (nF a0 (.inl rfl))).cast fun a => ?_⟩
          · rcases z with (z | z) | z
            · exact dj a0 z (.inl rfl)
            · exact h3 ((k2 _).mpr (.inl ((j2 _).mpr (.inr z))))
            · exact h3 ((k2 _).mpr (.inr z))
          · constructor
            · rintro (z | (z | z) | z)
              · exact .inr (.inl z)
              · exact .inl z
              · exact .inr (.inr (.inr z))
              · exact .inr (.inr (.inl z))
            · rintro (z | z | z | z)
              · exact .inr (.inl (.inl z))
              · exact .inl z
              · exact .inr (.inr z)
              · exact .inr (.inl (.inr z))
    | d _ => simp only [O.sel] at e; cases e
    | scr _ => simp only [O.sel] at e; cases e
    | dct _ _ _ _ _ => simp only [O.sel] at e; cases e
    | lst _ _ _ _ => simp only [O.sel] at e; cases e
  | .k _ :: p, o, s, v0, v, A, h, e, ⟨v1, w1, w2⟩ => w1.elim
/-- a slot's tree rewritten at a place -/
theorem SR.updAtF {A : AS} {ro : Ro} {σ : L2.St} {i : Nat} {o s : O} {p : List Sel} {v0 v : V} (S : SR K cl F A ro σ H) (hi : ro[i]? = some (some o)) (hs : σ[i]? = some (some v0)) (hw : O.walk p o = some s) (w : WalkV H v0 p v) :
    ∃ B C : AS, OR K cl F H s v B ∧ (∀ a, A a ↔ B a ∨ C a) ∧ (∀ a, B a → C a → False) ∧
      ∀ (F' H' : Hp) (s' : O) (B' : AS), Sub F F' → (∀ a, C a → F' a = none) → OR K cl F' H' s' v B' → (∀ a, C a → H' a = H a) → (∀ a, B' a → C a → False) → Sub F' H' → ∃ o', O.put p s' o = some o' ∧ SR K cl F' (fun a => B' a ∨ C a) (ro.set i (some o')) σ H' := by
  obtain ⟨v1, Ai, B0, h1, h2, h3, h4, h5⟩ := S.rs.out hi
  rw [hs] at h1
  cases h1
  obtain ⟨B, C, k1, k2, k3, k4⟩ := h2.updAtF hw w
  refine ⟨B, fun a => C a ∨ B0 a, k1, fun a => ?_, fun a x y => ?_, fun F' H' s' B' sF nF h' fr dj sb => ?_⟩
  · constructor
    · intro z
      rcases (h5 a).mp z with z | z
      · rcases (k2 a).mp z with z | z
        · exact .inl z
        · exact .inr (.inl z)
      · exact .inr (.inr z)
    · rintro (z | z | z)
      · exact (h5 a).mpr (.inl ((k2 a).mpr (.inl z)))
      · exact (h5 a).mpr (.inl ((k2 a).mpr (.inr z)))
      · exact (h5 a).mpr (.inr z)
  · rcases y with y | y
    · exact k3 a x y
    · exact h4 a ((k2 a).mpr (.inl x)) y
  · obtain ⟨o', p1, p2⟩ := k4 F' H' s' B' sF (fun a z => nF a (.inl z)) h' (fun a z => fr a (.inl z)) fun a x y => dj a x (.inl y)
    have hl : i < ro.length := (List.getElem?_eq_some_iff.mp hi).1
    have r := (h3.frame (F' := F') (H' := H') sF (fun a z => fr a (.inr z)) fun a z => nF a (.inr z)).put (i := i) (o := o') (v := v0) (by rw [List.getElem?_set_self hl]) p2 (fun a x y => by
      rcases x with x | x
      · exact dj a x (.inr y)
      · exact h4 a ((k2 a).mpr (.inr x)) y)
    rw [List.set_set] at r
    have es : σ.set i (some v0) = σ := set_self hs
    rw [es] at r
    exact ⟨o', p1, r.cast fun a => by
      constructor
      · rintro (z | z | z)
        · exact .inr (.inr z)
        · exact .inl z
        · exact .inr (.inl z)
      · rintro (z | z | z)
        · exact .inr (.inl z)
        · exact .inr (.inr z)
        · exact .inl z, sb⟩
end
end Lw

set_option maxRecDepth 100000
/-! LwY: instances: attributes, methods, constructors. -/
namespace Lw
open PySem L2 RZ
section
variable {g : Gx} {c : CC} {k : Nat} {W : WX} {X : Cx}
theorem base2_of {o : Expr} {a : Str} {env : Env} {w : Sem Value} (h : baseB2 o = true) : attributeBase o a env w = w := by
  unfold attributeBase
  split
  · simp only [baseB2, Bool.not_eq_true'] at h
    rw [if_pos]
    simp only [bne_iff_ne, ne_eq, Bool.or_eq_true]
    exact .inl (.inl (.inl (beq_eq_false_iff_ne.mp h)))
  · rfl
theorem WalkV.snoc {H : Hp} {s : Sel} {v v' : V} : ∀ {p : List Sel} {v0 : V}, WalkV H v0 p v → SelV H v s v' → WalkV H v0 (p ++ [s]) v'
  | [], v0, h, h2 => by
    have : v0 = v := h
    subst this
    exact ⟨v', h2, rfl⟩
  | e :: p, v0, ⟨v1, h1, h2⟩, h3 => ⟨v1, h1, WalkV.snoc h2 h3⟩
theorem Qt.less {H H' : Hp} {Ao Bo : AS} (q : Qt H H' Ao) (h : ∀ a, Bo a → Ao a) : Qt H H' Bo := ⟨q.s, fun a z => q.f a (h a z)⟩
theorem e_attr (ok : XOk g c k W X) {d f : Str} {a : CE} (ia : Snd g a) {e : Expr} (h : chk c (.attr d a f) e = true) : PE X e (rdE g W (qt (.attr d a f)) (ev g.G (.attr d a f))) := by
  simp only [chk] at h
  split at h
  · rename_i o x pos
    simp only [Bool.and_eq_true, decide_eq_true_eq] at h
    obtain ⟨⟨⟨⟨h1, h2⟩, h5⟩, h4⟩, h3⟩ := h
    subst h1
    obtain ⟨k0, hk0, hk⟩ := List.any_eq_true.mp h4
    simp only [Bool.and_eq_true, decide_eq_true_eq] at hk
    obtain ⟨hk1, hk2⟩ := hk
    obtain ⟨C, fI, fd, ps, c1, c2, c3, c4, _⟩ := ok.cls k0 hk0
    rw [hk1] at c1
    have cN := c4 x (by simpa using hk2)
    refine ⟨fun pins s σ H Q I ⟨F, A, ro, S, hh⟩ => ?_⟩
    refine (pe_fld (ia.E ok h3) (base2_of h2)).run pins s σ H Q I ?_
    rw [ok.kk]
    simp only [ev] at hh
    refine ⟨F, A, ro, S, hh.bind fun hd ro1 _ hh v F1 H1 A1 Ao st S1 hv hq => ?_⟩
    unfold atR at hh
    cases hd with
    | tm t =>
      cases t with
      | ins c0 ns os =>
        simp only at hh
        split at hh
        · rename_i hc
          subst hc
          split at hh
          · rename_i o1 ho
            obtain ⟨hv, dj⟩ := hv
            cases hv with
            | @ins p C' dx _ fs _ Ai q1 q2 q3 q4 q5 =>
              rw [c1] at q2
              cases q2
              obtain ⟨v', B, j1, j2, j3⟩ := ORs.getN q3 ho
              refine ⟨p, C, dx, fs, v', rfl, q1, c3, cN, j1, ?_⟩
              exact hh v' F1 H1 A1 B (st.weak fun a z => z.elim .inl fun z => .inr (.inr (j3 a z))) S1 ⟨j2, fun a z w => dj a (.inr (j3 a z)) w⟩ fun e => (hq e).less fun a z => .inr (j3 a z)
          · exact hh.elim
        · exact hh.elim
      | d _ => exact hh.elim
      | lst _ => exact hh.elim
      | dct _ _ => exact hh.elim
      | scr _ => exact hh.elim
    | sl i p =>
      simp only at hh
      split at hh
      · rename_i c0 ns os hl
        split at hh
        · rename_i hc
          subst hc
          obtain ⟨B, hB, _⟩ := hv.look S1 hl
          obtain ⟨⟨v0, w1, w2⟩, w3⟩ := hv
          cases hB with
          | @ins q C' dx _ fs _ Ai q1 q2 q3 q4 q5 =>
            rw [c1] at q2
            cases q2
            split at hh
            · rename_i y ho
              obtain ⟨v', B, j1, j2, j3⟩ := ORs.getN q3 ho
              refine ⟨q, C, dx, fs, v', rfl, q1, c3, cN, j1, ?_⟩
              cases j2 with
              | d dq => exact (hh.shift st fun z => (hq z).s).sc S1 dq
            · rename_i o1 _ ho
              obtain ⟨v', B, j1, j2, j3⟩ := ORs.getN q3 ho
              refine ⟨q, C, dx, fs, v', rfl, q1, c3, cN, j1, ?_⟩
              exact hh v' F1 H1 A1 Ao st S1 ⟨⟨v0, w1, WalkV.snoc w2 ⟨q, C, dx, fs, rfl, q1, j1⟩⟩, w3⟩ hq
            · exact hh.elim
        · exact hh.elim
      · exact hh.elim
  · cases h
theorem pass_none {P : Program} {w : World} {X : Cx} : Passes (L2.CX P w) X E0 := fun _ _ _ _ _ _ _ ⟨_, _, _, _, _, _, _, _, _, _, _, _, z⟩ => z.elim
theorem meth_eq {o : Expr} {m : Str} {apos pos : Pos} {args : List Expr} {env : Env} (hb : attributeBase o m env (eval o env) = eval o env) (hf : methodCallForm (args.length + ([] : List Keyword).length) (backTo pos (starEach args env)) (backToKw pos (keywordEach [] env)) = true) (hl : (apos.endLine == pos.line) = true) :
    eval (.Call (.Attribute o m apos) args [] pos) env = (do
      let ov ← eval o env
      standAt apos.atName
      let __x ← holding [ov] (getMethod ov m (do
        let b ← importBound o env
        pure (b.getD true)))
      match __x with
      | (f, first) => callWith pos f first (backTo pos (starEach args env)) (backToKw pos (keywordEach [] env))) := by
  rw [arm_eval_Call, hb]
  unfold methodCall
  rw [hf]
  unfold calleeOf methodCallPos
  simp only [hl, Bool.not_true, Bool.false_or, if_true]
  rfl
theorem form_of {c : CC} {env : Env} {pos : Pos} {as : CE} {es : List Expr} (h : chks c as es = true) (hl : es.length < 25) : methodCallForm (es.length + ([] : List Keyword).length) (backTo pos (starEach es env)) (backToKw pos (keywordEach [] env)) = true := by
  have few : ∀ {as : CE} {es : List Expr}, chks c as es = true → (backTo pos (starEach es env)).all (fun x => !x.1) = true := by
    intro as es
    induction es generalizing as with
    | nil => intro _; rfl
    | cons e es ih =>
      intro h
      cases as <;> simp only [chks, Bool.false_eq_true] at h
      case cons a as =>
        simp only [Bool.and_eq_true] at h
        rw [star_of h.1.1]
        show ((!false) && (backTo pos (starEach es env)).all (fun x => !x.1)) = true
        rw [ih h.2]
        rfl
  unfold methodCallForm
  rw [few h]
  simp [backToKw, keywordEach]
  omega
/-- an instance among the arguments, its tree lent: what holds at the call -/
theorem me_args {F : Hp} {H : Hp} {v : V} {o : O} {B : AS} {xs : List O} {vs : List V} (ho : OR g.K g.cl F H o v B) (hx : ORs g.K g.cl F H xs vs (fun _ => False)) : ORs g.K g.cl F H (o :: xs) (v :: vs) B :=
  (ORs.cons ho hx fun _ _ z => z).cast fun a => ⟨fun z => z.elim id False.elim, .inl⟩
theorem Post.bindAW {q qa : Bool} {F H : Hp} {A T : AS} {σ : L2.St} {Q : VK} {r : Out (List Hd)} {f : List Hd → Ro → Out Hd} {R : List V → Hp → Prop} (h : Post g W q F (fun a => A a ∨ T a) σ H (r.bind f) Q)
    (k : ∀ hd ro1, r = .ok hd ro1 → Post g W q F (fun a => A a ∨ T a) σ H (f hd ro1) Q → ∀ v F1 H1 A1 Ao, Stp F H A F1 H1 (fun a => A1 a ∨ Ao a) → SR g.K g.cl F1 A1 ro1 σ H1 → HRs g.K g.cl F1 H1 A1 σ hd v Ao → (qa = true → Qt H H1 Ao) → R v H1) : PostA g W qa F A σ H r R := by
  cases r with
  | ok hd ro1 => exact k hd ro1 rfl h
  | exc x ro1 => exact fun C F' H' A' hm s2 S => h C F' H' A' hm ((s2.frame T).weak fun a z => .inl z) S
  | stuck => exact h
/-- behind a call that had the tree B: what was held beside it -/
theorem SR.beside {F F' H H' : Hp} {A B T : AS} {ro : Ro} {σ : L2.St} (S : SR g.K g.cl F A ro σ H) (dj : ∀ a, B a → A a → False) (s : Stp F H B F' H' T) (sb : Sub F' H') : SR g.K g.cl F' A ro σ H' ∧ (∀ a, T a → A a → False) := by
  have fr : ∀ a, A a → H' a = H a := fun a z => by
    cases e : H a with
    | none => exact absurd e (S.rs.own a z).2
    | some o => exact s.kp a o e fun w => dj a w z
  refine ⟨⟨S.rs.frame s.fr fr fun a z => ?_, sb⟩, fun a x y => ?_⟩
  · cases e : F' a with
    | none => rfl
    | some o =>
      exfalso
      rcases s.nf a (by rw [e]; simp) with z2 | z2 | z2
      · exact z2 (S.rs.own a z).1
      · exact (S.rs.own a z).2 z2
      · exact dj a z2 z
  · rcases s.na a x with z | z
    · exact dj a z y
    · exact (S.rs.own a y).2 z
theorem lookup_no {fs : List (Str × V)} {m : Str} (h : (fs.map (·.1)).contains m = false) : fs.lookup m = none := by
  induction fs with
  | nil => rfl
  | cons x fs ih =>
    obtain ⟨n, w⟩ := x
    rw [List.map_cons, List.contains_cons, Bool.or_eq_false_iff] at h
    rw [List.lookup_cons, h.1]
    exact ih h.2
theorem e_meth_run {d m : Str} {f : Nat} {o as : CE} {C : Addr} {σ : L2.St} {H : Hp} {Q : VK} (c1 : g.cl d = some C) (hh : ∃ F A ro, SR g.K g.cl F A ro σ H ∧ Post g W false F A σ H (ev g.G (.meth d m f o as) ro) Q) :
    tMeth C m (PSpec g (g.G.call f)) [] E0 (rdE g W (qt o) (ev g.G o)) (rdA g W (qt as) (evs g.G as)) σ H Q := by
  obtain ⟨F, A, ro, S, hh⟩ := hh
  simp only [ev] at hh
  refine ⟨F, A, ro, S, hh.bind fun hd ro1 _ hh v F1 H1 A1 Ao st S1 hv hq => ?_⟩
  split at hh
  · rename_i hc
    obtain ⟨hc1, hc2⟩ := and2 hc
    unfold isIns at hc1
    split at hc1
    · rename_i c0 ns os hl
      simp only [Bool.and_eq_true, decide_eq_true_eq, Bool.not_eq_true'] at hc1
      obtain ⟨e1, e2⟩ := hc1
      subst e1
      obtain ⟨B, hB, _⟩ := hv.look S1 hl
      cases hB with
      | @ins p C' dx _ fs _ Ai q1 q2 q3 q4 q5 =>
        rw [c1] at q2
        cases q2
        refine ⟨p, dx, fs, rfl, q1, lookup_no e2, ?_⟩
        have hh : Post g W false F1 (fun a => A1 a ∨ Ao a) σ H1 _ Q := hh.shift (A1 := fun a => A1 a ∨ Ao a) (T := fun _ => False) st.asT (fun z => by cases z)
        refine ⟨F1, A1, ro1, S1, hh.bindAW fun hs ro2 _ hh vs F2 H2 A2 Bo st2 S2 hvs hq2 => ?_⟩
        obtain ⟨hv2, dj2⟩ := hv.step st2 (fun z => (hq2 (okD_of hc2 z)).s)
        cases q : argsO hs ro2 with
        | exc x r => exact absurd q argsO_noexc
        | stuck => rw [q] at hh; exact hh.elim
        | ok xs ro3 =>
          rw [q] at hh
          simp only [Out.bind_ok] at hh
          obtain ⟨F3, A3, S3, d3, st3, su3⟩ := argsO_ok S2 hvs q
          rw [List.append_nil]
          unfold meR at hh
          have to3 : Stp F1 H1 (fun a => A1 a ∨ Ao a) F3 H2 (fun a => A3 a ∨ Ao a) := (st2.frame Ao).trans (st3.frame Ao)
          cases hd with
          | tm o1 =>
            simp only [Hd.look] at hl
            cases hl
            obtain ⟨hv3, dj3⟩ := hv2
            have hr : HR g.K g.cl F2 H2 (fun a => A2 a ∨ Bo a) σ (.tm (.ins c0 (fs.map (·.1)) os)) (.ref p) Ao := ⟨hv3, fun a x y => y.elim (dj3 a x) (dj2 a x)⟩
            obtain ⟨⟨hv4, dj4⟩, _⟩ := hr.step st3.asT (fun z => by cases z)
            refine ⟨F3, Ao, _ :: xs, S3.sub, me_args hv4 d3, ?_⟩
            simp only at hh
            cases hr2 : g.G.call f (.ins c0 (fs.map (·.1)) os :: xs) with
            | stuck => rw [hr2] at hh; exact hh.elim
            | exc x bs => rw [hr2] at hh; exact hh.elim
            | ok o' bs =>
              rw [hr2] at hh
              intro v' F' H' Bv Ab s4 sb ho hb djb
              have s5 : Stp F3 H2 Ao F' H' Bv := s4.weak fun a z => .inl z
              obtain ⟨S5, dj5⟩ := S3.beside dj4 s5 sb
              refine hh v' F' H' A3 Bv (to3.trans (((s5.frame A3).from fun a => Or.comm).weak fun a z => z.elim .inr .inl)) S5 ⟨ho, dj5⟩ fun z => by cases z
          | sl i pth =>
            obtain ⟨⟨v0, w1, w2⟩, nAo⟩ := hv2
            simp only at hh
            split at hh
            · rename_i t ht
              split at hh
              · rename_i c2 ns2 os2 hw
                obtain ⟨B', C', hB', hBC, dBC, hup⟩ := S3.updAtF ht w1 hw w2
                refine ⟨F3, B', _ :: xs, S3.sub, me_args hB' d3, ?_⟩
                cases hr2 : g.G.call f (.ins c2 ns2 os2 :: xs) with
                | stuck => rw [hr2] at hh; exact hh.elim
                | exc x bs => rw [hr2] at hh; exact hh.elim
                | ok o' bs =>
                  rw [hr2] at hh
                  rcases bs with _ | ⟨_ | t', bs'⟩
                  · exact hh.elim
                  · exact hh.elim
                  · simp only at hh
                    intro v' F' H' Bv Ab s4 sb ho hb djb
                    cases hb with
                    | @yes _ _ _ _ A1' A2' hb1 hb2 hb3 =>
                      have own3 : ∀ a, C' a → F3 a = none ∧ H2 a ≠ none := fun a z => S3.rs.own a ((hBC a).mpr (.inr z))
                      have nT : ∀ a, (Bv a ∨ (A1' a ∨ A2' a)) → C' a → False := fun a x y => by
                        rcases s4.na a x with z | z
                        · exact dBC a z y
                        · exact (own3 a y).2 z
                      obtain ⟨t2, p1, p2⟩ := hup F' H' t' A1' s4.fr (fun a z => by
                        cases e : F' a with
                        | none => rfl
                        | some u =>
                          exfalso
                          rcases s4.nf a (by rw [e]; simp) with z2 | z2 | z2
                          · exact z2 (own3 a z).1
                          · exact (own3 a z).2 z2
                          · exact dBC a z2 z) hb1 (fun a z => by
                        cases e : H2 a with
                        | none => exact absurd e (own3 a z).2
                        | some u => exact s4.kp a u e fun w => dBC a w z) (fun a x y => nT a (.inr (.inl x)) y) sb
                      rw [p1] at hh
                      simp only at hh
                      have s5 : Stp F3 H2 B' F' H' (fun a => A1' a ∨ Bv a) := s4.weak fun a z => z.elim (fun z => .inr (.inl z)) .inl
                      have s6 : Stp F3 H2 A3 F' H' (fun a => (A1' a ∨ C' a) ∨ Bv a) := ((s5.frame C').from fun a => (hBC a).symm).weak fun a z => by
                        rcases z with (z | z) | z
                        · exact .inl (.inl z)
                        · exact .inr z
                        · exact .inl (.inr z)
                      refine hh v' F' H' (fun a => A1' a ∨ C' a) Bv (to3.trans (((s6.frame Ao).weak fun a z => .inl z))) p2 ⟨ho, fun a x y => ?_⟩ fun z => by cases z
                      rcases y with y | y
                      · exact djb a x (.inl y)
                      · exact nT a (.inl x) y
              · exact hh.elim
            · exact hh.elim
    · cases hc1
  · exact hh.elim
theorem rdE_mono {q : Bool} {f : Ro → Out Hd} {σ : L2.St} {H : Hp} {Q R : VK} (h : rdE g W q f σ H Q) (k : ∀ v H, Q v H → R v H) : rdE g W q f σ H R := by
  obtain ⟨F, A, ro, S, hh⟩ := h
  refine ⟨F, A, ro, S, ?_⟩
  cases r : f ro with
  | ok hd ro1 => rw [r] at hh; exact fun v F' H' A' Ao st S' hv hq => k _ _ (hh v F' H' A' Ao st S' hv hq)
  | exc x ro1 => rw [r] at hh; exact hh
  | stuck => rw [r] at hh; exact hh
theorem nil_at {q : Bool} {σ : L2.St} {H : Hp} {R : List V → Hp → Prop} (h : rdA g W q (evs g.G .nil) σ H R) : R [] H := by
  obtain ⟨F, A, ro, S, hh⟩ := h
  simp only [evs] at hh
  exact hh [] F H A (fun _ => False) (Stp.refl.weak fun a z => z.elim id False.elim) S ⟨rfl, fun _ z => z⟩ fun _ => Qt.refl
theorem e_meth (ok : XOk g c k W X) {d m : Str} {f : Nat} {o as : CE} (io : Snd g o) (ia : Snd g as) {e : Expr} (h : chk c (.meth d m f o as) e = true) : PE X e (rdE g W (qt (.meth d m f o as)) (ev g.G (.meth d m f o as))) := by
  simp only [chk] at h
  split at h
  · rename_i o' a apos e1 es cpos
    simp only [Bool.and_eq_true, decide_eq_true_eq] at h
    obtain ⟨⟨⟨⟨⟨⟨⟨h1, h2⟩, h3⟩, h4⟩, h5⟩, h6⟩, h7⟩, h8⟩ := h
    subst h2
    obtain ⟨k1, k2⟩ := plain_args (env := X.env) h8
    obtain ⟨k0, hk0, hk⟩ := List.any_eq_true.mp h6
    simp only [Bool.and_eq_true, decide_eq_true_eq] at hk
    obtain ⟨hk1, hk2⟩ := hk
    obtain ⟨C, fI, fdI, psI, c1, c2, c3, c4, c5, c6, c7, c8⟩ := ok.cls k0 hk0
    rw [hk1] at c1
    obtain ⟨ad, fd, ps, m1, m2, m3⟩ := c8 a f (by simpa using hk2)
    refine ⟨fun pins s σ H Q I hh => ?_⟩
    refine (pe_meth (CX := L2.CX g.P g.w) (k := k) (sp := PSpec g (g.G.call f)) (E := E0) (io.E ok h7) (by rw [ok.kk]; exact c3) (by rw [ok.kk]; exact m1) (by rw [ok.pr, ok.ww, ok.kk, ok.mm, ok.bb]; exact m2) (ok.room h1) (by rw [ok.kk]; exact m3) .nil pass_none (ia.L ok h8) k1 k2
      (meth_eq (base2_of h3) (form_of h8 (by rw [List.length_cons]; omega)) (by rw [h4]; exact beq_self_eq_true _))).run pins s σ H Q I ?_
    exact e_meth_run c1 hh
  · rename_i o' a apos cpos
    simp only [Bool.and_eq_true, decide_eq_true_eq] at h
    obtain ⟨⟨⟨⟨⟨⟨h1, h2⟩, h3⟩, h4⟩, h5⟩, h6⟩, h7⟩ := h
    subst h2
    obtain ⟨k0, hk0, hk⟩ := List.any_eq_true.mp h6
    simp only [Bool.and_eq_true, decide_eq_true_eq] at hk
    obtain ⟨hk1, hk2⟩ := hk
    obtain ⟨C, fI, fdI, psI, c1, c2, c3, c4, c5, c6, c7, c8⟩ := ok.cls k0 hk0
    rw [hk1] at c1
    obtain ⟨ad, fd, ps, m1, m2, m3⟩ := c8 a f (by simpa using hk2)
    refine ⟨fun pins s σ H Q I hh => ?_⟩
    refine (pe_meth0 (CX := L2.CX g.P g.w) (k := k) (sp := PSpec g (g.G.call f)) (E := E0) (io.E ok h7) (by rw [ok.kk]; exact c3) (by rw [ok.kk]; exact m1) (by rw [ok.pr, ok.ww, ok.kk, ok.mm, ok.bb]; exact m2) (ok.room h1) (by rw [ok.kk]; exact m3) .nil pass_none
      (meth_eq (base2_of h3) rfl (by rw [h4]; exact beq_self_eq_true _))).run pins s σ H Q I ?_
    have as_nil : as = .nil := by cases as <;> first | rfl | (simp [isNil] at h5)
    subst as_nil
    refine rdE_mono (e_meth_run c1 hh) fun v H1 z => ?_
    obtain ⟨p, dx, fs, z1, z2, z3, z4⟩ := z
    exact ⟨p, dx, fs, z1, z2, z3, nil_at z4⟩
  · cases h
theorem e_new (ok : XOk g c k W X) {d : Str} {f : Nat} {as : CE} (ia : Snd g as) {e : Expr} (h : chk c (.new d f as) e = true) : PE X e (rdE g W (qt (.new d f as)) (ev g.G (.new d f as))) := by
  simp only [chk] at h
  split at h
  · rename_i x px e1 es pos
    simp only [Bool.and_eq_true, decide_eq_true_eq] at h
    obtain ⟨⟨⟨⟨h1, h2⟩, h3⟩, h4⟩, h5⟩ := h
    subst h2
    obtain ⟨k1, k2⟩ := plain_args (env := X.env) h5
    obtain ⟨k0, hk0, hk⟩ := List.any_eq_true.mp h4
    simp only [Bool.and_eq_true, decide_eq_true_eq] at hk
    obtain ⟨hk1, hk2⟩ := hk
    obtain ⟨C, fI, fd, ps, c1, c2, c3, c4, c5, c6, c7, c8⟩ := ok.cls k0 hk0
    rw [hk1] at c1 c2
    rw [hk2] at c6
    obtain ⟨g1, g2, g3⟩ := ok.glb h3
    refine ⟨fun pins s σ H Q I hh => ?_⟩
    refine (pe_make (CX := L2.CX g.P g.w) (k := k) (C := C) (f := fI) (sp := PSpec g (g.G.call f)) (E := E0) (by rw [ok.kk]; exact c5) (by rw [ok.pr, ok.ww, ok.kk, ok.mm, ok.bb]; exact c6) (ok.room1 h1) g1 (by rw [ok.mm]; exact c2) (by rw [ok.kk]; exact c7) .nil pass_none (ia.L ok h5) g2 k1 k2).run pins s σ H Q I ?_
    obtain ⟨F, A, ro, S, hh⟩ := hh
    simp only [ev] at hh
    refine ⟨F, A, ro, S, hh.bindA fun hs ro2 _ hh vs F2 H2 A2 Bo st2 S2 hvs hq2 => ?_⟩
    cases q : argsO hs ro2 with
    | exc x r => exact absurd q argsO_noexc
    | stuck => rw [q] at hh; exact hh.elim
    | ok xs ro3 =>
      rw [q] at hh
      simp only [Out.bind_ok] at hh
      obtain ⟨F3, A3, S3, d3, st3, su3⟩ := argsO_ok S2 hvs q
      rw [List.append_nil]
      intro p dx np ndx hne
      have nF : ∀ a, H2 a = none → F3 a = none := fun a z => S3.sub.none z
      have sub1 : Sub H2 (upd (upd H2 dx (.own p)) p (.ins C dx [])) := fun b o e => by
        rw [upd_ne (ne_of_none e np), upd_ne (ne_of_none e ndx)]; exact e
      have hins : OR g.K g.cl F3 (upd (upd H2 dx (.own p)) p (.ins C dx [])) (.ins x [] []) (.ref p) (fun a => a = p ∨ False) := OR.ins (fs := []) upd_same c1 .nil (fun z => z) (nF p np)
      have d3' : ORs g.K g.cl F3 (upd (upd H2 dx (.own p)) p (.ins C dx [])) xs vs (fun _ => False) := d3.frame (.refl _) (fun _ z => z.elim) (fun _ z => z.elim)
      refine ⟨F3, _, _ :: xs, S3.sub.trans sub1, me_args hins d3', ?_⟩
      cases hr2 : g.G.call f (.ins x [] [] :: xs) with
      | stuck => rw [hr2] at hh; exact hh.elim
      | exc x bs => rw [hr2] at hh; exact hh.elim
      | ok o' bs =>
        rw [hr2] at hh
        cases o' <;> try exact hh.elim
        rename_i y
        cases y <;> try exact hh.elim
        rcases bs with _ | ⟨_ | t', bs'⟩ <;> try exact hh.elim
        cases t' <;> try exact hh.elim
        rename_i c0 ns os
        simp only at hh
        split at hh
        · rename_i hc
          subst hc
          intro v' F' H' Bv Ab s4 sb ho hb djb
          cases ho with
          | d dq =>
            refine ⟨by cases dq; rfl, ?_⟩
            cases hb with
            | @yes _ _ _ _ A1' A2' hb1 hb2 hb3 =>
              have nB : ∀ a, (a = p ∨ False) → H2 a = none := fun a z => z.elim (fun z => by rw [z]; exact np) False.elim
              have s5 : Stp F3 H2 (fun _ => False) F' H' A1' := by
                refine ⟨s4.fr, fun a o e _ => s4.kp a o (sub1 a o e) fun z => ?_, fun a z => ?_, fun a z => .inr ?_⟩
                · rw [nB a z] at e; cases e
                · rcases s4.nf a z with z | z | z
                  · exact .inl z
                  · refine .inr (.inl ?_)
                    cases e : H2 a with
                    | none => rfl
                    | some o => rw [sub1 a o e] at z; cases z
                  · exact .inr (.inl (nB a z))
                · rcases s4.na a (.inr (.inl z)) with z | z
                  · exact nB a z
                  · cases e : H2 a with
                    | none => rfl
                    | some o => rw [sub1 a o e] at z; cases z
              obtain ⟨S5, dj5⟩ := S3.beside (B := fun _ => False) (fun _ z => z.elim) s5 sb
              refine hh (.ref p) F' H' A3 A1' ((st2.trans st3).trans (((s5.frame A3).from fun a => ⟨fun z => z.elim False.elim id, .inr⟩).weak fun a z => z.elim .inr .inl)) S5 ⟨hb1, dj5⟩ fun z => by cases z
        · exact hh.elim
  · cases h
end
end Lw

set_option maxRecDepth 100000
/-! LwN: {a: b}. -/
namespace Lw
open PySem PySem.Spec PyProof.Rows L2
section
variable {X : Cx}
/-- what {a: b} is -/
def rOneN (K : PySem.W.Frag) (w : World) (p : Addr) : R2 := fun x y H Q => ∃ (F : Hp) (k : NestedKey) (b : Addr), Sub F H ∧ H p = some (dcO w p []) ∧ KeyV K F x k ∧ x = .ref b ∧ (∀ u, L2.RelV y u → Q (.ref p) (upd H p (dcO w p [(k, b, u)])))
def tOneN (K : PySem.W.Frag) (w : World) (ta tb : TE) : TE := fun σ H Q => ∀ p, H p = none → (p == sysModules) = false → tOp (rOneN K w p) ta tb σ (upd H p (dcO w p [])) Q
theorem pe_oneN (hu : X.A.units + 65 < cLine) {a b : Expr} {pos : Pos} {ta tb : TE} (ha : PE X a ta) (hb : PE X b tb) : PE X (.Dict [some a] [b] pos) (tOneN X.K X.w ta tb) := by
  refine ⟨fun pins s σ H Q I h => ?_⟩
  have hp0 := I.hok.fresh (Nat.le_refl s.heap.objs.size)
  have hsm : (s.heap.objs.size == sysModules) = false := beq_eq_false_iff_ne.mpr (Ne.symm (Nat.ne_of_lt I.big))
  have I1 := I.laid (a := s.heap.objs.size) (o := dcO X.w s.heap.objs.size []) (h' := s.heap.push { cls := .type "dict", data := .dict #[] }) (t' := s.toks) (fun _ _ q => Heap.get?_push_of_some _ q) (Nat.le_refl _) (dcO_ok (P := X.prog) (Heap.DictOfH.new s.heap))
  rw [arm_eval_Dict, zip_pairTrees [some a] [b] X.env pos rfl rfl, dictDisplay_pairs _ (by simp [pairTrees]) (by simp [pairTrees])]
  refine wpAny_bind (wpAny_standAt (wpAny_bind (wpAny_subDictH (knd := nestedKind X.prog X.w) (by show X.A.units + 8 < cLine; omega) (by simp [pairTrees]) ?_)))
  refine pairTrees_cons_walk (thn (ha.run pins _ σ _ _ I1 (h _ hp0 hsm)) fun u s1 ⟨x, H1, I2, rx, q1⟩ => thn (hb.run pins s1 σ H1 _ I2 q1) fun v s2 ⟨y, H2, I3, ry, F, k, b', sb, e, kv, ex, q2⟩ => pairTrees_nil_walk ?_)
  obtain ⟨b'', eb, rfl, hk⟩ := key_is I3 sb kv rx
  rw [eb] at ex
  cases ex
  refine ⟨[(k, b', v)], ⟨rfl, rfl, hk, trivial⟩, dc_at I3 sb e ⟨fun _ z => (nomatch z), List.nodup_nil, Nat.zero_le _, hsm⟩, fun h' tk D' hs => wpAny_pure ⟨.ref s.heap.objs.size, _, ?_, rfl, q2 v ry⟩⟩
  exact d_write I3 (by rw [e]; trivial) hs (by obtain ⟨o, _, _, h1, _⟩ := D'; exact ⟨o, h1⟩) (dcO_ok D')
end
section
variable {g : Gx} {c : CC} {k : Nat} {W : WX} {X : Cx}
theorem e_mv (ok : XOk g c k W X) {i : Nat} {e : Expr} (h : chk c (.mv i) e = true) : PE X e (rdE g W (qt (.mv i)) (ev g.G (.mv i))) := by
  simp only [chk] at h
  split at h
  · simp only [Bool.and_eq_true, decide_eq_true_eq, Bool.not_eq_true'] at h
    obtain ⟨⟨⟨h1, h2⟩, h3⟩, h4⟩ := h
    refine ⟨fun pins s σ H Q I ⟨F, A, ro, S, hh⟩ => ?_⟩
    refine (pe_var (i := i) (by rw [ok.hN]; exact h1) (ok.vis h2) h3 h4).run pins s σ H Q I ?_
    simp only [ev] at hh
    split at hh
    · rename_i o ho
      obtain ⟨v, Ai, B, k1, k2, k3, k4, k5⟩ := S.rs.out ho
      exact ⟨v, k1, hh v F H B Ai (Stp.refl.weak fun a z => (k5 a).mpr z.symm) ⟨k3, S.sub⟩ ⟨k2, k4⟩ fun z => by cases z⟩
    · exact hh.elim
  · cases h
theorem e_fr (ok : XOk g c k W X) {i : Nat} {e : Expr} (h : chk c (.fr i) e = true) : PE X e (rdE g W (qt (.fr i)) (ev g.G (.fr i))) := by
  simp only [chk] at h
  split at h
  · simp only [Bool.and_eq_true, decide_eq_true_eq, Bool.not_eq_true'] at h
    obtain ⟨⟨⟨h1, h2⟩, h3⟩, h4⟩ := h
    refine ⟨fun pins s σ H Q I ⟨F, A, ro, S, hh⟩ => ?_⟩
    refine (pe_var (i := i) (by rw [ok.hN]; exact h1) (ok.vis h2) h3 h4).run pins s σ H Q I ?_
    simp only [ev] at hh
    cases q : Hd.esc (.sl i []) ro with
    | exc x r => exact absurd q esc_noexc
    | stuck => rw [q] at hh; exact hh.elim
    | ok x ro2 =>
      rw [q] at hh
      simp only [Out.bind_ok] at hh
      cases ho : ro[i]? with
      | none => simp only [Hd.esc, ho] at q; cases q
      | some z =>
        cases z with
        | none => simp only [Hd.esc, ho] at q; cases q
        | some o =>
          obtain ⟨v, Ai, B, k1, k2, k3, k4, k5⟩ := S.rs.out ho
          have hv : HR g.K g.cl F H A σ (.sl i []) v (fun _ => False) := ⟨⟨v, k1, rfl⟩, fun _ z => z⟩
          obtain ⟨F2, A2, S2, dq, st2, su2⟩ := hv.esc S q
          exact ⟨v, k1, hh v F2 H A2 (fun _ => False) ((st2.from fun a => ⟨fun z => z.elim id False.elim, .inl⟩).asT) S2 ⟨⟨v, k1, rfl⟩, fun _ z => z⟩ fun z => by cases z⟩
  · cases h
theorem ORs.getI {K : PySem.W.Frag} {cl : ClW} {F H : Hp} : ∀ {os : List O} {vs : List V} {A : AS} {k : Nat} {o : O}, ORs K cl F H os vs A → os[k]? = some o → ∃ v B, vs[k]? = some v ∧ OR K cl F H o v B
  | _, _, _, _, _, .nil, e => by simp at e
  | _, _, _, 0, _, .cons h t n, e => by simp at e; subst e; exact ⟨_, _, rfl, h⟩
  | _, _, _, k + 1, _, .cons h t n, e => ORs.getI (k := k) t (by simpa using e)
theorem e_at (ok : XOk g c k W X) {a b : CE} (ia : Snd g a) (ib : Snd g b) {e : Expr} (h : chk c (.at_ a b) e = true) : PE X e (rdE g W (qt (.at_ a b)) (ev g.G (.at_ a b))) := by
  simp only [chk] at h
  split at h
  · simp only [Bool.and_eq_true] at h
    obtain ⟨⟨h2, h3⟩, h4⟩ := h
    refine ⟨fun pins s σ H Q I hh => ?_⟩
    simp only [ev] at hh
    refine (pe_ix ix_list (ia.E ok h2) (ib.E ok h3) (ix_of h4)).run pins s σ H Q I ?_
    refine two_of (q := qt (.at_ a b)) (fin := fun h1 h2 ro => itR h1 (h2.lookD ro) ro) (fun z => (and2 z).1) (fun z => (and2 z).2) (fun F A ro H1 x y h1 h2 B1 B2 S r1 r2 hh => ?_) hh
    unfold itR at hh
    cases h1 with
    | tm _ => exact hh.elim
    | sl j p =>
      simp only at hh
      split at hh
      · rename_i os hl
        obtain ⟨B, hB, _⟩ := r1.look S hl
        obtain ⟨⟨v0, w1, w2⟩, w3⟩ := r1
        split at hh
        · rename_i n hn
          obtain rfl := (r2.lookD S hn).int_eq
          split at hh
          · rename_i k0 hk
            cases hB with
            | @lst q vs _ _ q1 q2 q3 q4 =>
              have len : os.length = vs.length := q2.len
              split at hh
              · rename_i z hz
                obtain ⟨v', B', j1, j2⟩ := q2.getI hz
                refine ⟨q, vs, n, v', rfl, rfl, SqL.of q1, ?_, ?_⟩
                · unfold atI
                  have e2 : ixN vs.length n = ixD vs.length n := rfl
                  rw [e2, ← len, hk]
                  exact j1
                · cases j2 with
                  | d dq => exact hh.sc S dq
              · rename_i o1 _ hz
                obtain ⟨v', B', j1, j2⟩ := q2.getI hz
                refine ⟨q, vs, n, v', rfl, rfl, SqL.of q1, ?_, ?_⟩
                · unfold atI
                  have e2 : ixN vs.length n = ixD vs.length n := rfl
                  rw [e2, ← len, hk]
                  exact j1
                · exact hh v' F H1 A (fun _ => False) Stp.refl.asT S ⟨⟨v0, w1, WalkV.snoc w2 ⟨q, vs, rfl, q1, j1⟩⟩, fun _ z => z⟩ fun _ => Qt.refl
              · exact hh.elim
          · exact hh.elim
        · exact hh.elim
      · exact hh.elim
  · cases h
theorem Post.bindW {q qa : Bool} {F H : Hp} {A T : AS} {σ : L2.St} {Q R : VK} {r : Out Hd} {f : Hd → Ro → Out Hd} (h : Post g W q F (fun a => A a ∨ T a) σ H (r.bind f) Q)
    (k : ∀ hd ro1, r = .ok hd ro1 → Post g W q F (fun a => A a ∨ T a) σ H (f hd ro1) Q → ∀ v F1 H1 A1 Ao, Stp F H A F1 H1 (fun a => A1 a ∨ Ao a) → SR g.K g.cl F1 A1 ro1 σ H1 → HR g.K g.cl F1 H1 A1 σ hd v Ao → (qa = true → Qt H H1 Ao) → R v H1) : Post g W qa F A σ H r R := by
  cases r with
  | ok hd ro1 => exact k hd ro1 rfl h
  | exc x ro1 => exact fun C F' H' A' hm s2 S => h C F' H' A' hm ((s2.frame T).weak fun a z => .inl z) S
  | stuck => exact h
theorem e_done (ok : XOk g c k W X) {a b : CE} (ia : Snd g a) (ib : Snd g b) {e : Expr} (h : chk c (.done a b) e = true) : PE X e (rdE g W (qt (.done a b)) (ev g.G (.done a b))) := by
  simp only [chk] at h
  split at h
  · simp only [Bool.and_eq_true] at h
    obtain ⟨h2, h3⟩ := h
    refine ⟨fun pins s σ H Q I ⟨F, A, ro, S, hh⟩ => ?_⟩
    simp only [ev] at hh
    refine (pe_oneN ok.hu (ia.E ok h2) (ib.E ok h3)).run pins s σ H Q I fun p hp hs => ?_
    rw [ok.kk, ok.ww, ← ok.cw]
    obtain ⟨S1, st, fp, na⟩ := S.newO (ob := dcO g.cl.w p []) hp
    have hh := hh.shift (A1 := fun a => A a ∨ a = p) (T := fun _ => False) ⟨st.fr, st.kp, st.nf, fun a z => z.elim (fun z => z.elim (fun z => st.na a z) fun z => .inr (by rw [z]; exact hp)) False.elim⟩ (fun z => by cases z)
    refine ⟨F, A, ro, S1, hh.bindW fun h1 ro1 _ hh v F1 H1 A1 Ao st1 S2 hv hq1 => ?_⟩
    have hh := hh.shift (A1 := fun a => A1 a ∨ a = p) (T := Ao) ((st1.frame (fun a => a = p)).weak fun a z => z.elim (fun z => z.elim (fun z => .inl (.inl z)) .inr) fun z => .inl (.inr z)) (fun z => by cases z)
    split at hh
    case isFalse => exact hh.elim
    rename_i c1
    refine ⟨F1, A1, ro1, S2, hh.bindW fun h2 ro2 _ hh w F2 H2 A2 Bo st2 S3 hw hq2 => ?_⟩
    have hh := hh.shift (A1 := fun a => A2 a ∨ a = p) (T := Bo) ((st2.frame (fun a => a = p)).weak fun a z => z.elim (fun z => z.elim (fun z => .inl (.inl z)) .inr) fun z => .inl (.inr z)) (fun z => by cases z)
    obtain ⟨hv2, _⟩ := hv.step st2 (fun z => (hq2 (okD_of c1 z)).s)
    split at hh
    case h_2 => exact hh.elim
    rename_i x y ex ey
    split at hh
    case h_2 => exact hh.elim
    rename_i kk hk
    obtain ⟨B1, hB1, _⟩ := hv2.look S3 ex
    obtain ⟨B2, hB2, _⟩ := hw.look S3 ey
    have dx : Dq g.K F2 v x := by cases hB1 with | d z => exact z
    have dy : Dq g.K F2 w y := by cases hB2 with | d z => exact z
    have kv := keyV_of hk dx
    obtain ⟨⟨b, rfl⟩, kd, kdep⟩ := id kv
    obtain ⟨ke, _⟩ := keyT_of hk
    -- the new dict lies beside all
    have n1 : ¬ A1 p := fun z => (st1.na p (.inl z)).elim na fun z => by rw [upd_same] at z; cases z
    have h1p : H1 p = some (dcO g.cl.w p []) := st1.kp p _ upd_same na
    have f1p : F1 p = none := by
      cases e : F1 p with
      | none => rfl
      | some u =>
        exfalso
        rcases st1.nf p (by rw [e]; simp) with z | z | z
        · exact z fp
        · rw [upd_same] at z; cases z
        · exact na z
    have n2 : ¬ A2 p := fun z => (st2.na p (.inl z)).elim n1 fun z => by rw [h1p] at z; cases z
    have h2p : H2 p = some (dcO g.cl.w p []) := st2.kp p _ h1p n1
    have f2p : F2 p = none := by
      cases e : F2 p with
      | none => rfl
      | some u =>
        exfalso
        rcases st2.nf p (by rw [e]; simp) with z | z | z
        · exact z f1p
        · rw [h1p] at z; cases z
        · exact n1 z
    refine ⟨F2, kk, b, S3.sub, h2p, kv, rfl, fun u ru => ?_⟩
    have s5 : Stp F2 H2 (fun a => a = p) F2 (upd H2 p (dcO g.cl.w p [(kk, b, u)])) (fun a => a = p) :=
      ⟨.refl _, fun a o e n => by rw [upd_ne n]; exact e, fun a z => .inl z, fun a z => .inl z⟩
    have sb : Sub F2 (upd H2 p (dcO g.cl.w p [(kk, b, u)])) := fun a o e => by
      rw [upd_ne fun e2 => by rw [e2, f2p] at e; cases e]
      exact S3.sub a o e
    obtain ⟨S5, _⟩ := S3.beside (fun a e w => by subst e; exact n2 w) s5 sb
    have ro5 : OR g.K g.cl F2 (upd H2 p (dcO g.cl.w p [(kk, b, u)])) (.dct ([(kk, b, u)].map (·.1.data)) [.d y]) (.ref p) (fun a => a = p ∨ (False ∨ False)) :=
      OR.dct upd_same ⟨fun z hz => by rw [List.mem_singleton.mp hz]; exact ⟨kd, kdep⟩, .cons ru .nil, by simp, by rw [List.length_singleton, sizeLine_eq]; omega, hs⟩ (.cons (.d dy) .nil fun _ z => z.elim) (fun z => z.elim id id) f2p
    have ek : [(kk, b, u)].map (·.1.data) = [x] := by rw [← ke]; rfl
    rw [ek] at ro5
    refine hh _ F2 _ A2 _ ⟨.refl _, fun a o e n => ?_, fun a z => .inl z, fun a z => ?_⟩ S5 ⟨ro5, fun a x y => ?_⟩ fun z => by cases z
    · rw [upd_ne fun e2 => n (.inr e2)]; exact e
    · rcases z with z | z | z
      · exact .inl (.inl z)
      · exact .inl (.inr z)
      · exact (z.elim id id).elim
    · rcases x with x | x
      · subst x; exact n2 y
      · exact x.elim id id
  · cases h
end
end Lw

set_option maxRecDepth 100000
/-! LwS: methods of lists; all expressions. -/
namespace Lw
open PySem L2 RZ
section
variable {g : Gx} {c : CC} {k : Nat} {W : WX} {X : Cx}
theorem base_of {o : Expr} {a : Str} {env : Env} {w : Sem Value} (h : baseB o = true) : attributeBase o a env w = w := by
  cases o <;> first | rfl | cases h
theorem few_of {c : CC} {env : Env} {pos : Pos} : ∀ {as : CE} {es : List Expr}, chks c as es = true → (backTo pos (starEach es env)).all (fun x => !x.1) = true
  | as, [], _ => rfl
  | as, e :: es, h => by
    cases as <;> simp only [chks, Bool.false_eq_true] at h
    case cons a as =>
      simp only [Bool.and_eq_true] at h
      rw [star_of h.1.1]
      show ((!false) && (backTo pos (starEach es env)).all (fun x => !x.1)) = true
      rw [few_of h.2]
      rfl
theorem ORs.append {K : PySem.W.Frag} {cl : ClW} {F H : Hp} : ∀ {os ps : List O} {vs ws : List V} {A B : AS}, ORs K cl F H os vs A → ORs K cl F H ps ws B → (∀ a, A a → B a → False) → ORs K cl F H (os ++ ps) (vs ++ ws) (fun a => A a ∨ B a)
  | _, _, _, _, _, _, .nil, h, n => h.cast fun a => by simp
  | _, _, _, _, _, _, .cons h1 t n1, h, n => by
    refine (ORs.cons h1 (ORs.append t h fun a x y => n a (.inr x) y) fun a x y => y.elim (n1 a x) fun y => n a (.inl x) y).cast fun a => ?_
    constructor
    · rintro (z | z | z)
      · exact .inl (.inl z)
      · exact .inl (.inr z)
      · exact .inr z
    · rintro ((z | z) | z)
      · exact .inl z
      · exact .inr (.inl z)
      · exact .inr (.inr z)
/-- what the list's method does to the list at l -/
def rMt : Mt → V → List V → Hp → VK → Prop
  | .append => rAppend
  | .extend => rExtend
  | .pop => fun _ _ _ _ => False
theorem mt_run (m : Mt) (hm : m ≠ .pop) {o e : Expr} {es : List Expr} {to : TE} {t : TA} {apos cpos : Pos} (ho : PE X o to) (ha : PA X (e :: es) t) (hbase : attributeBase o m.nm X.env (eval o X.env) = eval o X.env)
    (hfew : ((backTo cpos (starEach (e :: es) X.env)).all (fun x => !x.1) && (backToKw cpos (keywordEach [] X.env)).all (fun x => x.1.isSome) && decide ((e :: es).length + ([] : List Keyword).length + (if ([] : List Keyword).isEmpty then 0 else 1) < 30)) = true)
    (hline : (apos.endLine == cpos.line) = true) (hs : starEach (e :: es) X.env = (false, eval e X.env) :: starEach es X.env) (hplain : (backTo cpos (starEach es X.env)).any (·.1) = false) :
    PE X (.Call (.Attribute o m.nm apos) (e :: es) [] cpos) (tBM X.K "list" (rMt m) to t) := by
  cases m with
  | append => exact pe_bm F.plainAttrs_list F.slot_list_append F.type_list_append mt_append ho ha hbase hfew hline hs hplain
  | extend => exact pe_bm F.plainAttrs_list F.slot_list_extend F.type_list_extend mt_extend ho ha hbase hfew hline hs hplain
  | pop => exact absurd rfl hm
theorem isLst_of {o : Option O} (h : isLst o = true) : ∃ os, o = some (.lst os) := by
  unfold isLst at h
  split at h
  · exact ⟨_, rfl⟩
  · cases h
/-- a list of trees gets more at its end -/
theorem OR.more {K : PySem.W.Frag} {cl : ClW} {F H : Hp} {B By : AS} {os ps : List O} {l : Addr} {ws : List V} (h : OR K cl F H (.lst os) (.ref l) B) (hp : ORs K cl F H ps ws By) (dj : ∀ a, B a → By a → False) :
    ∃ vs, H l = some (.lst vs) ∧ vs.length = os.length ∧ B l ∧ F l = none ∧ OR K cl F (upd H l (.lst (vs ++ ws))) (.lst (os ++ ps)) (.ref l) (fun a => B a ∨ By a) := by
  cases h with
  | @lst p vs os A0 h1 h2 h3 h4 =>
    have nB : ∀ a, By a → a ≠ l := fun a z e => by subst e; exact dj _ (.inl rfl) z
    have nA : ∀ a, A0 a → a ≠ l := fun a z e => by subst e; exact h3 z
    refine ⟨vs, h1, h2.len.symm, .inl rfl, h4, (OR.lst upd_same ((h2.frame (.refl _) (fun a z => upd_ne (nA a z)) fun a z => (h2.own a z).1).append (hp.frame (.refl _) (fun a z => upd_ne (nB a z)) fun a z => (hp.own a z).1) fun a x y => dj a (.inr x) y) (fun z => z.elim h3 fun z => nB l z rfl) h4).cast fun a => ?_⟩
    constructor
    · rintro (z | z | z)
      · exact .inl (.inl z)
      · exact .inl (.inr z)
      · exact .inr z
    · rintro ((z | z) | z)
      · exact .inl z
      · exact .inr (.inl z)
      · exact .inr (.inr z)
theorem pop_run {o : Expr} {to : TE} {apos cpos : Pos} (ho : PE X o to) (hbase : attributeBase o "pop" X.env (eval o X.env) = eval o X.env) (hline : (apos.endLine == cpos.line) = true) :
    PE X (.Call (.Attribute o "pop" apos) [] [] cpos) (tBM0 X.K "list" rPop to) := pe_bm0 F.plainAttrs_list F.slot_list_pop F.type_list_pop mt_pop ho hbase hline
theorem ORs.splitA {K : PySem.W.Frag} {cl : ClW} {F H : Hp} : ∀ {os ps : List O} {vs : List V} {A : AS}, ORs K cl F H (os ++ ps) vs A → ∃ vs1 vs2 A1 A2, vs = vs1 ++ vs2 ∧ ORs K cl F H os vs1 A1 ∧ ORs K cl F H ps vs2 A2 ∧ (∀ a, A1 a → A2 a → False) ∧ ∀ a, A a ↔ A1 a ∨ A2 a
  | [], ps, vs, A, h => ⟨[], vs, _, A, rfl, .nil, h, fun _ z _ => z, fun a => by simp⟩
  | o :: os, ps, vs, A, h => by
    rw [List.cons_append] at h
    cases h with
    | @cons _ _ v vs _ B h t n =>
      obtain ⟨v1, v2, A1, A2, e, h1, h2, dj, hA⟩ := ORs.splitA t
      subst e
      refine ⟨v :: v1, v2, _, A2, rfl, .cons h h1 (fun a x y => n a x ((hA a).mpr (.inl y))), h2, fun a x y => ?_, fun a => ?_⟩
      · exact x.elim (fun x => n a x ((hA a).mpr (.inr y))) fun x => dj a x y
      · constructor
        · rintro (z | z)
          · exact .inl (.inl z)
          · exact ((hA a).mp z).elim (fun z => .inl (.inr z)) .inr
        · rintro ((z | z) | z)
          · exact .inl z
          · exact .inr ((hA a).mpr (.inl z))
          · exact .inr ((hA a).mpr (.inr z))
/-- a list of trees loses its last -/
theorem OR.less {K : PySem.W.Frag} {cl : ClW} {F H : Hp} {B : AS} {os : List O} {o : O} {l : Addr} (h : OR K cl F H (.lst (os ++ [o])) (.ref l) B) :
    ∃ vs y B1 By, H l = some (.lst vs) ∧ vs[vs.length - 1]? = some y ∧ B l ∧ F l = none ∧ OR K cl F (upd H l (.lst vs.dropLast)) (.lst os) (.ref l) B1 ∧ OR K cl F (upd H l (.lst vs.dropLast)) o y By ∧ (∀ a, B1 a → By a → False) ∧ (∀ a, B a ↔ B1 a ∨ By a) := by
  cases h with
  | @lst p vs _ A0 h1 h2 h3 h4 =>
    obtain ⟨v1, v2, A1, A2, e, k1, k2, dj, hA⟩ := ORs.splitA h2
    subst e
    cases k2 with
    | @cons _ _ y _ Ay _ k t n =>
      cases t
      have n1 : ∀ a, A1 a → a ≠ l := fun a z e => by subst e; exact h3 ((hA _).mpr (.inl z))
      have n2 : ∀ a, Ay a → a ≠ l := fun a z e => by subst e; exact h3 ((hA _).mpr (.inr (.inl z)))
      refine ⟨v1 ++ [y], y, fun a => a = l ∨ A1 a, Ay, h1, by simp, .inl rfl, h4, ?_, k.frame (.refl _) (fun a z => upd_ne (n2 a z)) (fun a z => (k.own a z).1), fun a x z => ?_, fun a => ?_⟩
      · have hd : (v1 ++ [y]).dropLast = v1 := by simp
        rw [hd]
        exact OR.lst upd_same (k1.frame (.refl _) (fun a z => upd_ne (n1 a z)) fun a z => (k1.own a z).1) (fun z => n1 _ z rfl) h4
      · rcases x with x | x
        · exact n2 a z x
        · exact dj a x (.inl z)
      · constructor
        · rintro (z | z)
          · exact .inl (.inl z)
          · rcases (hA a).mp z with z | z
            · exact .inl (.inr z)
            · exact .inr (z.elim id False.elim)
        · rintro ((z | z) | z)
          · exact .inl z
          · exact .inr ((hA a).mpr (.inl z))
          · exact .inr ((hA a).mpr (.inr (.inl z)))
theorem e_mth (ok : XOk g c k W X) {m : Mt} {o as : CE} (io : Snd g o) (ia : Snd g as) {e : Expr} (h : chk c (.mth m o as) e = true) : PE X e (rdE g W (qt (.mth m o as)) (ev g.G (.mth m o as))) := by
  simp only [chk] at h
  split at h
  · simp only [Bool.and_eq_true, decide_eq_true_eq] at h
    obtain ⟨⟨⟨⟨⟨⟨h0, h1⟩, h2⟩, h3⟩, h4⟩, h5⟩, h6⟩ := h
    subst h1
    obtain ⟨k1, k2⟩ := plain_args (env := X.env) h6
    refine ⟨fun pins s σ H Q I ⟨F, A, ro, S, hh⟩ => ?_⟩
    refine (mt_run m h0 (io.E ok h5) (ia.L ok h6) (base_of h2) ?_ (by rw [h3]; exact beq_self_eq_true _) k1 k2).run pins s σ H Q I ?_
    · rw [few_of h6]
      simp [backToKw, keywordEach]
      omega
    simp only [ev] at hh
    refine ⟨F, A, ro, S, hh.bind fun hd ro1 _ hh v F1 H1 A1 Ao st S1 hv hq => ?_⟩
    cases hd with
    | tm x => exact hh.elim
    | sl i p =>
      simp only at hh
      split at hh
      · rename_i hc
        obtain ⟨hc1, hc2⟩ := and2 hc
        obtain ⟨os0, hl⟩ := isLst_of hc1
        refine ⟨?_, ?_⟩
        · obtain ⟨B, hB, _⟩ := hv.look S1 hl
          cases hB with
          | lst q1 q2 q3 q4 => exact .inl ⟨rfl, _, SqL.of q1⟩
        · have hh := hh.shift st (fun z => by cases z)
          refine ⟨F1, A1, ro1, S1, hh.bindA fun hs ro2 _ hh vs F2 H2 A2 Bo st2 S2 hvs hq2 => ?_⟩
          have hv2 := (hv.step st2 (fun z => (hq2 (okD_of hc2 z)).s)).1
          cases q : stos hs ro2 with
          | exc x r => exact absurd q stos_noexc
          | stuck => rw [q] at hh; exact hh.elim
          | ok xs ro3 =>
            rw [q] at hh
            simp only [Out.bind_ok] at hh
            obtain ⟨F3, A3, B3, S3, ho, dj, st3, su3, sb3⟩ := stos_ok S2 hvs q
            unfold mthR at hh
            split at hh
            · rename_i t ht
              split at hh
              · rename_i os hw
                split at hh
                · rename_i r os' hm
                  split at hh
                  · rename_i t' hp
                    obtain ⟨⟨v0, hv0, hwk⟩, _⟩ := hv2
                    obtain ⟨B, C, hB, hBC, dBC, hup⟩ := S3.updAt ht hv0 hw hwk
                    -- what is common: more trees ps at the end
                    have key : ∀ {ps : List O} {ws : List V} {By : AS} {l : Addr}, v = .ref l → os' = os ++ ps → ORs g.K g.cl F3 H2 ps ws By → (∀ a, By a → B3 a) → ∃ vs0, H2 l = some (.lst vs0) ∧ vs0.length = os.length ∧ ∃ A4, SR g.K g.cl F3 A4 (ro3.set i (some t')) σ (upd H2 l (.lst (vs0 ++ ws))) ∧ Stp F2 H2 (fun a => A2 a ∨ Bo a) F3 (upd H2 l (.lst (vs0 ++ ws))) A4 := by
                      intro ps ws By l ev eo hps hby
                      subst ev; subst eo
                      obtain ⟨vs0, j1, j2, j3, j4, j5⟩ := OR.more hB hps fun a x y => dj a (hby a y) ((hBC a).mpr (.inl x))
                      have lA : A3 l := (hBC l).mpr (.inl j3)
                      obtain ⟨o', p1, p2⟩ := hup _ _ _ j5 (fun a z => upd_ne fun e => by subst e; exact dBC _ j3 z) (fun a x y => x.elim (fun x => dBC a x y) fun x => dj a (hby a x) ((hBC a).mpr (.inr y))) (fun a o e => by
                        rw [upd_ne fun e2 => by rw [e2, j4] at e; cases e]
                        exact S3.sub a o e)
                      rw [hp] at p1
                      cases p1
                      refine ⟨vs0, j1, j2, _, p2, st3.trans ⟨.refl _, fun a o e n => ?_, fun a z => .inl z, fun a z => ?_⟩⟩
                      · rw [upd_ne fun e2 => n (.inl (by rw [e2]; exact lA))]
                        exact e
                      · rcases z with (z | z) | z
                        · exact .inl (.inl ((hBC a).mpr (.inl z)))
                        · exact .inl (.inr (hby a z))
                        · exact .inl (.inl ((hBC a).mpr (.inr z)))
                    have hvl : ∃ l, v = .ref l := by cases hB with | lst _ _ _ _ => exact ⟨_, rfl⟩
                    obtain ⟨l, rfl⟩ := hvl
                    have fin : ∀ {H4 : Hp} {A4 : AS}, r = .d .none → SR g.K g.cl F3 A4 (ro3.set i (some t')) σ H4 → Stp F2 H2 (fun a => A2 a ∨ Bo a) F3 H4 A4 → Q .non H4 := by
                      intro H4 A4 er S4 st4
                      subst er
                      exact (hh.shift (st2.trans st4).asT fun z => by cases z).sc S4 .non
                    unfold mthL at hm
                    split at hm
                    · -- append
                      split at hm
                      · rename_i hlen
                        cases hm
                        cases ho with
                        | cons o1 t1 n1 =>
                          cases t1
                          obtain ⟨vs0, j1, j2, A4, S4, st4⟩ := key rfl rfl (ORs.cons o1 .nil fun _ _ z => z) fun a z => z
                          have := lenOk_le hlen
                          exact ⟨l, vs0, _, rfl, rfl, j1, by omega, fin rfl S4 st4⟩
                      · cases hm
                    · -- extend by a list of trees
                      split at hm
                      · rename_i hlen
                        cases hm
                        cases ho with
                        | @cons _ _ _ _ Ay Az o1 t1 n1 =>
                          cases t1
                          cases o1 with
                          | @lst b zs es A0 z1 z2 z3 z4 =>
                            obtain ⟨vs0, j1, j2, A4, S4, st4⟩ := key rfl rfl z2 fun a z => .inl (.inr z)
                            have := lenOk_le hlen
                            have zl := z2.len
                            exact ⟨l, b, vs0, zs, rfl, rfl, j1, z1, by omega, fin rfl S4 st4⟩
                      · cases hm
                    · -- extend by a list of data
                      split at hm
                      · rename_i hlen
                        cases hm
                        cases ho with
                        | @cons _ _ _ _ Ay Az o1 t1 n1 =>
                          cases t1
                          cases o1 with
                          | d dq =>
                            obtain ⟨b, zs, rfl, z1, z2⟩ := dq.lst_eq
                            obtain ⟨vs0, j1, j2, A4, S4, st4⟩ := key rfl rfl (ORs.ofData z2) fun a z => z.elim
                            have := lenOk_le hlen
                            have zl := z2.len
                            exact ⟨l, b, vs0, zs, rfl, rfl, j1, S3.sub _ _ z1, by omega, fin rfl S4 st4⟩
                      · cases hm
                    · exact absurd rfl h0
                    · cases hm
                  · exact hh.elim
                · exact hh.elim
              · exact hh.elim
            · exact hh.elim
      · exact hh.elim
  · simp only [Bool.and_eq_true, decide_eq_true_eq] at h
    obtain ⟨⟨⟨⟨⟨h0, hn⟩, h1⟩, h2⟩, h3⟩, h5⟩ := h
    subst h0
    subst h1
    cases as <;> first | (cases hn; done) | skip
    refine ⟨fun pins s σ H Q I ⟨F, A, ro, S, hh⟩ => ?_⟩
    refine (pop_run (io.E ok h5) (base_of h2) (by rw [h3]; exact beq_self_eq_true _)).run pins s σ H Q I ?_
    simp only [ev] at hh
    refine ⟨F, A, ro, S, hh.bind fun hd ro1 _ hh v F1 H1 A1 Ao st S1 hv hq => ?_⟩
    cases hd with
    | tm x => exact hh.elim
    | sl i p =>
      simp only at hh
      split at hh
      · rename_i hc
        obtain ⟨hc1, hc2⟩ := and2 hc
        obtain ⟨os0, hl⟩ := isLst_of hc1
        refine ⟨?_, ?_⟩
        · obtain ⟨B, hB, _⟩ := hv.look S1 hl
          cases hB with
          | lst q1 q2 q3 q4 => exact .inl ⟨rfl, _, SqL.of q1⟩
        · have hh := hh.shift st (fun z => by cases z)
          simp only [evs, stos, Out.bind_ok] at hh
          unfold mthR at hh
          split at hh
          · rename_i t ht
            split at hh
            · rename_i os hw
              split at hh
              · rename_i r os' hm
                split at hh
                · rename_i t' hp
                  obtain ⟨⟨v0, hv0, hwk⟩, _⟩ := hv
                  obtain ⟨B, C, hB, hBC, dBC, hup⟩ := S1.updAt ht hv0 hw hwk
                  simp only [mthL] at hm
                  cases e : os.getLast? with
                  | none => rw [e] at hm; cases hm
                  | some o1 =>
                    rw [e] at hm
                    simp only [Option.map_some, Option.some.injEq, Prod.mk.injEq] at hm
                    obtain ⟨rfl, rfl⟩ := hm
                    obtain ⟨os1, rfl⟩ := List.getLast?_eq_some_iff.mp e
                    have ed : (os1 ++ [o1]).dropLast = os1 := by simp
                    rw [ed] at hp
                    have hvl : ∃ l, v = .ref l := by cases hB with | lst _ _ _ _ => exact ⟨_, rfl⟩
                    obtain ⟨l, rfl⟩ := hvl
                    obtain ⟨vs0, y, B1, By, j1, j2, j3, j4, j5, j6, j7, j8⟩ := OR.less hB
                    obtain ⟨o', p1, p2⟩ := hup _ _ _ j5 (fun a z => upd_ne fun e => by subst e; exact dBC _ j3 z) (fun a x y => dBC a ((j8 a).mpr (.inl x)) y) (fun a o e => by
                      rw [upd_ne fun e2 => by rw [e2, j4] at e; cases e]
                      exact S1.sub a o e)
                    rw [hp] at p1
                    cases p1
                    refine ⟨l, vs0, y, rfl, rfl, j1, j2, ?_⟩
                    refine hh y F1 (upd H1 l (.lst vs0.dropLast)) (fun a => B1 a ∨ C a) By ⟨.refl _, fun a o e n => ?_, fun a z => .inl z, fun a z => ?_⟩ p2 ⟨j6, fun a x z => ?_⟩ fun z => by cases z
                    · rw [upd_ne fun e2 => n (by rw [e2]; exact (hBC l).mpr (.inl j3))]
                      exact e
                    · rcases z with (z | z) | z
                      · exact .inl ((hBC a).mpr (.inl ((j8 a).mpr (.inl z))))
                      · exact .inl ((hBC a).mpr (.inr z))
                      · exact .inl ((hBC a).mpr (.inl ((j8 a).mpr (.inr z))))
                    · rcases z with z | z
                      · exact j7 a z x
                      · exact dBC a ((j8 a).mpr (.inr x)) z
                · exact hh.elim
              · exact hh.elim
            · exact hh.elim
          · exact hh.elim
      · exact hh.elim
  · cases h
theorem rgV_dq {K : PySem.W.Frag} {F : Hp} (i j : Int) : DqAll K F (rgV i j) (rangeD i j) := by
  unfold rgV rangeD
  induction List.range (j - i).toNat with
  | nil => exact .nil
  | cons n ns ih => exact .cons (.int _) ih
/-- a new tuple, list of ints -/
theorem rgl_fin {q t : Bool} {F : Hp} {A : AS} {σ : L2.St} {H : Hp} {Q : VK} {i j : Int} {ro : Ro} (S : SR g.K g.cl F A ro σ H) (hh : Post g W q F A σ H (.ofOpt (rglO t i j) ro) Q) :
    RgOk i j ∧ ∀ p, H p = none → Q (.ref p) (upd H p (if t = true then .tup (rgV i j) else .lst (rgV i j))) := by
  obtain ⟨hd, ho, hh⟩ := hh.ofOpt
  unfold rglO at ho
  split at ho
  · rename_i hc
    cases ho
    refine ⟨hc, fun p hp => ?_⟩
    cases t with
    | true =>
      simp only [if_true] at hh ⊢
      exact hh.res S (.inr ⟨p, _, rfl, hp, rfl, rgV_dq i j⟩)
    | false =>
      simp only [Bool.false_eq_true, if_false] at hh ⊢
      exact hh.res S ⟨p, _, _, rfl, rfl, hp, rfl, rgV_dq i j⟩
  · cases ho
theorem rgl_run (ok : XOk g c k W X) (hc : c.calm = true) (t : Bool) {x : Str} (hx : x = if t then ("tuple" : Str) else "list") (hb : bltB c x = true) {e : Expr} {te : L2.St → Hp → (Int → Int → Hp → Prop) → Prop} {p pos : Pos} (he : PRg X e te) (na : starEach [e] X.env = (false, eval e X.env) :: starEach [] X.env) :
    PE X (.Call (.Name x p) [e] [] pos) (fun σ H Q => te σ H fun a b H1 => RgOk a b ∧ ∀ q, H1 q = none → Q (.ref q) (upd H1 q (if t = true then .tup (rgV a b) else .lst (rgV a b)))) := by
  cases t with
  | true =>
    simp only [if_true] at hx ⊢
    subst hx
    obtain ⟨g1, g2, g3, g4⟩ := ok.bltn hb
    exact pe_tupRg (by rw [ok.calm]; exact hc) g1 g4 he na
  | false =>
    simp only [Bool.false_eq_true, if_false] at hx ⊢
    subst hx
    obtain ⟨g1, g2, g3, g4⟩ := ok.bltn hb
    exact pe_listRg (by rw [ok.calm]; exact hc) g1 g4 he na
theorem e_rgl (ok : XOk g c k W X) {t : Bool} {a b : CE} (ia : Snd g a) (ib : Snd g b) {e : Expr} (h : chk c (.rgl t a b) e = true) : PE X e (rdE g W (qt (.rgl t a b)) (ev g.G (.rgl t a b))) := by
  simp only [chk] at h
  split at h
  · simp only [Bool.and_eq_true, decide_eq_true_eq] at h
    obtain ⟨⟨⟨⟨⟨⟨⟨h1, h2⟩, h3⟩, h4⟩, h5⟩, h6⟩, h7⟩, h8⟩ := h
    subst h5
    obtain ⟨g1, g2, g3, g4⟩ := ok.bltn h6
    refine ⟨fun pins s σ H Q I ⟨F, A, ro, S, hh⟩ => ?_⟩
    refine (rgl_run ok h1 t h3 h4 (prg_1 g1 g4 (ia.E ok h8) (star_of h7)) rfl).run pins s σ H Q I ?_
    simp only [ev] at hh
    rw [if_pos h2] at hh
    refine ⟨F, A, ro, S, hh.bind fun h1 ro1 _ hh v F1 H1 A1 Ao st S1 hv hs => ?_⟩
    have hh := hh.shift st (fun z => (hs (and2 z).1).s)
    split at hh
    · rename_i n hn
      exact ⟨n, (hv.lookD S1 hn).int_eq, rgl_fin S1 hh⟩
    · exact hh.elim
  · simp only [Bool.and_eq_true, decide_eq_true_eq] at h
    obtain ⟨⟨⟨⟨⟨⟨⟨⟨⟨h1, h2⟩, h3⟩, h4⟩, h5⟩, h6⟩, h7⟩, h8⟩, h9⟩, h10⟩ := h
    subst h5
    obtain ⟨g1, g2, g3, g4⟩ := ok.bltn h6
    refine ⟨fun pins s σ H Q I ⟨F, A, ro, S, hh⟩ => ?_⟩
    refine (rgl_run ok h1 t h3 h4 (prg_2 g1 g4 (ia.E ok h9) (ib.E ok h10) (star_of h7) (star_of h8) (by rw [star_of h8]; rfl)) rfl).run pins s σ H Q I ?_
    simp only [ev] at hh
    rw [if_neg (by simpa using h2)] at hh
    refine ⟨F, A, ro, S, hh.bind fun h1 ro1 _ hh v F1 H1 A1 Ao st S1 hv hs => ?_⟩
    have hh := hh.shift st (fun z => (hs (and2 z).1).s)
    split at hh
    · rename_i hd
      refine ⟨F1, A1, ro1, S1, hh.bind fun h2 ro2 _ hh w F2 H2 A2 Bo st2 S2 hw hs2 => ?_⟩
      have hh := hh.shift st2 (fun z => (hs2 (and2 z).2).s)
      obtain ⟨hv2, _⟩ := hv.step st2 (fun z => (hs2 (okD_of hd z)).s)
      split at hh
      · rename_i i j e1 e2
        exact ⟨i, j, (hv2.lookD S2 e1).int_eq, (hw.lookD S2 e2).int_eq, rgl_fin S2 hh⟩
      · exact hh.elim
    · exact hh.elim
  · cases h
theorem e_rev (ok : XOk g c k W X) {a : CE} (ia : Snd g a) {e : Expr} (h : chk c (.rev a) e = true) : PE X e (rdE g W (qt (.rev a)) (ev g.G (.rev a))) := by
  simp only [chk] at h
  split at h
  · obtain ⟨h0, h1⟩ := and2 h
    have h0 := of_decide_eq_true h0
    subst h0
    refine ⟨fun pins s σ H Q I ⟨F, A, ro, S, hh⟩ => ?_⟩
    simp only [ev] at hh
    cases r : ev g.G a ro with
    | stuck => rw [r] at hh; exact hh.elim
    | exc x ro1 =>
      refine (pe_revL (ia.E ok h1)).run pins s σ H Q I ⟨F, A, ro, S, ?_⟩
      rw [r] at hh ⊢
      exact hh
    | ok hd ro1 =>
      rw [r] at hh
      simp only [Out.bind_ok] at hh
      split at hh
      · rename_i xs hx
        refine (pe_revT (ia.E ok h1)).run pins s σ H Q I ⟨F, A, ro, S, ?_⟩
        rw [r]
        intro v F1 H1 A1 Ao st S1 hv hq
        have hh := hh.shift st (fun z => (hq z).s)
        obtain ⟨a', vs, e1, e2, e3⟩ := Dq.tup_eq (hv.lookF S1 hx)
        rw [ok.kk]
        exact ⟨a', vs, e1, S1.sub.sqT e2, fun p hp => hh.res S1 (.inr ⟨p, _, rfl, hp, rfl, e3.rev⟩)⟩
      · rename_i xs hx
        refine (pe_revL (ia.E ok h1)).run pins s σ H Q I ⟨F, A, ro, S, ?_⟩
        rw [r]
        intro v F1 H1 A1 Ao st S1 hv hq
        have hh := hh.shift st (fun z => (hq z).s)
        obtain ⟨a', vs, e1, e2, e3⟩ := hv.lookF S1 hx
        rw [ok.kk]
        exact ⟨a', vs, e1, SqL.of e2, fun p hp => hh.res S1 ⟨p, _, _, rfl, rfl, hp, rfl, e3.rev⟩⟩
      · exact hh.elim
  · cases h
end
theorem nox_plain {c : CC} {a : CE} {e : Expr} (h : chk c (.nox a) e = true) : testPlain e = true := by
  cases a <;> try (simp only [chk] at h; cases h; done)
  simp only [chk] at h
  split at h
  · rfl
  · cases h
theorem nox_bool {c : CC} {a : CE} {op es pos} : chk c (.nox a) (.BoolOp op es pos) = false := by
  cases a <;> simp only [chk]
theorem snd_nox {g : Gx} (a : CE) (sn : ∀ q own elt tg it ifs, a = .comp q own elt tg it ifs → Snd g elt ∧ Snd g it ∧ Snd g ifs) : Snd g (.nox a) :=
  .of (fun {c k W X} ok {e} h => e_nox ok sn h) (fun {c k W X} ok {e} h => pt_of (e_nox ok sn h) (nox_plain h)) (fun c op es pos => nox_bool) (by intros; rfl) (by intros; rfl) (by intros; rfl)
theorem snd_all (g : Gx) : ∀ ce : CE, Snd g ce
  | .var i => .pl fun {c k W X} ok {e} h => e_var ok h
  | .int i => .pl fun {c k W X} ok {e} h => e_int ok h
  | .bl i => .pl fun {c k W X} ok {e} h => e_bl ok h
  | .non => .pl fun {c k W X} ok {e} h => e_non ok h
  | .str i => .pl fun {c k W X} ok {e} h => e_str ok h
  | .glob i => .pl fun {c k W X} ok {e} h => e_glob ok h
  | .bin op a b => .pl fun {c k W X} ok {e} h => e_bin ok (snd_all g a) (snd_all g b) h
  | .neg a => .pl fun {c k W X} ok {e} h => e_neg ok (snd_all g a) h
  | .not a => .of (fun {c k W X} ok {e} h => e_not ok (snd_all g a) h) (fun {c k W X} ok {e} h => t_not ok (snd_all g a) h)
  | .and a b => .bo (fun {c k W X} ok {e} h => e_and ok (snd_all g a) (snd_all g b) h) (fun {c k W X} ok {op es pos} h => t_and ok (snd_all g a) (snd_all g b) h)
  | .or a b => .bo (fun {c k W X} ok {e} h => e_or ok (snd_all g a) (snd_all g b) h) (fun {c k W X} ok {op es pos} h => t_or ok (snd_all g a) (snd_all g b) h)
  | .one a => .bo (fun {c k W X} ok {e} h => e_one ok (snd_all g a) h) (fun {c k W X} ok {op es pos} h => t_one ok (snd_all g a) h)
  | .cmp op a b => .of (fun {c k W X} ok {e} h => e_cmp ok (snd_all g a) (snd_all g b) h) (fun {c k W X} ok {e} h => t_cmp ok (snd_all g a) (snd_all g b) h)
  | .chain o1 o2 a b d => .of (fun {c k W X} ok {e} h => e_chain ok (snd_all g a) (snd_all g b) (snd_all g d) h) (fun {c k W X} ok {e} h => t_chain ok (snd_all g a) (snd_all g b) (snd_all g d) h)
  | .ifx a b d => .of (fun {c k W X} ok {e} h => e_ifx ok (snd_all g a) (snd_all g b) (snd_all g d) h) (fun {c k W X} ok {e} h => t_ifx ok (snd_all g a) (snd_all g b) (snd_all g d) h)
  | .tup as => .pl fun {c k W X} ok {e} h => e_tup ok (snd_all g as) h
  | .lst as => .pl fun {c k W X} ok {e} h => e_lst ok (snd_all g as) h
  | .idx a b => .pl fun {c k W X} ok {e} h => e_idx ok (snd_all g a) (snd_all g b) h
  | .slc a b d => .pl fun {c k W X} ok {e} h => e_slc ok (snd_all g a) (snd_all g b) (snd_all g d) h
  | .call f as => .pl fun {c k W X} ok {e} h => e_call ok (snd_all g as) h
  | .prim p as => .pl fun {c k W X} ok {e} h => e_prim ok (snd_all g as) h
  | .isi a T => .pl fun {c k W X} ok {e} h => e_isi ok (snd_all g a) h
  | .mth m o as => .pl fun {c k W X} ok {e} h => e_mth ok (snd_all g o) (snd_all g as) h
  | .comp q own elt tg it ifs => .pl fun {c k W X} ok {e} h => e_comp ok (snd_all g elt) (snd_all g it) (snd_all g ifs) h
  | .seq a => .iter fun z {c k W X} ok {tg e} h => i_seq (snd_all g a) z ok h
  | .rng a => .iter fun z {c k W X} ok {tg e} h => i_rng (snd_all g a) z ok h
  | .enum a => .iter fun z {c k W X} ok {tg e} h => i_enum (snd_all g a) z ok h
  | .zip a => .iter fun z {c k W X} ok {tg e} h => i_zip (snd_all g a) z ok h
  | .share i a => .pl (fun {c k W X} ok {e} h => e_share ok (snd_all g a) h) (by intro c e h; simp only [chk] at h; exact (and2 h).1)
  | .rgl t a b => .pl fun {c k W X} ok {e} h => e_rgl ok (snd_all g a) (snd_all g b) h
  | .rev a => .pl fun {c k W X} ok {e} h => e_rev ok (snd_all g a) h
  | .dsort a => .pl fun {c k W X} ok {e} h => e_dsort ok (snd_all g a) h
  | .attr d a f => .pl fun {c k W X} ok {e} h => e_attr ok (snd_all g a) h
  | .meth d m f o as => .pl fun {c k W X} ok {e} h => e_meth ok (snd_all g o) (snd_all g as) h
  | .new d f as => .pl fun {c k W X} ok {e} h => e_new ok (snd_all g as) h
  | .dnew => .pl fun {c k W X} ok {e} h => e_dnew ok h
  | .fr i => .pl fun {c k W X} ok {e} h => e_fr ok h
  | .at_ a b => .pl fun {c k W X} ok {e} h => e_at ok (snd_all g a) (snd_all g b) h
  | .mv i => .pl fun {c k W X} ok {e} h => e_mv ok h
  | .done a b => .pl fun {c k W X} ok {e} h => e_done ok (snd_all g a) (snd_all g b) h
  | .dget a b => .pl fun {c k W X} ok {e} h => e_dget ok (snd_all g a) (snd_all g b) h
  | .din n a b => .of (fun {c k W X} ok {e} h => e_din ok (snd_all g a) (snd_all g b) h) (fun {c k W X} ok {e} h => t_din ok (snd_all g a) (snd_all g b) h)
  | .sset a => .pl fun {c k W X} ok {e} h => e_sset ok (snd_all g a) h
  | .nox a => snd_nox a (fun q own elt tg it ifs e => match a, e with | .comp _ _ elt tg it ifs, rfl => ⟨snd_all g elt, snd_all g it, snd_all g ifs⟩)
  | .bad =>
    { E := by intro c k W X ok e h; exact ⟨fun _ _ _ _ _ _ ⟨_, _, _, _, z⟩ => by simp only [ev] at z; exact z.elim⟩
      T := by intro c k W X ok e h; exact ⟨fun _ _ _ _ _ _ ⟨_, _, _, _, z⟩ => by simp only [ev] at z; exact z.elim⟩
      B := by intro c k W X ok op es pos h; constructor; intros; rename_i z; obtain ⟨_, _, _, _, z⟩ := z; simp only [ev] at z; exact z.elim
      L := by intro c k W X ok es h; exact no (by rfl) h
      O := by intro c k W X ok e h; exact no (by rfl) h
      I := by intro c k W X z ok tg e h; exact no (by rfl) h
      D := by intro c k W X ok es h; exact no (by rfl) h }
  | .nil => .args l_nil o_nil tests_nil
  | .cons a as => .args (l_cons (snd_all g a) (snd_all g as)) (o_cons (snd_all g a)) (tests_cons (snd_all g a))
end Lw

set_option maxRecDepth 100000
/-! Lw15: statements: syntax, evaluator, checker, judgement. -/
namespace Lw
open PySem L2 RZ
inductive CS where
  | nil | seq (a b : CS)
  | pass | doc | brk | cnt | retN
  | ret (e : CE)
  | set (i : Nat) (e : CE)
  | setc (i : Nat) (e : CE)
  | unp (tg e : CE)
  | par2 (i j : Nat) (es : CE)
  | par3 (i j k : Nat) (es : CE)
  | aug (i : Nat) (op : Operator) (e : CE)
  | exp (e : CE)
  | ife (c : CE) (a b : CS)
  | whl (c : CE) (b : CS)
  | for_ (tg it : CE) (b : CS)
  | rai (x : Str)
  | try_ (b hs : CS)
  | hd (x : Str) (b rest : CS)
  | sti (o i e : CE)
  | sts (o lo hi e : CE)
  | std (d i e : CE)
  | sta (d : Str) (o : CE) (f : Str) (e : CE)
  | una (d : Str) (i : Nat) (fs : List Str) (e : CE)
  | auga (d : Str) (o : CE) (f : Str) (op : Operator) (e : CE)
  | bad
inductive SOut where
  | nx (ro : Ro)
  | ret (o : O) (ro : Ro)
  | brk (ro : Ro)
  | ct (ro : Ro)
  | exc (x : Exn) (ro : Ro)
  | stuck
/-- an expression's outcome, then a statement's -/
def Out.then {α : Type} : Out α → (α → Ro → SOut) → SOut
  | .ok a ro, f => f a ro
  | .exc x ro, _ => .exc x ro
  | .stuck, _ => .stuck
@[simp] theorem Out.then_ok {α : Type} (a : α) (ro : Ro) (f : α → Ro → SOut) : (Out.ok a ro).then f = f a ro := rfl
@[simp] theorem Out.then_exc {α : Type} (x : Exn) (ro : Ro) (f : α → Ro → SOut) : (Out.exc x ro : Out α).then f = .exc x ro := rfl
@[simp] theorem Out.then_stuck {α : Type} (f : α → Ro → SOut) : (Out.stuck : Out α).then f = .stuck := rfl
def tst (G : GE) (c : CE) (ro : Ro) : Out Bool := (ev G c ro).bind fun h ro => .ofOpt (h.bool ro) ro
def wLoop (t : Ro → Out Bool) (b : Ro → SOut) : Nat → Ro → SOut
  | 0, _ => .stuck
  | n + 1, ro => (t ro).then fun z ro => if z then (match b ro with
    | .nx ro => wLoop t b n ro
    | .ct ro => wLoop t b n ro
    | .brk ro => .nx ro
    | r => r) else .nx ro
def fLoop (tg : CE) (b : Ro → SOut) : List PyData → Ro → SOut
  | [], ro => .nx ro
  | x :: xs, ro => match asgT tg x ro with
    | some ro => match b ro with
      | .nx ro => fLoop tg b xs ro
      | .ct ro => fLoop tg b xs ro
      | .brk ro => .nx ro
      | r => r
    | none => .stuck
def augO : Operator → PyData → PyData → Option PyData
  | .Add, .int i, .int j => some (.int (i + j))
  | .Sub, .int i, .int j => some (.int (i - j))
  | .Mult, .int i, .int j => if -(2 ^ 64) < j ∧ j < 2 ^ 64 then some (.int (i * j)) else none
  | _, _, _ => none
/-- o[i] = y: the tree at o's place rewritten -/
def stI (ho : Hd) (ix : PyData) (y : O) (ro : Ro) : SOut := match ho with
  | .sl j p => match ro[j]? with
    | some (some t) => match O.walk p t with
      | some (.lst os) => match ix with
        | .int k => match ixD os.length k with
          | some n => match O.put p (.lst (os.set n y)) t with
            | some t' => .nx (ro.set j (some t'))
            | none => .stuck
          | none => .stuck
        | _ => .stuck
      | _ => .stuck
    | _ => .stuck
  | _ => .stuck
def lstO : O → Option (List O)
  | .lst ps => some ps
  | .d (.list xs) => some (xs.map .d)
  | _ => none
/-- o[a:c] = y -/
def stS (ho : Hd) (a c : Int) (y : O) (ro : Ro) : SOut := match ho with
  | .sl j p => match ro[j]? with
    | some (some t) => match O.walk p t with
      | some (.lst os) => match lstO y with
        | some ps => if 0 ≤ a ∧ a ≤ c ∧ c ≤ os.length ∧ lenOk (os.length + ps.length) = true then (match O.put p (.lst (os.take a.toNat ++ ps ++ os.drop c.toNat)) t with
            | some t' => .nx (ro.set j (some t'))
            | none => .stuck) else .stuck
        | none => .stuck
      | _ => .stuck
    | _ => .stuck
  | _ => .stuck
/-- d[x] = y -/
def stD (ho : Hd) (x : PyData) (y : O) (ro : Ro) : SOut := match ho with
  | .sl j p => match ro[j]? with
    | some (some t) => match O.walk p t with
      | some (.dct ks os) => match keyT x with
        | some k => if lenOk (ks.length + 1) = true then (match O.put p (.dct (dPut ks os x k y).1 (dPut ks os x k y).2) t with
            | some t' => .nx (ro.set j (some t'))
            | none => .stuck) else .stuck
        | none => .stuck
      | _ => .stuck
    | _ => .stuck
  | _ => .stuck
/-- a field put -/
def putN : List Str → List O → Str → O → List Str × List O
  | n :: ns, o :: os, f, y => if n = f then (n :: ns, y :: os) else (n :: (putN ns os f y).1, o :: (putN ns os f y).2)
  | _, _, f, y => ([f], [y])
/-- o.f = y -/
def stA (d f : Str) (ho : Hd) (y : O) (ro : Ro) : SOut := match ho with
  | .sl j p => match ro[j]? with
    | some (some t) => match O.walk p t with
      | some (.ins c ns os) => if c = d ∧ ns.length < 1000 then (match O.put p (.ins c (putN ns os f y).1 (putN ns os f y).2) t with
        | some t' => .nx (ro.set j (some t'))
        | none => .stuck) else .stuck
      | _ => .stuck
    | _ => .stuck
  | _ => .stuck
/-- o.f, o.g, .. = the items -/
def unA (d : Str) (i : Nat) : List Str → List PyData → Ro → SOut
  | [], [], ro => .nx ro
  | f :: fs, x :: xs, ro => match stA d f (.sl i []) (.d x) ro with
    | .nx ro => unA d i fs xs ro
    | _ => .stuck
  | _, _, _ => .stuck
/-- a field of an instance in a slot -/
def fldS (d f : Str) (ro : Ro) : Hd → Option PyData
  | .sl i p => match Hd.look ro (.sl i p) with
    | some (.ins c ns os) => if c = d then (match getN ns os f with
      | some (.d x) => some x
      | _ => none) else none
    | _ => none
  | .tm _ => none
mutual
def ex (G : GE) : CS → Ro → SOut
  | .nil, ro => .nx ro
  | .seq a b, ro => match ex G a ro with
    | .nx ro => ex G b ro
    | r => r
  | .pass, ro => .nx ro
  | .doc, ro => .nx ro
  | .brk, ro => .brk ro
  | .cnt, ro => .ct ro
  | .retN, ro => .ret (.d .none) ro
  | .ret e, ro => (ev G e ro).then fun h ro => (h.sto ro).then fun o ro => .ret o ro
  | .set i e, ro => (ev G e ro).then fun h ro => (h.sto ro).then fun o ro => .nx (ro.set i (some o))
  | .setc i e, ro => (ev G e ro).then fun h ro => (h.sto ro).then fun o ro => .nx (ro.set i (some o))
  | .unp tg e, ro => (ev G e ro).then fun h ro => (h.esc ro).then fun x ro => match asgT tg x ro with
    | some ro => .nx ro
    | none => .stuck
  | .par2 i j es, ro => (evs G es ro).then fun hs ro => (stos hs ro).then fun os ro => match os with
    | [a, b] => .nx ((ro.set i (some a)).set j (some b))
    | _ => .stuck
  | .par3 i j k es, ro => (evs G es ro).then fun hs ro => (stos hs ro).then fun os ro => match os with
    | [a, b, c] => .nx (((ro.set i (some a)).set j (some b)).set k (some c))
    | _ => .stuck
  | .aug i op e, ro => match ro[i]? with
    | some (some (.d x)) => (ev G e ro).then fun h ro => match h.lookD ro with
      | some y => match augO op x y with
        | some z => .nx (ro.set i (some (.d z)))
        | none => .stuck
      | none => .stuck
    | _ => .stuck
  | .exp e, ro => (ev G e ro).then fun _ ro => .nx ro
  | .ife c a b, ro => (tst G c ro).then fun z ro => if z then ex G a ro else ex G b ro
  | .whl c b, ro => wLoop (tst G c) (ex G b) G.wf ro
  | .for_ tg it b, ro => (evI G true it ro).then fun xs ro => fLoop tg (ex G b) xs ro
  | .rai x, ro => .exc ⟨x⟩ ro
  | .try_ b hs, ro => match ex G b ro with
    | .exc x ro => exH G hs x ro
    | r => r
  | .sti o i e, ro => (ev G e ro).then fun h ro => if okD h o = true then (ev G o ro).then fun ho ro => if okD h i = true ∧ okD ho i = true then (ev G i ro).then fun hi ro => match hi.lookD ro with
    | some ix => (h.sto ro).then fun y ro => stI ho ix y ro
    | none => .stuck else .stuck else .stuck
  | .sts o lo hi e, ro => (ev G e ro).then fun h ro => if okD h o = true then (ev G o ro).then fun ho ro => if okD h lo = true ∧ okD ho lo = true then (ev G lo ro).then fun hl ro => match hl.lookD ro with
    | some (.int a) => if okD h hi = true ∧ okD ho hi = true then (ev G hi ro).then fun hu ro => match hu.lookD ro with
      | some (.int c) => (h.sto ro).then fun y ro => stS ho a c y ro
      | _ => .stuck else .stuck
    | _ => .stuck else .stuck else .stuck
  | .std d i e, ro => (ev G e ro).then fun h ro => if okD h d = true then (ev G d ro).then fun ho ro => if okD h i = true ∧ okD ho i = true then (ev G i ro).then fun hi ro => match hi.look ro with
    | some (.d x) => (h.sto ro).then fun y ro => stD ho x y ro
    | _ => .stuck else .stuck else .stuck
  | .sta d o f e, ro => (ev G e ro).then fun h ro => if okD h o = true then (ev G o ro).then fun ho ro => (h.sto ro).then fun y ro => stA d f ho y ro else .stuck
  | .una d i fs e, ro => (ev G e ro).then fun h ro => (h.esc ro).then fun x ro => match x with
    | .tuple xs => unA d i fs xs ro
    | _ => .stuck
  | .auga d o f op e, ro => (ev G o ro).then fun ho ro => match fldS d f ro ho with
    | some x => if okD ho e = true then (ev G e ro).then fun h ro => match h.lookD ro with
      | some y => match augO op x y with
        | some z => stA d f ho (.d z) ro
        | none => .stuck
      | none => .stuck else .stuck
    | _ => .stuck
  | .hd _ _ _, _ => .stuck
  | .bad, _ => .stuck
def exH (G : GE) : CS → Exn → Ro → SOut
  | .hd y b rest, x, ro => match G.exm x.cls y with
    | some true => match ex G b ro with
      | .exc _ _ => .stuck
      | r => r
    | some false => exH G rest x ro
    | none => .stuck
  | .nil, x, ro => .exc x ro
  | _, _, _ => .stuck
end
/-! ### the checker -/
def isComp : Expr → Bool
  | .ListComp _ _ _ _ => true
  | .SetComp _ _ _ _ => true
  | .DictComp _ _ _ _ _ => true
  | _ => false
def isCE : CE → Bool
  | .comp _ _ _ _ _ _ => true
  | .share _ (.comp _ _ _ _ _ _) => true
  | _ => false
def notSl : Expr → Bool
  | .Slice _ _ _ _ => false
  | _ => true
/-- no stores in a row of their own -/
def noSwap : Expr → Bool
  | .Tuple vs _ _ => vs.all (foldedForSure 8) || !(vs.length == 2 || vs.length == 3)
  | _ => true
def lclB (c : CC) (x : Str) : Bool := decide (c.sc.names.lookup x = some .local)
def slB (c : CC) (i : Nat) (e : Expr) : Bool := match e with
  | .Name x _ => decide (c.N[i]? = some x) && locB c x && !(c.fx.contains i)
  | _ => false
def plB (c : CC) (i : Nat) (e : Expr) : Bool := match e with
  | .Name x _ => decide (c.N[i]? = some x) && lclB c x && !(c.fx.contains i)
  | _ => false
/-- a target that is no plain local -/
def cellN (c : CC) : Expr → Bool
  | .Name x _ => !(lclB c x)
  | _ => true
def starB : Expr → Bool
  | .Starred _ _ => true
  | _ => false
def chkF (c : CC) (d : Str) (i : Nat) : List Str → List Expr → Bool
  | [], ts => match ts with
    | [] => true
    | _ => false
  | f :: fs, ts => match ts with
    | .Attribute o' f' _ :: ts => decide (f' = f) && chk c (.var i) o' && c.cls.any (fun k => decide (k.nm = d) && k.fl.contains f) && chkF c d i fs ts
    | _ => false
mutual
def chkS (c : CC) : CS → Stmt → Bool
  | .pass, s => match s with
    | .Pass _ => true
    | _ => false
  | .doc, s => match s with
    | .Expr (.Constant (.str _) _ _) _ => true
    | _ => false
  | .brk, s => match s with
    | .Break _ => true
    | _ => false
  | .cnt, s => match s with
    | .Continue _ => true
    | _ => false
  | .retN, s => match s with
    | .Return none _ => true
    | _ => false
  | .ret e, s => match s with
    | .Return (some e') _ => chk c e e'
    | _ => false
  | .set i e, s => match s with
    | .Assign [t] e' _ => slB c i t && (!(isComp e') || cellN c t) && chk c e e'
    | _ => false
  | .setc i e, s => match s with
    | .Assign [.Name y py] (.ListComp e' gs scope p) spos => c.calm && plB c i (.Name y py) && decide (py.line = p.line) && !(scope.names.any fun (n, k) => n == y && (k == .local || k == .cell)) && isCE e && chk c e (.ListComp e' gs scope p)
    | _ => false
  | .unp tg e, s => match s with
    | .Assign [.Tuple ts k p] e' _ => c.calm && chkT c tg (.Tuple ts k p) && (tgSlots tg).all (fun i => !(c.fx.contains i)) && !(isComp e') && (noSwap e' || ts.any (cellN c)) && chk c e e'
    | _ => false
  | .par2 i j es, s => match s with
    | .Assign [.Tuple [.Name x px, .Name y py] _ _] (.Tuple [a, b] _ _) _ => c.calm && plB c i (.Name x px) && plB c j (.Name y py) && decide (i ≠ j) && decide (x ≠ y) && decide (px.line = py.line) && !(starB a) && !(starB b) &&
        !([a, b].all (foldedForSure 8)) && !([a, b].all (constantsAlone 8)) && chks c es [a, b]
    | _ => false
  | .par3 i j l es, s => match s with
    | .Assign [.Tuple [.Name x px, .Name y py, .Name z pz] _ _] (.Tuple [a, b, d] _ _) _ => c.calm && plB c i (.Name x px) && plB c j (.Name y py) && plB c l (.Name z pz) && decide (i ≠ j) && decide (i ≠ l) && decide (j ≠ l) && decide (x ≠ y) && decide (x ≠ z) && decide (y ≠ z) &&
        decide (px.line = py.line) && decide (px.line = pz.line) && !(starB a) && !(starB b) && !(starB d) && !([a, b, d].all (foldedForSure 8)) && !([a, b, d].all (constantsAlone 8)) && chks c es [a, b, d]
    | _ => false
  | .aug i op e, s => match s with
    | .AugAssign t op' e' _ => slB c i t && decide (op = op') && (decide (op = .Add) || decide (op = .Sub) || decide (op = .Mult)) && chk c e e'
    | _ => false
  | .exp e, s => match s with
    | .Expr e' _ => !(isComp e') && chk c e e'
    | _ => false
  | .ife t a b, s => match s with
    | .If t' a' b' _ => chk c t t' && chkSs c a a' && chkSs c b b'
    | _ => false
  | .whl t b, s => match s with
    | .While t' b' [] _ => c.calm && chk c t t' && chkSs c b b'
    | _ => false
  | .for_ tg it b, s => match s with
    | .For tg' it' b' [] _ => c.calm && chkI c it tg' it' && plainE it' && chkT c tg tg' && (tgSlots tg).all (fun i => !(c.fx.contains i)) && chkSs c b b'
    | _ => false
  | .rai x, s => match s with
    | .Raise (some (.Call (.Name y _) [.Constant (.str _) _ _] [] _)) none _ => c.calm && decide (x = y) && glbB c x && c.exs.contains x
    | _ => false
  | .try_ b hs, s => match s with
    | .Try b' (h :: hs') [] [] _ => c.calm && chkSs c b b' && chkH { c with calm := false } hs (h :: hs')
    | _ => false
  | .sti o i e, s => match s with
    | .Assign [.Subscript o' i' _] e' _ => notSl i' && !(isComp e') && chk c o o' && chk c i i' && chk c e e'
    | _ => false
  | .sts o lo hi e, s => match s with
    | .Assign [.Subscript o' (.Slice (some lo') (some hi') none _) _] e' _ => !(isComp e') && chk c o o' && chk c lo lo' && chk c hi hi' && chk c e e'
    | _ => false
  | .std d i e, s => match s with
    | .Assign [.Subscript o' i' _] e' _ => notSl i' && !(isComp e') && chk c d o' && chk c i i' && chk c e e'
    | _ => false
  | .sta d o f e, s => match s with
    | .Assign [.Attribute o' f' _] e' _ => decide (f' = f) && !(isComp e') && c.cls.any (fun k => decide (k.nm = d) && k.fl.contains f) && chk c o o' && chk c e e'
    | _ => false
  | .una d i fs e, s => match s with
    | .Assign [.Tuple ts k p] e' _ => c.calm && chkF c d i fs ts && !(isComp e') && ts.any (cellN c) && chk c e e'
    | _ => false
  | .auga d o f op e, s => match s with
    | .AugAssign (.Attribute o' f' _) op' e' _ => decide (f' = f) && decide (op = op') && (decide (op = .Add) || decide (op = .Sub)) && c.cls.any (fun k => decide (k.nm = d) && k.fl.contains f) && chk c o o' && chk c e e'
    | _ => false
  | .bad, _ => true
  | _, _ => false
def chkSs (c : CC) : CS → List Stmt → Bool
  | .nil, ss => match ss with
    | [] => true
    | _ => false
  | .seq a b, ss => match ss with
    | s :: ss => chkS c a s && chkSs c b ss
    | _ => false
  | _, _ => false
def chkH (c : CC) : CS → List ExceptHandler → Bool
  | .nil, hs => match hs with
    | [] => true
    | _ => false
  | .hd y b rest, hs => match hs with
    | .ExceptHandler (some (.Name x _)) none (b₀ :: suite) _ :: hs => decide (x = y) && glbB c x && (c.exs.contains x || c.hds.contains x) && chkSs c b (b₀ :: suite) && chkH c rest hs
    | _ => false
  | _, _ => false
end
/-! ### the judgement -/
def Agr (fx : List Nat) (σ σ' : L2.St) : Prop := ∀ j ∈ fx, σ'[j]? = σ[j]?
theorem Agr.refl {fx : List Nat} {σ : L2.St} : Agr fx σ σ := fun _ _ => rfl
theorem Agr.trans {fx : List Nat} {σ σ' σ'' : L2.St} (a : Agr fx σ σ') (b : Agr fx σ' σ'') : Agr fx σ σ'' := fun j hj => (b j hj).trans (a j hj)
theorem Agr.set {fx : List Nat} {σ : L2.St} {i : Nat} {v : Option V} (h : fx.contains i = false) : Agr fx σ (σ.set i v) := fun j hj => by
  have : i ≠ j := fun e => by
    subst e
    have : fx.contains i = true := by simpa using hj
    rw [h] at this; cases this
  exact List.getElem?_set_ne this
def PostS (g : Gx) (W : WX) (fx : List Nat) (F : Hp) (A : AS) (σ : L2.St) (H : Hp) : SOut → Ends → Prop
  | .nx ro', D => ∀ σ' F' H' A', Stp F H A F' H' A' → SR g.K g.cl F' A' ro' σ' H' → Agr fx σ σ' → D.nx σ' H'
  | .brk ro', D => ∀ σ' F' H' A', Stp F H A F' H' A' → SR g.K g.cl F' A' ro' σ' H' → Agr fx σ σ' → D.bk σ' H'
  | .ct ro', D => ∀ σ' F' H' A', Stp F H A F' H' A' → SR g.K g.cl F' A' ro' σ' H' → Agr fx σ σ' → D.ct σ' H'
  | .ret o ro', D => ∀ v σ' F' H' A' Ao, Stp F H A F' H' (fun a => A' a ∨ Ao a) → SR g.K g.cl F' A' ro' σ' H' → OR g.K g.cl F' H' o v Ao → (∀ a, Ao a → A' a → False) → Agr fx σ σ' → D.rt v H'
  | .exc x ro', _ => ∀ C σ' F' H' A', g.mg x.cls = some (.ref C) → Stp F H A F' H' A' → SR g.K g.cl F' A' ro' σ' H' → Agr fx σ σ' → W (.ref C) none σ' H'
  | .stuck, _ => False
def rdS (g : Gx) (W : WX) (fx : List Nat) (f : Ro → SOut) : TS := fun D σ H => ∃ F A ro, SR g.K g.cl F A ro σ H ∧ PostS g W fx F A σ H (f ro) D
section
variable {g : Gx} {c : CC} {k : Nat} {W : WX} {X : Cx} {fx : List Nat} {F F1 H H1 : Hp} {A A1 T : AS} {σ σ1 : L2.St} {D : Ends}
theorem PostS.shift {r : SOut} (h : PostS g W fx F A σ H r D) (st : Stp F H A F1 H1 (fun a => A1 a ∨ T a)) (ag : Agr fx σ σ1) : PostS g W fx F1 A1 σ1 H1 r D := by
  have go : ∀ {F' H' : Hp} {A' : AS}, Stp F1 H1 A1 F' H' A' → Stp F H A F' H' A' := fun s2 => (st.trans (s2.frame T)).weak fun a z => .inl z
  cases r with
  | nx ro1 => exact fun σ' F' H' A' s2 S ag2 => h σ' F' H' A' (go s2) S (ag.trans ag2)
  | brk ro1 => exact fun σ' F' H' A' s2 S ag2 => h σ' F' H' A' (go s2) S (ag.trans ag2)
  | ct ro1 => exact fun σ' F' H' A' s2 S ag2 => h σ' F' H' A' (go s2) S (ag.trans ag2)
  | ret o ro1 => exact fun v σ' F' H' A' Ao s2 S ho dj ag2 => h v σ' F' H' A' Ao (go s2) S ho dj (ag.trans ag2)
  | exc x ro1 => exact fun C σ' F' H' A' hm s2 S ag2 => h C σ' F' H' A' hm (go s2) S (ag.trans ag2)
  | stuck => exact h
theorem PostS.bind {q : Bool} {Q : VK} {r : Out Hd} {f : Hd → Ro → SOut} (h : PostS g W fx F A σ H (r.then f) D)
    (k : ∀ hd ro1, PostS g W fx F A σ H (f hd ro1) D → ∀ v F1 H1 A1 Ao, Stp F H A F1 H1 (fun a => A1 a ∨ Ao a) → SR g.K g.cl F1 A1 ro1 σ H1 → HR g.K g.cl F1 H1 A1 σ hd v Ao → Q v H1) : Post g W q F A σ H r Q := by
  cases r with
  | ok hd ro1 => exact fun v F1 H1 A1 Ao st S hv _ => k hd ro1 h v F1 H1 A1 Ao st S hv
  | exc x ro1 => exact fun C F' H' A' hm st S => h C σ F' H' A' hm st S .refl
  | stuck => exact h
theorem PostS.bindq {q : Bool} {Q : VK} {r : Out Hd} {f : Hd → Ro → SOut} (h : PostS g W fx F A σ H (r.then f) D)
    (k : ∀ hd ro1, PostS g W fx F A σ H (f hd ro1) D → ∀ v F1 H1 A1 Ao, Stp F H A F1 H1 (fun a => A1 a ∨ Ao a) → SR g.K g.cl F1 A1 ro1 σ H1 → HR g.K g.cl F1 H1 A1 σ hd v Ao → (q = true → Qt H H1 Ao) → Q v H1) : Post g W q F A σ H r Q := by
  cases r with
  | ok hd ro1 => exact fun v F1 H1 A1 Ao st S hv hq => k hd ro1 h v F1 H1 A1 Ao st S hv hq
  | exc x ro1 => exact fun C F' H' A' hm st S => h C σ F' H' A' hm st S .refl
  | stuck => exact h
/-- .. beside a tree on the way -/
theorem PostS.bindB {q : Bool} {Q : VK} {r : Out Hd} {f : Hd → Ro → SOut} (h : PostS g W fx F (fun a => A a ∨ T a) σ H (r.then f) D)
    (k : ∀ hd ro1, PostS g W fx F (fun a => A a ∨ T a) σ H (f hd ro1) D → ∀ v F1 H1 A1 Ao, Stp F H A F1 H1 (fun a => A1 a ∨ Ao a) → SR g.K g.cl F1 A1 ro1 σ H1 → HR g.K g.cl F1 H1 A1 σ hd v Ao → (q = true → Qt H H1 Ao) → Q v H1) : Post g W q F A σ H r Q := by
  cases r with
  | ok hd ro1 => exact fun v F1 H1 A1 Ao st S hv hq => k hd ro1 h v F1 H1 A1 Ao st S hv hq
  | exc x ro1 => exact fun C F' H' A' hm st S => h C σ F' H' A' hm ((st.frame T).weak fun a z => .inl z) S .refl
  | stuck => exact h
theorem PostS.bindA {q : Bool} {Q : List V → Hp → Prop} {r : Out (List Hd)} {f : List Hd → Ro → SOut} (h : PostS g W fx F A σ H (r.then f) D)
    (k : ∀ hd ro1, PostS g W fx F A σ H (f hd ro1) D → ∀ v F1 H1 A1 Ao, Stp F H A F1 H1 (fun a => A1 a ∨ Ao a) → SR g.K g.cl F1 A1 ro1 σ H1 → HRs g.K g.cl F1 H1 A1 σ hd v Ao → Q v H1) : PostA g W q F A σ H r Q := by
  cases r with
  | ok hd ro1 => exact fun v F1 H1 A1 Ao st S hv _ => k hd ro1 h v F1 H1 A1 Ao st S hv
  | exc x ro1 => exact fun C F' H' A' hm st S => h C σ F' H' A' hm st S .refl
  | stuck => exact h
theorem PostS.bindI {q z : Bool} {R : It → Hp → Prop} {r : Out (List PyData)} {f : List PyData → Ro → SOut} (h : PostS g W fx F A σ H (r.then f) D)
    (k : ∀ xs ro1, PostS g W fx F A σ H (f xs ro1) D → ∀ J F1 H1 A1, Stp F H A F1 H1 A1 → SR g.K g.cl F1 A1 ro1 σ H1 → IterFor g.K F1 (if z then F1 else H1) J xs → R J H1) : PostI g W q z F A σ H r R := by
  cases r with
  | ok xs ro1 => exact fun J F1 H1 A1 st S it _ => k xs ro1 h J F1 H1 A1 st S it
  | exc x ro1 => exact fun C F' H' A' hm st S => h C σ F' H' A' hm st S .refl
  | stuck => exact h
theorem PostS.bindT {q : Bool} {Q : Bool → Hp → Prop} {c0 : CE} {ro : Ro} {f : Bool → Ro → SOut} (h : PostS g W fx F A σ H ((tst g.G c0 ro).then f) D)
    (k : ∀ b ro1, PostS g W fx F A σ H (f b ro1) D → ∀ F1 H1 A1, Stp F H A F1 H1 A1 → SR g.K g.cl F1 A1 ro1 σ H1 → Q b H1) : PostT g W q F A σ H (ev g.G c0 ro) Q := by
  unfold tst at h
  cases r : ev g.G c0 ro with
  | ok hd ro1 =>
    rw [r] at h
    simp only [Out.bind_ok] at h
    cases q2 : hd.bool ro1 with
    | none => rw [q2] at h; exact h.elim
    | some b =>
      rw [q2] at h
      exact ⟨b, q2, fun F1 H1 A1 st S _ => k b ro1 h F1 H1 A1 st S⟩
  | exc x ro1 => rw [r] at h; exact fun C F' H' A' hm st S => h C σ F' H' A' hm st S .refl
  | stuck => rw [r] at h; exact h
end
/-- the surroundings of a body, beyond those of its expressions -/
structure XOs (g : Gx) (c : CC) (k : Nat) (W : WX) (X : Cx) : Prop extends XOk g c k W X where
  stk : X.stack = X.env :: X.outer
  frm : X.env.frame = some X.env.locals
  knd : X.env.scope.kind = .function
  po : c.calm = true → PassesOwn (model X.prog X.w) X.A X.env X.xe
/-- what the clauses of a try are for -/
def hdl (g : Gx) (fx : List Nat) : CS → List (Value × (Addr → Value → Option Addr → TS))
  | .hd y b rest => ((g.mg y).getD .none, fun _ _ _ => rdS g (fun _ _ _ _ => False) fx (ex g.G b)) :: hdl g fx rest
  | _ => []
structure SndS (g : Gx) (cs : CS) : Prop where
  S : ∀ {c : CC} {k : Nat} {W : WX} {X : Cx}, XOs g c k W X → ∀ {st : Stmt}, chkS c cs st = true → PS X st (rdS g W c.fx (ex g.G cs))
  L : ∀ {c : CC} {k : Nat} {W : WX} {X : Cx}, XOs g c k W X → ∀ {sts : List Stmt}, chkSs c cs sts = true → PSs X sts (rdS g W c.fx (ex g.G cs))
  H : ∀ {c : CC} {k : Nat} {W : WX} {X : Cx}, XOs g c k W X → ∀ {hds : List ExceptHandler}, chkH { c with calm := false } cs hds = true → HdsOk X hds (hdl g c.fx cs)
end Lw

set_option maxRecDepth 100000
/-! Lw16: the soundness of statements. -/
namespace Lw
open PySem L2 RZ
section
variable {g : Gx} {c : CC} {k : Nat} {W : WX} {X : Cx}
theorem s_pass (ok : XOs g c k W X) {st : Stmt} (h : chkS c .pass st = true) : PS X st (rdS g W c.fx (ex g.G .pass)) := by
  simp only [chkS] at h
  split at h
  · refine ⟨fun pins s σ H D I ⟨F, A, ro, S, hh⟩ => ?_⟩
    simp only [ex] at hh
    exact ps_pass.run pins s σ H D I (hh σ F H A .refl S .refl)
  · cases h
theorem s_doc (ok : XOs g c k W X) {st : Stmt} (h : chkS c .doc st = true) : PS X st (rdS g W c.fx (ex g.G .doc)) := by
  simp only [chkS] at h
  split at h
  · refine ⟨fun pins s σ H D I ⟨F, A, ro, S, hh⟩ => ?_⟩
    simp only [ex] at hh
    exact ps_doc.run pins s σ H D I (hh σ F H A .refl S .refl)
  · cases h
theorem s_brk (ok : XOs g c k W X) {st : Stmt} (h : chkS c .brk st = true) : PS X st (rdS g W c.fx (ex g.G .brk)) := by
  simp only [chkS] at h
  split at h
  · refine ⟨fun pins s σ H D I ⟨F, A, ro, S, hh⟩ => ?_⟩
    simp only [ex] at hh
    exact ps_break.run pins s σ H D I (hh σ F H A .refl S .refl)
  · cases h
theorem s_cnt (ok : XOs g c k W X) {st : Stmt} (h : chkS c .cnt st = true) : PS X st (rdS g W c.fx (ex g.G .cnt)) := by
  simp only [chkS] at h
  split at h
  · refine ⟨fun pins s σ H D I ⟨F, A, ro, S, hh⟩ => ?_⟩
    simp only [ex] at hh
    exact ps_continue.run pins s σ H D I (hh σ F H A .refl S .refl)
  · cases h
theorem s_retN (ok : XOs g c k W X) {st : Stmt} (h : chkS c .retN st = true) : PS X st (rdS g W c.fx (ex g.G .retN)) := by
  simp only [chkS] at h
  split at h
  · refine ⟨fun pins s σ H D I ⟨F, A, ro, S, hh⟩ => ?_⟩
    simp only [ex] at hh
    exact ps_retN.run pins s σ H D I (hh .non σ F H A (fun _ => False) Stp.refl.asT S (.d .non) (fun _ z => z.elim) .refl)
  · cases h
theorem s_ret (ok : XOs g c k W X) {e : CE} {st : Stmt} (h : chkS c (.ret e) st = true) : PS X st (rdS g W c.fx (ex g.G (.ret e))) := by
  simp only [chkS] at h
  split at h
  · refine ⟨fun pins s σ H D I ⟨F, A, ro, S, hh⟩ => ?_⟩
    simp only [ex] at hh
    refine (ps_ret ((snd_all g e).E ok.toXOk h)).run pins s σ H D I ⟨F, A, ro, S, hh.bind fun hd ro1 hh v F1 H1 A1 Ao st S1 hv => ?_⟩
    cases q : hd.sto ro1 with
    | exc x r => exact absurd q sto_noexc
    | stuck => rw [q] at hh; exact hh.elim
    | ok o ro2 =>
      rw [q] at hh
      obtain ⟨F2, A2, Bo, S2, ho, dj, st2, su2, sb2⟩ := sto_ok S1 hv q
      exact hh v σ F2 H1 A2 Bo (st.trans st2) S2 ho dj .refl
  · cases h
theorem swaps_plain {e : Expr} {t : Option Expr} {l : Nat} {env : Env} (h : isComp e = false) : swapsWith e t l env = pure false := by
  cases e <;> first | rfl | cases h
theorem swaps_cell {e : Expr} {x : Str} {p : Pos} {l : Nat} {env : Env} (h : env.scope.names.lookup x ≠ some .local) : swapsWith e (some (.Name x p)) l env = pure false := by
  have h' : (env.kindOf x == some .local) = false := beq_eq_false_iff_ne.mpr h
  cases e <;> first | rfl | (unfold swapsWith; simp only [h', Bool.and_false, Bool.false_and])
theorem filterMap_short {α β : Type} (f : α → Option β) : ∀ l : List α, (∃ a ∈ l, f a = none) → (l.filterMap f).length ≠ l.length
  | [], ⟨a, h, _⟩ => nomatch h
  | x :: l, ⟨a, ha, e⟩ => by
    have hle : (l.filterMap f).length ≤ l.length := List.length_filterMap_le f l
    rcases List.mem_cons.mp ha with rfl | ha
    · rw [List.filterMap_cons_none e, List.length_cons]; omega
    · have ih := filterMap_short f l ⟨a, ha, e⟩
      cases h : f x with
      | none => rw [List.filterMap_cons_none h, List.length_cons]; omega
      | some y => rw [List.filterMap_cons_some h, List.length_cons, List.length_cons]; omega
theorem sole_plain {e t : Expr} {l : Nat} {env : Env} (h : isComp e = false) : swapsWithSole [t] e l env = pure false := by
  cases e <;> first | rfl | cases h
theorem not_of {b : Bool} (h : (!b) = true) : b = false := by simpa using h
/-- a tree stored in a slot -/
theorem SR.storeO {K : PySem.W.Frag} {cl : ClW} {F H : Hp} {A Bo : AS} {ro : Ro} {σ : L2.St} {i : Nat} {o : O} {v : V} (S : SR K cl F A ro σ H) (hi : i < σ.length) (h : OR K cl F H o v Bo) (dj : ∀ a, Bo a → A a → False) :
    ∃ B, SR K cl F B (ro.set i (some o)) (σ.set i (some v)) H ∧ ∀ a, B a → A a ∨ Bo a := by
  obtain ⟨B, h1, h2⟩ := S.rs.store (i := i) (o := o) (v := v) (by rw [S.rs.len]; exact hi) h dj
  exact ⟨B, ⟨h1, S.sub⟩, h2⟩
theorem idx_lt {N : List Str} {σ : L2.St} {i : Nat} {x : Str} (hl : σ.length = N.length) (h : N[i]? = some x) : i < σ.length := by
  rw [hl]
  exact (List.getElem?_eq_some_iff.mp h).1
theorem s_set (ok : XOs g c k W X) {i : Nat} {e : CE} {st : Stmt} (h : chkS c (.set i e) st = true) : PS X st (rdS g W c.fx (ex g.G (.set i e))) := by
  simp only [chkS] at h
  split at h
  · rename_i t e' pos
    simp only [Bool.and_eq_true] at h
    obtain ⟨⟨h1, h2⟩, h3⟩ := h
    unfold slB at h1
    split at h1
    · rename_i x p
      simp only [Bool.and_eq_true, decide_eq_true_eq] at h1
      obtain ⟨⟨k1, k2⟩, k3⟩ := h1
      obtain ⟨l1, l2⟩ := ok.toXOk.loc k2
      refine ⟨fun pins s σ H D I ⟨F, A, ro, S, hh⟩ => ?_⟩
      simp only [ex] at hh
      refine (ps_set (i := i) (by rw [ok.hN]; exact ok.nd) (by rw [ok.hN]; exact k1) l1 ((snd_all g e).E ok.toXOk h3) (by
        rcases (Bool.or_eq_true _ _).mp h2 with h2 | h2
        · exact swaps_plain (not_of h2)
        · refine swaps_cell ?_
          simp only [cellN, lclB, Bool.not_eq_true', decide_eq_false_iff_not] at h2
          rw [ok.sc]; exact h2) l2).run pins s σ H D I ⟨F, A, ro, S, hh.bind fun hd ro1 hh v F1 H1 A1 Ao st S1 hv => ?_⟩
      cases q : hd.sto ro1 with
      | exc x r => exact absurd q sto_noexc
      | stuck => rw [q] at hh; exact hh.elim
      | ok o ro2 =>
        rw [q] at hh
        obtain ⟨F2, A2, Bo, S2, ho, dj, st2, su2, sb2⟩ := sto_ok S1 hv q
        obtain ⟨B, S3, sb3⟩ := S2.storeO (idx_lt (by rw [I.len, ok.hN]) k1) ho dj
        exact hh _ F2 H1 B ((st.trans st2).weak sb3) S3 (Agr.set (not_of k3))
    · cases h1
  · cases h
theorem swap_cell {c : CC} {ts : List Expr} {k0 : Nat} {p : Pos} {e : Expr} {env : Env} (hs : env.scope = c.sc) (h : ts.any (cellN c) = true) : swappedStores [.Tuple ts k0 p] e env = pure none := by
  cases e <;> try rfl
  rename_i vs k1 p1
  unfold swappedStores
  simp only []
  split
  · rfl
  · split
    · rfl
    · have hn := filterMap_short (fun x : Expr => match x with
          | .Name id pos => if (env.kindOf id == some NameKind.local && pos.line == (Option.map (fun x => x.pos.line) ts.head?).getD 0) = true then some id else none
          | _ => none) ts (by
        obtain ⟨t, ht, hc⟩ := List.any_eq_true.mp h
        refine ⟨t, ht, ?_⟩
        cases t <;> try rfl
        rename_i x px
        simp only [cellN, lclB, Bool.not_eq_true', decide_eq_false_iff_not] at hc
        have hc' : (env.kindOf x == some .local) = false := by
          refine beq_eq_false_iff_ne.mpr ?_
          show env.scope.names.lookup x ≠ _
          rw [hs]; exact hc
        simp only [hc', Bool.false_and, Bool.false_eq_true, if_false])
      split
      · rfl
      · rename_i hc
        exfalso
        apply hc
        simp only [Bool.or_eq_true, bne_iff_ne, ne_eq]
        exact .inl hn
theorem noSwap_ok {ts : List Expr} {k0 : Nat} {p : Pos} {e : Expr} {env : Env} (h : noSwap e = true) : swappedStores [.Tuple ts k0 p] e env = pure none := by
  cases e <;> try rfl
  rename_i vs k1 p1
  simp only [noSwap, Bool.or_eq_true] at h
  unfold swappedStores
  simp only []
  split
  · rfl
  · rename_i hc
    rcases h with h | h
    · split
      · rfl
      · split
        · rfl
        · first | rfl | (rw [h]; rfl) | (simp [h])
    · exfalso
      apply hc
      simp only [Bool.or_eq_true, bne_iff_ne, ne_eq, Bool.not_eq_true', Bool.or_eq_false_iff, beq_eq_false_iff_ne] at h ⊢
      by_cases hl : vs.length = ts.length
      · left; left
        rw [← hl]
        exact h
      · left; right
        exact hl
theorem s_unp (ok : XOs g c k W X) {tg e : CE} {st : Stmt} (h : chkS c (.unp tg e) st = true) : PS X st (rdS g W c.fx (ex g.G (.unp tg e))) := by
  simp only [chkS] at h
  split at h
  · simp only [Bool.and_eq_true] at h
    obtain ⟨⟨⟨⟨⟨h1, h2⟩, h3⟩, h4⟩, h5⟩, h6⟩ := h
    refine ⟨fun pins s σ H D I ⟨F, A, ro, S, hh⟩ => ?_⟩
    simp only [ex] at hh
    refine (ps_asg ((snd_all g e).E ok.toXOk h6) (g_all ok.toXOk h1 tg h2) (sole_plain (not_of h4)) ((Bool.or_eq_true _ _).mp h5 |>.elim noSwap_ok (swap_cell ok.sc)) rfl).run pins s σ H D I ⟨F, A, ro, S, hh.bind fun hd ro1 hh v F1 H1 A1 Ao st S1 hv => ?_⟩
    cases q : hd.esc ro1 with
    | exc x r => exact absurd q esc_noexc
    | stuck => rw [q] at hh; exact hh.elim
    | ok x ro2 =>
      rw [q] at hh
      simp only [Out.then_ok] at hh
      obtain ⟨F2, A2, S2, dq, st2, su2⟩ := hv.esc S1 q
      split at hh
      · rename_i ro3 ha
        refine ⟨F2, A2, ro2, x, ro3, S2, dq, ha, fun σ' A' S' sb hw => ?_⟩
        refine hh σ' F2 H1 A' ((st.trans st2).weak sb) S' fun j hj => ?_
        have nj : j ∉ tgSlots tg := fun z => by
          have := List.all_eq_true.mp h3 j z
          rw [show c.fx.contains j = true from by simpa using hj] at this
          cases this
        have := congrArg (·[j]?) (hw (tgSlots tg) fun _ z => z)
        simpa [wipe_get nj] using this
      · exact hh.elim
  · cases h
theorem s_exp (ok : XOs g c k W X) {e : CE} {st : Stmt} (h : chkS c (.exp e) st = true) : PS X st (rdS g W c.fx (ex g.G (.exp e))) := by
  simp only [chkS] at h
  split at h
  · obtain ⟨h1, h2⟩ := and2 h
    refine ⟨fun pins s σ H D I ⟨F, A, ro, S, hh⟩ => ?_⟩
    simp only [ex] at hh
    exact (ps_expr ((snd_all g e).E ok.toXOk h2) (swaps_plain (not_of h1))).run pins s σ H D I ⟨F, A, ro, S, hh.bind fun hd ro1 hh v F1 H1 A1 Ao st S1 hv => hh σ F1 H1 A1 (st.weak fun a z => .inl z) S1 .refl⟩
  · cases h
theorem aug_add {x y z : PyData} (e : augO .Add x y = some z) : ∃ a b, x = .int a ∧ y = .int b ∧ z = .int (a + b) := by
  cases x <;> cases y <;> first | (exact ⟨_, _, rfl, rfl, (Option.some.inj e).symm⟩) | cases e
theorem aug_sub {x y z : PyData} (e : augO .Sub x y = some z) : ∃ a b, x = .int a ∧ y = .int b ∧ z = .int (a - b) := by
  cases x <;> cases y <;> first | (exact ⟨_, _, rfl, rfl, (Option.some.inj e).symm⟩) | cases e
theorem aug_mul {x y z : PyData} (e : augO .Mult x y = some z) : ∃ a b, x = .int a ∧ y = .int b ∧ z = .int (a * b) ∧ -(2 ^ 64) < b ∧ b < 2 ^ 64 := by
  cases x <;> cases y <;> first
    | (simp only [augO] at e
       split at e
       · exact ⟨_, _, rfl, rfl, (Option.some.inj e).symm, by assumption⟩
       · cases e)
    | cases e
theorem s_aug (ok : XOs g c k W X) {i : Nat} {op : Operator} {e : CE} {st : Stmt} (h : chkS c (.aug i op e) st = true) : PS X st (rdS g W c.fx (ex g.G (.aug i op e))) := by
  simp only [chkS] at h
  split at h
  · rename_i t op' e' pos
    simp only [Bool.and_eq_true, decide_eq_true_eq] at h
    obtain ⟨⟨⟨h1, h2⟩, h3⟩, h4⟩ := h
    subst h2
    unfold slB at h1
    split at h1
    · rename_i x p
      simp only [Bool.and_eq_true, decide_eq_true_eq] at h1
      obtain ⟨⟨k1, k2⟩, k3⟩ := h1
      obtain ⟨l1, l2⟩ := ok.toXOk.loc k2
      refine ⟨fun pins s σ H D I ⟨F, A, ro, S, hh⟩ => ?_⟩
      simp only [ex] at hh
      split at hh
      · rename_i x0 hx0
        obtain ⟨v0, Ai, B, j1, j2, _⟩ := S.rs.out hx0
        have key : ∀ {tip : TIp} (hp : PIp X op tip) (hf : ∀ x y z, augO op x y = some z → ∃ a b r, x = .int a ∧ y = .int b ∧ z = .int r ∧ ∀ H Q, Q (.int r) H → tip (.int a) (.int b) H Q), wpAny (model X.prog X.w) X.A (exec (.AugAssign (.Name x p) op e' pos) X.env) (SP X pins D) X.xe s := fun {tip} hp hf => by
          refine (ps_aug (i := i) (by rw [ok.hN]; exact ok.nd) (by rw [ok.hN]; exact k1) l1 ((snd_all g e).E ok.toXOk h4) hp l2).run pins s σ H D I ⟨v0, j1, F, A, ro, S, hh.bind fun hd ro1 hh v F1 H1 A1 Ao st S1 hv => ?_⟩
          split at hh
          · rename_i y ey
            split at hh
            · rename_i z ez
              obtain ⟨a, b, r, rfl, rfl, rfl, ht⟩ := hf _ _ _ ez
              have d1 := (hv.lookD S1 ey).int_eq
              have d0 : v0 = .int a := by cases j2 with | d h => exact h.int_eq
              rw [d0, d1]
              refine ht _ _ ?_
              obtain ⟨B2, S3, sb3⟩ := S1.setD (idx_lt (by rw [I.len, ok.hN]) k1) (v := .int r) (.int _)
              exact hh _ F1 H1 B2 (st.weak fun a z => .inl (sb3 a z)) S3 (Agr.set (not_of k3))
            · exact hh.elim
          · exact hh.elim
        cases op with
        | Add =>
          exact key ip_add fun x y z e => by
            obtain ⟨a, b, e1, e2, e3⟩ := aug_add e
            exact ⟨a, b, _, e1, e2, e3, fun H Q q => ⟨a, b, rfl, rfl, q⟩⟩
        | Sub =>
          exact key ip_sub fun x y z e => by
            obtain ⟨a, b, e1, e2, e3⟩ := aug_sub e
            exact ⟨a, b, _, e1, e2, e3, fun H Q q => ⟨a, b, rfl, rfl, q⟩⟩
        | Mult =>
          exact key (tip := rI CMul fun i j => .int (i * j)) (fun pins s σ H x y v u Q I rx ry h => iop_mul pins s σ H x y v u Q I rx ry h) fun x y z e => by
            obtain ⟨a, b, e1, e2, e3, e4⟩ := aug_mul e
            exact ⟨a, b, _, e1, e2, e3, fun H Q q => ⟨a, b, rfl, rfl, .inr e4, q⟩⟩
        | _ => exact absurd h3 (by decide)
      · exact hh.elim
    · cases h1
  · cases h
theorem s_setc (ok : XOs g c k W X) {i : Nat} {e : CE} {st : Stmt} (h : chkS c (.setc i e) st = true) : PS X st (rdS g W c.fx (ex g.G (.setc i e))) := by
  simp only [chkS] at h
  split at h
  · rename_i y py e' gs scope p spos
    simp only [Bool.and_eq_true, decide_eq_true_eq] at h
    obtain ⟨⟨⟨⟨⟨h1, h2⟩, h3⟩, h4⟩, h6⟩, h5⟩ := h
    simp only [plB, lclB, Bool.and_eq_true, decide_eq_true_eq] at h2
    obtain ⟨⟨a1, a2⟩, a3⟩ := h2
    cases e <;> simp only [isCE, Bool.false_eq_true] at h6
    case share j e0 =>
     cases e0 <;> simp only [isCE, Bool.false_eq_true] at h6
     case comp q own elt tg it ifs =>
      simp only [chk] at h5
      replace h5 := (and2 h5).2
      split at h5
      · rename_i e'' t' i' ifs' scope' pos' heq
        cases heq
        simp only [Bool.and_eq_true] at h5
        obtain ⟨⟨⟨⟨⟨⟨⟨⟨g1, g0⟩, g2⟩, g3⟩, g4⟩, g5⟩, g6⟩, g7⟩, g8⟩ := h5
        obtain ⟨hs0, hf0⟩ := ok.stk0 g0
        refine ⟨fun pins s σ H D I ⟨F, A, ro, S, hh⟩ => ?_⟩
        simp only [ex] at hh
        refine (ps_setLcX (W := W) (i := i) (y := y) (wi := rdI g W (qt it) (!q) (evI g.G (!q) it)) (g := rdG g tg) (tt := fun σ => rdB g (fun cls d _ H' => W cls d σ H') (qt ifs) (evB g.G ifs)) (te := fun σ => rdE g (fun cls d _ H' => W cls d σ H') (qt elt) (ev g.G elt)) (own := own) hs0 hf0 ok.tk (by rw [ok.calm]; exact h1) (by rw [ok.hN]; exact ok.nd) (by rw [ok.hN]; exact a1) (by rw [ok.sc]; exact a2)
          (sw_true ok.knd (by rw [ok.sc]; exact a2) (by rw [h3]; exact beq_self_eq_true _) (not_of h4)) ((snd_all g it).I _ ok.toXOk g2)
          (by rw [ok.hN, ok.sc]; exact blkOk_by g4) (fun s H C cl fp xe => g_all (ok.toXOk.blkX s H C cl fp _ xe takes_none5) g1 tg g6) (fun σ s H C cl fp xe tk => (snd_all g ifs).D (ok.toXOk.blkX s H C cl fp _ xe tk) g7) (fun σ s H C cl fp xe tk => (snd_all g elt).E (ok.toXOk.blkX s H C cl fp _ xe tk) g8) (fun x => fold_of g3 x)).run pins s σ H D I ?_
        change tLc (rdI g W (qt it) (!q) (evI g.G (!q) it)) (rdG g tg) (rdB g (fun cls d _ H' => W cls d σ H') (qt ifs) (evB g.G ifs)) (rdE g (fun cls d _ H' => W cls d σ H') (qt elt) (ev g.G elt)) (own.map (·.2)) σ H (fun x H1 => gName i x σ H1 D.nx)
        have hs : ev g.G (.share j (.comp q own elt tg it ifs)) ro = match ro[j]? with
          | some (some o) => match o.toD with
            | some x => if qt (.comp q own elt tg it ifs) then (ev g.G (.comp q own elt tg it ifs) (ro.set j (some (.d x)))).fin fun h _ => match h with
              | .tm o => if flatO o then .ok (.tm o) ro else .stuck
              | _ => .stuck
              else .stuck
            | none => .stuck
          | _ => .stuck := by
          conv => lhs; rw [ev]
          all_goals rfl
        rw [hs] at hh
        split at hh
        · rename_i o ho
          split at hh
          · rename_i x hx
            split at hh
            · rename_i hq
              obtain ⟨v0, F1, A1, k1, k2, S1, st1⟩ := S.freezeSlot ho hx
              refine comp_red (W := W) (W2 := fun cls d _ H' => W cls d σ H') g5 ⟨F1, A1, _, S1, ?_, fun _ _ cls d σ' H' w => w⟩
              cases r : ev g.G (.comp q own elt tg it ifs) (ro.set j (some (.d x))) with
              | stuck => rw [r] at hh; exact hh.elim
              | exc x r2 => rw [r] at hh; exact hh.elim
              | ok hd ro1 =>
                rw [r] at hh
                simp only [Out.fin] at hh
                intro v F2 H2 A2 Ao st S2 hv hqq
                have q' := hqq hq
                split at hh
                · rename_i o1
                  split at hh
                  · rename_i hf
                    have fr : ∀ a, A a → H2 a = H a := fun a z => by
                      cases e : H a with
                      | none => exact absurd e (S.rs.own a z).2
                      | some o => exact q'.s a o e
                    have S' : SR g.K g.cl F A ro σ H2 := ⟨S.rs.frame (.refl _) fr fun a z => (S.rs.own a z).1, S.sub.trans q'.s⟩
                    have st' : Stp F H A F H2 (fun a => A a ∨ Ao a) := ⟨.refl _, fun a o e _ => q'.s a o e, fun a z => .inl z, fun a z => z.elim .inl fun z => .inr (q'.f a z)⟩
                    obtain ⟨B, S3, sb3⟩ := S'.storeO (idx_lt (by rw [I.len, ok.hN]) a1) (hv.1.unfrz hf (st1.fr.trans st.fr)) (fun a z w => (S.rs.own a w).2 (q'.f a z))
                    exact hh _ F H2 B (st'.weak sb3) S3 (Agr.set (not_of a3))
                  · exact hh.elim
                · exact hh.elim
            · exact hh.elim
          · exact hh.elim
        · exact hh.elim
      · cases h5
    case comp q own elt tg it ifs =>
      simp only [chk] at h5
      split at h5
      · rename_i e'' t' i' ifs' scope' pos' heq
        cases heq
        simp only [Bool.and_eq_true] at h5
        obtain ⟨⟨⟨⟨⟨⟨⟨⟨g1, g0⟩, g2⟩, g3⟩, g4⟩, g5⟩, g6⟩, g7⟩, g8⟩ := h5
        obtain ⟨hs0, hf0⟩ := ok.stk0 g0
        refine ⟨fun pins s σ H D I ⟨F, A, ro, S, hh⟩ => ?_⟩
        simp only [ex] at hh
        refine (ps_setLcX (W := W) (i := i) (y := y) (wi := rdI g W (qt it) (!q) (evI g.G (!q) it)) (g := rdG g tg) (tt := fun σ => rdB g (fun cls d _ H' => W cls d σ H') (qt ifs) (evB g.G ifs)) (te := fun σ => rdE g (fun cls d _ H' => W cls d σ H') (qt elt) (ev g.G elt)) (own := own) hs0 hf0 ok.tk (by rw [ok.calm]; exact h1) (by rw [ok.hN]; exact ok.nd) (by rw [ok.hN]; exact a1) (by rw [ok.sc]; exact a2)
          (sw_true ok.knd (by rw [ok.sc]; exact a2) (by rw [h3]; exact beq_self_eq_true _) (not_of h4)) ((snd_all g it).I _ ok.toXOk g2)
          (by rw [ok.hN, ok.sc]; exact blkOk_by g4) (fun s H C cl fp xe => g_all (ok.toXOk.blkX s H C cl fp _ xe takes_none5) g1 tg g6) (fun σ s H C cl fp xe tk => (snd_all g ifs).D (ok.toXOk.blkX s H C cl fp _ xe tk) g7) (fun σ s H C cl fp xe tk => (snd_all g elt).E (ok.toXOk.blkX s H C cl fp _ xe tk) g8) (fun x => fold_of g3 x)).run pins s σ H D I ?_
        change tLc (rdI g W (qt it) (!q) (evI g.G (!q) it)) (rdG g tg) (rdB g (fun cls d _ H' => W cls d σ H') (qt ifs) (evB g.G ifs)) (rdE g (fun cls d _ H' => W cls d σ H') (qt elt) (ev g.G elt)) (own.map (·.2)) σ H (fun x H1 => gName i x σ H1 D.nx)
        refine comp_red (W := W) (W2 := fun cls d _ H' => W cls d σ H') g5 ⟨F, A, ro, S, hh.bind fun hd ro1 hh v F1 H1 A1 Ao st S1 hv => ?_, fun _ _ cls d σ' H' w => w⟩
        cases q2 : hd.sto ro1 with
        | exc x r => exact absurd q2 sto_noexc
        | stuck => rw [q2] at hh; exact hh.elim
        | ok o ro2 =>
          rw [q2] at hh
          obtain ⟨F2, A2, Bo, S2, ho, dj, st2, su2, sb2⟩ := sto_ok S1 hv q2
          obtain ⟨B, S3, sb3⟩ := S2.storeO (idx_lt (by rw [I.len, ok.hN]) a1) ho dj
          exact hh _ F2 H1 B ((st.trans st2).weak sb3) S3 (Agr.set (not_of a3))
      · cases h5
  · cases h
end
end Lw

set_option maxRecDepth 100000
/-! LwU: o[i] = e. -/
namespace Lw
open PySem L2 RZ
section
variable {g : Gx} {c : CC} {k : Nat} {W : WX} {X : Cx}
theorem asg_sub {o i : Expr} {pos : Pos} {env : Env} (h : notSl i = true) : ∀ v, assign (.Subscript o i pos) env v = (do
      let ov ← holding [v] (eval o env)
      let iv ← holding [v, ov] (eval i env)
      standAt pos
      holding [v, ov, iv] (setItem ov iv v)
      release [v, ov, iv] []) := by
  intro v
  cases i <;> first | rfl | cases h
/-- a list of trees with one of them exchanged -/
theorem ORs.setAt {K : PySem.W.Frag} {cl : ClW} {F H : Hp} {o : O} {v : V} {B : AS} (h : OR K cl F H o v B) : ∀ {os : List O} {vs : List V} {A : AS} {n : Nat}, ORs K cl F H os vs A → n < os.length → (∀ a, A a → B a → False) →
    ∃ A', ORs K cl F H (os.set n o) (vs.set n v) A' ∧ ∀ a, A' a → A a ∨ B a
  | _, _, _, n, .nil, hn, _ => by simp at hn
  | _, _, _, 0, .cons h1 t n1, _, dj => by
    refine ⟨_, .cons h t fun a x y => dj a (.inr y) x, fun a z => ?_⟩
    rcases z with z | z
    · exact .inr z
    · exact .inl (.inr z)
  | _, _, _, n + 1, .cons h1 t n1, hn, dj => by
    obtain ⟨A', t', sb⟩ := ORs.setAt h t (Nat.lt_of_succ_lt_succ (by simpa using hn)) fun a x y => dj a (.inr x) y
    refine ⟨_, .cons h1 t' fun a x y => ?_, fun a z => ?_⟩
    · rcases sb a y with y | y
      · exact n1 a x y
      · exact dj a (.inl x) y
    · rcases z with z | z
      · exact .inl (.inl z)
      · rcases sb a z with z | z
        · exact .inl (.inr z)
        · exact .inr z
/-- .. in an owned list -/
theorem OR.setAt {K : PySem.W.Frag} {cl : ClW} {F H : Hp} {B By : AS} {os : List O} {l : Addr} {o : O} {v : V} {n : Nat} (h : OR K cl F H (.lst os) (.ref l) B) (ho : OR K cl F H o v By) (hn : n < os.length) (dj : ∀ a, B a → By a → False) :
    ∃ vs, H l = some (.lst vs) ∧ vs.length = os.length ∧ B l ∧ F l = none ∧ ∃ B', OR K cl F (upd H l (.lst (vs.set n v))) (.lst (os.set n o)) (.ref l) B' ∧ ∀ a, B' a → B a ∨ By a := by
  cases h with
  | @lst p vs os A0 h1 h2 h3 h4 =>
    have nB : ∀ a, By a → a ≠ l := fun a z e => by subst e; exact dj _ (.inl rfl) z
    have nA : ∀ a, A0 a → a ≠ l := fun a z e => by subst e; exact h3 z
    have f1 := h2.frame (H' := upd H l (.lst (vs.set n v))) (.refl _) (fun a z => upd_ne (nA a z)) fun a z => (h2.own a z).1
    have f2 := ho.frame (H' := upd H l (.lst (vs.set n v))) (.refl _) (fun a z => upd_ne (nB a z)) fun a z => (ho.own a z).1
    obtain ⟨A', q1, q2⟩ := ORs.setAt f2 f1 hn fun a x y => dj a (.inr x) y
    refine ⟨vs, h1, h2.len.symm, .inl rfl, h4, _, OR.lst upd_same q1 (fun z => ?_) h4, fun a z => ?_⟩
    · rcases q2 _ z with z | z
      · exact h3 z
      · exact nB _ z rfl
    · rcases z with z | z
      · exact .inl (.inl z)
      · rcases q2 a z with z | z
        · exact .inl (.inr z)
        · exact .inr z
theorem s_sti (ok : XOs g c k W X) {o i e : CE} {st : Stmt} (h : chkS c (.sti o i e) st = true) : PS X st (rdS g W c.fx (ex g.G (.sti o i e))) := by
  simp only [chkS] at h
  split at h
  · simp only [Bool.and_eq_true] at h
    obtain ⟨⟨⟨⟨h0, h1⟩, h2⟩, h3⟩, h4⟩ := h
    refine ⟨fun pins s σ H D I ⟨F, A, ro, S, hh⟩ => ?_⟩
    simp only [ex] at hh
    refine (ps_asg ((snd_all g e).E ok.toXOk h4) (pg_sub ((snd_all g o).E ok.toXOk h2) ((snd_all g i).E ok.toXOk h3) set_list (asg_sub h0)) (sole_plain (not_of h1)) rfl rfl).run pins s σ H D I
      ⟨F, A, ro, S, hh.bindq fun hd ro1 hh v F1 H1 A1 Ao st S1 hv _ => ?_⟩
    split at hh
    case isFalse => exact hh.elim
    rename_i c1
    have hh := hh.shift (A1 := fun a => A1 a ∨ Ao a) st.asT .refl
    refine ⟨F1, A1, ro1, S1, hh.bindB fun ho ro2 hh w F2 H2 A2 Bo st2 S2 hw hq2 => ?_⟩
    split at hh
    case isFalse => exact hh.elim
    rename_i c2
    have hh := hh.shift (A1 := fun a => A2 a ∨ Ao a) (T := Bo) ((st2.frame Ao).weak fun a z => z.elim (fun z => z.elim (fun z => .inl (.inl z)) .inr) fun z => .inl (.inr z)) .refl
    obtain ⟨hv2, dv2⟩ := hv.step st2 (fun z => (hq2 (okD_of c1 z)).s)
    refine ⟨F2, A2, ro2, S2, hh.bindB fun hi ro3 hh u F3 H3 A3 Co st3 S3 hu hq3 => ?_⟩
    obtain ⟨hv3, dv3⟩ := hv2.step st3 (fun z => (hq3 (okD_of c2.1 z)).s)
    obtain ⟨hw3, dw3⟩ := hw.step st3 (fun z => (hq3 (okD_of c2.2 z)).s)
    have hh := hh.shift (A1 := fun a => A3 a ∨ Ao a) (T := Co) ((st3.frame Ao).weak fun a z => z.elim (fun z => z.elim (fun z => .inl (.inl z)) .inr) fun z => .inl (.inr z)) .refl
    split at hh
    case h_2 => exact hh.elim
    rename_i ix hix
    have dix := hu.lookD S3 hix
    cases q : hd.sto ro3 with
    | exc x r => exact absurd q sto_noexc
    | stuck => rw [q] at hh; exact hh.elim
    | ok y ro4 =>
      rw [q] at hh
      simp only [Out.then_ok] at hh
      obtain ⟨F4, A4, By, S4, hy, dy, st4, su4, sb4⟩ := sto_ok S3 hv3 q
      cases ho with
      | tm x => exact hh.elim
      | sl j p =>
        unfold stI at hh
        simp only at hh
        split at hh
        case h_2 => exact hh.elim
        rename_i t ht
        split at hh
        case h_2 => exact hh.elim
        rename_i os hwk
        split at hh
        case h_2 => exact hh.elim
        rename_i kk
        split at hh
        case h_2 => exact hh.elim
        rename_i n hn
        split at hh
        case h_2 => exact hh.elim
        rename_i t' hp
        obtain ⟨⟨v0, hv0, hwv⟩, _⟩ := hw3
        obtain ⟨B, C, hB, hBC, dBC, hup⟩ := S4.updAt ht hv0 hwk hwv
        have hl : n < os.length := by
          unfold ixD at hn
          split at hn
          · split at hn
            · cases hn; omega
            · cases hn
          · split at hn
            · cases hn; omega
            · cases hn
        obtain ⟨l, rfl⟩ : ∃ l, w = .ref l := by cases hB with | lst _ _ _ _ => exact ⟨_, rfl⟩
        obtain ⟨vs0, j1, j2, j3, j4, B', j5, j6⟩ := OR.setAt hB hy hl fun a x z => dy a z ((hBC a).mpr (.inl x))
        obtain rfl := dix.int_eq
        refine ⟨l, vs0, kk, n, rfl, rfl, j1, by rw [j2]; exact hn, ?_⟩
        have lA : A4 l := (hBC l).mpr (.inl j3)
        obtain ⟨o', p1, p2⟩ := hup _ _ _ j5 (fun a z => upd_ne fun e => by subst e; exact dBC _ j3 z) (fun a x z => (j6 a x).elim (fun x => dBC a x z) fun x => dy a x ((hBC a).mpr (.inr z))) (fun a o e => by
          rw [upd_ne fun e2 => by rw [e2, j4] at e; cases e]
          exact S4.sub a o e)
        rw [hp] at p1
        cases p1
        refine hh σ _ _ _ (st4.trans ⟨.refl _, fun a o e n => ?_, fun a z => .inl z, fun a z => ?_⟩) p2 .refl
        · rw [upd_ne fun e2 => n (.inl (by rw [e2]; exact lA))]
          exact e
        · rcases z with z | z
          · rcases j6 a z with z | z
            · exact .inl (.inl ((hBC a).mpr (.inl z)))
            · exact .inl (.inr z)
          · exact .inl (.inl ((hBC a).mpr (.inr z)))
  · cases h
end
end Lw

set_option maxRecDepth 100000
/-! LwV: o[lo:hi] = e. -/
namespace Lw
open PySem PySem.Spec PyProof.Rows L2
section
variable {X : Cx} {o lo hi : Expr} {to tl th : TE} {pos p2 : Pos}
def gSls (to tl th : TE) : TG := fun v σ H Q => to σ H fun x H1 => tPart tl σ H1 fun l H2 => tPart th σ H2 fun u H3 => ∃ (p b : Addr) (xs ys : List V) (a c : Int), x = .ref p ∧ v = .ref b ∧ l = some a ∧ u = some c ∧ H3 p = some (.lst xs) ∧ H3 b = some (.lst ys) ∧ p ≠ b ∧
  0 ≤ a ∧ a ≤ c ∧ c ≤ xs.length ∧ xs.length + ys.length ≤ sizeLine ∧ Q σ (upd H3 p (.lst (xs.take a.toNat ++ ys ++ xs.drop c.toNat)))
theorem pg_sls (ho : PE X o to) (hl : PE X lo tl) (hu : PE X hi th) : PG X (.Subscript o (.Slice (some lo) (some hi) none p2) pos) (gSls to tl th) := by
  refine ⟨fun pins s σ H v u Q I r h => ?_⟩
  have ha : assign (.Subscript o (.Slice (some lo) (some hi) none p2) pos) X.env u = (do
      let ov ← holding [u] (eval o X.env)
      let iv ← holding [u, ov] (eval (.Slice (some lo) (some hi) none p2) X.env)
      standAt pos
      holding [u, ov, iv] (setItem ov iv u)
      release [iv, u, ov] []) := rfl
  rw [ha]
  refine wpAny_bind (wpAny_holding (thn (ho.run pins s σ H _ I h) fun ov s1 ⟨x, H1, I1, r1, q1⟩ => ?_))
  refine wpAny_bind (wpAny_holding ?_)
  refine wpAny_Slice (thn ((po_some hl).run pins s1 σ H1 _ I1 q1) fun vl s2 ⟨l, H2, I2, pl, q2⟩ => thn ((po_some hu).run pins s2 σ H2 _ I2 q2) fun vu s3 ⟨w, H3, I3, pu, q3⟩ => ?_)
  rw [evalPart_none]
  refine wpAny_pure ?_
  have I4 : L2.Inv X pins σ H3 { s3 with heap := s3.heap.push { cls := .type "slice", data := .fields #[vl, vu, .none] } } := I3.kept (t' := s3.toks) fun b ob q => Heap.get?_push_of_some _ q
  obtain ⟨p, b, xs, ys, a, c, rfl, rfl, rfl, rfl, hp, hb, hne, h0, hac, hc, hz, q⟩ := q3
  cases r1
  cases r
  have ra : L2.RelV (.int a) vl := by cases pl; exact ⟨_, rfl⟩
  have rc : L2.RelV (.int c) vu := by cases pu; exact ⟨_, rfl⟩
  refine wpAny_bind (wpAny_standAt (wpAny_bind (wpAny_holding (set_slice I4 hp hb hne (Heap.IsSliceOf.new ..) ra rc h0 hac hc hz fun s5 I5 => wpAny_release ⟨σ, _, I5, q⟩))))
end
end Lw
namespace Lw
open PySem L2 RZ
section
variable {g : Gx} {c : CC} {k : Nat} {W : WX} {X : Cx}
theorem ORs.dropN {K : PySem.W.Frag} {cl : ClW} {F H : Hp} : ∀ {os : List O} {vs : List V} {A : AS} (n : Nat), ORs K cl F H os vs A → ∃ A', ORs K cl F H (os.drop n) (vs.drop n) A' ∧ ∀ a, A' a → A a
  | _, _, _, 0, h => ⟨_, h, fun _ z => z⟩
  | _, _, _, n + 1, .nil => ⟨_, .nil, fun _ z => z⟩
  | _, _, _, n + 1, .cons h1 t n1 => by
    obtain ⟨A', q1, q2⟩ := ORs.dropN n t
    exact ⟨A', q1, fun a z => .inr (q2 a z)⟩
theorem ORs.splice {K : PySem.W.Frag} {cl : ClW} {F H : Hp} {ps : List O} {ws : List V} {B : AS} (h : ORs K cl F H ps ws B) : ∀ {os : List O} {vs : List V} {A : AS} (m n : Nat), m ≤ n → ORs K cl F H os vs A → (∀ a, A a → B a → False) →
    ∃ A', ORs K cl F H (os.take m ++ ps ++ os.drop n) (vs.take m ++ ws ++ vs.drop n) A' ∧ ∀ a, A' a → A a ∨ B a
  | os, vs, A, 0, n, _, t, dj => by
    obtain ⟨A', q1, q2⟩ := ORs.dropN n t
    refine ⟨_, by rw [List.take_zero, List.take_zero, List.nil_append, List.nil_append]; exact h.append q1 fun a x y => dj a (q2 a y) x, fun a z => ?_⟩
    rcases z with z | z
    · exact .inr z
    · exact .inl (q2 a z)
  | _, _, _, m + 1, n, _, .nil, dj => by
    refine ⟨B, ?_, fun a z => .inr z⟩
    simpa using h
  | _, _, _, m + 1, n + 1, hmn, .cons h1 t n1, dj => by
    obtain ⟨A', q1, q2⟩ := ORs.splice h m n (by omega) t fun a x y => dj a (.inr x) y
    refine ⟨_, .cons h1 q1 fun a x y => ?_, fun a z => ?_⟩
    · rcases q2 a y with y | y
      · exact n1 a x y
      · exact dj a (.inl x) y
    · rcases z with z | z
      · exact .inl (.inl z)
      · rcases q2 a z with z | z
        · exact .inl (.inr z)
        · exact .inr z
/-- an owned list with a piece of it exchanged -/
theorem OR.splice {K : PySem.W.Frag} {cl : ClW} {F H : Hp} {B By : AS} {os ps : List O} {l : Addr} {ws : List V} {m n : Nat} (h : OR K cl F H (.lst os) (.ref l) B) (ho : ORs K cl F H ps ws By) (hmn : m ≤ n) (dj : ∀ a, B a → By a → False) :
    ∃ vs, H l = some (.lst vs) ∧ vs.length = os.length ∧ B l ∧ F l = none ∧ ∃ B', OR K cl F (upd H l (.lst (vs.take m ++ ws ++ vs.drop n))) (.lst (os.take m ++ ps ++ os.drop n)) (.ref l) B' ∧ ∀ a, B' a → B a ∨ By a := by
  cases h with
  | @lst p vs os A0 h1 h2 h3 h4 =>
    have nB : ∀ a, By a → a ≠ l := fun a z e => by subst e; exact dj _ (.inl rfl) z
    have nA : ∀ a, A0 a → a ≠ l := fun a z e => by subst e; exact h3 z
    have f1 := h2.frame (H' := upd H l (.lst (vs.take m ++ ws ++ vs.drop n))) (.refl _) (fun a z => upd_ne (nA a z)) fun a z => (h2.own a z).1
    have f2 := ho.frame (H' := upd H l (.lst (vs.take m ++ ws ++ vs.drop n))) (.refl _) (fun a z => upd_ne (nB a z)) fun a z => (ho.own a z).1
    obtain ⟨A', q1, q2⟩ := ORs.splice f2 m n hmn f1 fun a x y => dj a (.inr x) y
    refine ⟨vs, h1, h2.len.symm, .inl rfl, h4, _, OR.lst upd_same q1 (fun z => ?_) h4, fun a z => ?_⟩
    · rcases q2 _ z with z | z
      · exact h3 z
      · exact nB _ z rfl
    · rcases z with z | z
      · exact .inl (.inl z)
      · rcases q2 a z with z | z
        · exact .inl (.inr z)
        · exact .inr z
theorem s_sts (ok : XOs g c k W X) {o lo hi e : CE} {st : Stmt} (h : chkS c (.sts o lo hi e) st = true) : PS X st (rdS g W c.fx (ex g.G (.sts o lo hi e))) := by
  simp only [chkS] at h
  split at h
  · simp only [Bool.and_eq_true] at h
    obtain ⟨⟨⟨⟨h1, h2⟩, h3⟩, h3'⟩, h4⟩ := h
    refine ⟨fun pins s σ H D I ⟨F, A, ro, S, hh⟩ => ?_⟩
    simp only [ex] at hh
    refine (ps_asg ((snd_all g e).E ok.toXOk h4) (pg_sls ((snd_all g o).E ok.toXOk h2) ((snd_all g lo).E ok.toXOk h3) ((snd_all g hi).E ok.toXOk h3')) (sole_plain (not_of h1)) rfl rfl).run pins s σ H D I
      ⟨F, A, ro, S, hh.bindq fun hd ro1 hh v F1 H1 A1 Ao st S1 hv _ => ?_⟩
    split at hh
    case isFalse => exact hh.elim
    rename_i c1
    have hh := hh.shift (A1 := fun a => A1 a ∨ Ao a) st.asT .refl
    refine ⟨F1, A1, ro1, S1, hh.bindB fun ho ro2 hh w F2 H2 A2 Bo st2 S2 hw hq2 => ?_⟩
    split at hh
    case isFalse => exact hh.elim
    rename_i c2
    have hh := hh.shift (A1 := fun a => A2 a ∨ Ao a) (T := Bo) ((st2.frame Ao).weak fun a z => z.elim (fun z => z.elim (fun z => .inl (.inl z)) .inr) fun z => .inl (.inr z)) .refl
    obtain ⟨hv2, dv2⟩ := hv.step st2 (fun z => (hq2 (okD_of c1 z)).s)
    refine ⟨F2, A2, ro2, S2, hh.bindB fun hl ro3 hh ul F3 H3 A3 Co st3 S3 hul hq3 => ?_⟩
    obtain ⟨hv3, dv3⟩ := hv2.step st3 (fun z => (hq3 (okD_of c2.1 z)).s)
    obtain ⟨hw3, dw3⟩ := hw.step st3 (fun z => (hq3 (okD_of c2.2 z)).s)
    have hh := hh.shift (A1 := fun a => A3 a ∨ Ao a) (T := Co) ((st3.frame Ao).weak fun a z => z.elim (fun z => z.elim (fun z => .inl (.inl z)) .inr) fun z => .inl (.inr z)) .refl
    split at hh
    case h_2 => exact hh.elim
    rename_i a hla
    have da := hul.lookD S3 hla
    refine ⟨a, da.int_eq, ?_⟩
    split at hh
    case isFalse => exact hh.elim
    rename_i c3
    refine ⟨F3, A3, ro3, S3, hh.bindB fun hu ro4 hh uu F4 H4 A4 Eo st4 S4 huu hq4 => ?_⟩
    obtain ⟨hv4, dv4⟩ := hv3.step st4 (fun z => (hq4 (okD_of c3.1 z)).s)
    obtain ⟨hw4, dw4⟩ := hw3.step st4 (fun z => (hq4 (okD_of c3.2 z)).s)
    have hh := hh.shift (A1 := fun a => A4 a ∨ Ao a) (T := Eo) ((st4.frame Ao).weak fun a z => z.elim (fun z => z.elim (fun z => .inl (.inl z)) .inr) fun z => .inl (.inr z)) .refl
    split at hh
    case h_2 => exact hh.elim
    rename_i cc hlc
    have dc := huu.lookD S4 hlc
    refine ⟨cc, dc.int_eq, ?_⟩
    cases q : hd.sto ro4 with
    | exc x r => exact absurd q sto_noexc
    | stuck => rw [q] at hh; exact hh.elim
    | ok y ro5 =>
      rw [q] at hh
      simp only [Out.then_ok] at hh
      obtain ⟨F5, A5, By, S5, hy, dy, st5, su5, sb5⟩ := sto_ok S4 hv4 q
      cases ho with
      | tm x => exact hh.elim
      | sl j p =>
        unfold stS at hh
        simp only at hh
        split at hh
        case h_2 => exact hh.elim
        rename_i t ht
        split at hh
        case h_2 => exact hh.elim
        rename_i os hwk
        split at hh
        case h_2 => exact hh.elim
        rename_i ps hps
        split at hh
        case isFalse => exact hh.elim
        rename_i hc
        obtain ⟨n0, n1, n2, n3⟩ := hc
        split at hh
        case h_2 => exact hh.elim
        rename_i t' hp
        obtain ⟨⟨v0, hv0, hwv⟩, _⟩ := hw4
        obtain ⟨B, C, hB, hBC, dBC, hup⟩ := S5.updAt ht hv0 hwk hwv
        obtain ⟨l, rfl⟩ : ∃ l, w = .ref l := by cases hB with | lst _ _ _ _ => exact ⟨_, rfl⟩
        -- the list that is put in
        obtain ⟨b, zs, Bz, rfl, hb, hz, sbz⟩ : ∃ (b : Addr) (zs : List V) (Bz : AS), v = .ref b ∧ H4 b = some (.lst zs) ∧ ORs g.K g.cl F5 H4 ps zs Bz ∧ ∀ a, Bz a → By a := by
          cases hy with
          | @lst b zs es A0 z1 z2 z3 z4 =>
            cases hps
            exact ⟨b, zs, A0, rfl, z1, z2, fun a z => .inr z⟩
          | d dq =>
            rename_i dd
            cases dd <;> simp only [lstO] at hps <;> try cases hps
            obtain ⟨b, zs, rfl, z1, z2⟩ := dq.lst_eq
            exact ⟨b, zs, _, rfl, S5.sub _ _ z1, ORs.ofData z2, fun a z => z.elim⟩
          | _ => cases hps
        obtain ⟨vs0, j1, j2, j3, j4, B', j5, j6⟩ := OR.splice (m := a.toNat) (n := cc.toNat) hB hz (by omega) fun a x z => dy a (sbz a z) ((hBC a).mpr (.inl x))
        have hne : l ≠ b := fun e => by
          subst e
          cases hy with
          | lst z1 z2 z3 z4 => exact dy _ (.inl rfl) ((hBC _).mpr (.inl j3))
          | d dq =>
            rename_i dd
            cases dd <;> simp only [lstO] at hps <;> try cases hps
            obtain ⟨b, zs, e1, z1, z2⟩ := dq.lst_eq
            cases e1
            rw [j4] at z1; cases z1
          | _ => cases hps
        have zl := hz.len
        have n3 := lenOk_le n3
        refine ⟨l, b, vs0, zs, a, cc, rfl, rfl, rfl, rfl, j1, hb, hne, n0, n1, by rw [j2]; exact n2, by rw [j2, ← zl]; exact n3, ?_⟩
        have lA : A5 l := (hBC l).mpr (.inl j3)
        obtain ⟨o', p1, p2⟩ := hup _ _ _ j5 (fun a z => upd_ne fun e => by subst e; exact dBC _ j3 z) (fun a x z => (j6 a x).elim (fun x => dBC a x z) fun x => dy a (sbz a x) ((hBC a).mpr (.inr z))) (fun a o e => by
          rw [upd_ne fun e2 => by rw [e2, j4] at e; cases e]
          exact S5.sub a o e)
        rw [hp] at p1
        cases p1
        refine hh σ _ _ _ (st5.trans ⟨.refl _, fun a o e n => ?_, fun a z => .inl z, fun a z => ?_⟩) p2 .refl
        · rw [upd_ne fun e2 => n (.inl (by rw [e2]; exact lA))]
          exact e
        · rcases z with z | z
          · rcases j6 a z with z | z
            · exact .inl (.inl ((hBC a).mpr (.inl z)))
            · exact .inl (.inr (sbz a z))
          · exact .inl (.inl ((hBC a).mpr (.inr z)))
  · cases h
end
end Lw

set_option maxRecDepth 100000
/-! LwW: d[k] = e. -/
namespace Lw
open PySem L2 RZ
section
variable {g : Gx} {c : CC} {k : Nat} {W : WX} {X : Cx}
theorem storedH_cons {x : NestedKey × Addr × Value} {xs : NX} {k : NestedKey} {b : Addr} {u : Value} (hn : ((x :: xs).map (·.1)).Nodup) :
    storedH (x :: xs) k b u = if x.1 = k then (x.1, x.2.1, u) :: xs else x :: storedH xs k b u := by
  by_cases e : x.1 = k
  · rw [if_pos e]
    have h1 : atKey (x :: xs) k = some x.2 := by unfold atKey; rw [List.find?_cons_of_pos (by simpa using e)]; rfl
    rw [storedH_old h1, List.map_cons]
    have h2 : putAt k u x = (x.1, x.2.1, u) := by unfold putAt; rw [if_pos e]
    rw [h2]
    congr 1
    conv => rhs; rw [← List.map_id xs]
    refine List.map_congr_left fun y hy => ?_
    unfold putAt
    rw [if_neg fun z => ?_]
    · rfl
    · rw [List.map_cons] at hn
      exact (List.nodup_cons.mp hn).1 (by rw [e, ← z]; exact List.mem_map_of_mem hy)
  · rw [if_neg e]
    have h1 : atKey (x :: xs) k = atKey xs k := by unfold atKey; rw [List.find?_cons_of_neg (by simpa using e)]
    unfold storedH
    rw [h1]
    split
    · rw [List.map_cons]
      have h2 : putAt k u x = x := by unfold putAt; rw [if_neg e]
      rw [h2]
    · rfl
theorem dPut_ok {K : PySem.W.Frag} {cl : ClW} {F H : Hp} {kk : NestedKey} {b : Addr} {u : Value} {y : O} {v : V} {By : AS} (hy : OR K cl F H y v By) (rv : RelV v u) (hk : Dq K F (.ref b) kk.data ∧ kk.depth ≤ 8) :
    ∀ {xs : NX} {os : List O} {vs : List V} {A : AS}, ORs K cl F H os vs A → Vals vs (xs.map (·.2.2)) → (xs.map (·.1)).Nodup → KeysN K F xs → (∀ a, A a → By a → False) →
    ∃ os' vs' A', dPut (xs.map (·.1.data)) os kk.data kk y = ((storedH xs kk b u).map (·.1.data), os') ∧ ORs K cl F H os' vs' A' ∧ Vals vs' ((storedH xs kk b u).map (·.2.2)) ∧ KeysN K F (storedH xs kk b u) ∧ ∀ a, A' a → A a ∨ By a
  | [], _, _, _, h, r, hn, hK, dj => by
    cases r
    cases h
    refine ⟨[y], [v], _, rfl, .cons hy .nil fun _ _ z => z, .cons rv .nil, fun x hx => ?_, fun a z => z.elim .inr fun z => z.elim⟩
    rw [List.mem_singleton.mp hx]
    exact hk
  | x :: xs, _, _, _, h, r, hn, hK, dj => by
    rw [List.map_cons] at r
    cases r with
    | cons r1 r2 =>
      cases h with
      | cons h1 h2 n =>
        rw [storedH_cons hn]
        by_cases e : x.1 = kk
        · rw [if_pos e]
          refine ⟨_, _, _, by rw [List.map_cons, dPut, toKey_of_data, if_pos (by rw [e])]; rfl, .cons hy h2 fun a z w => dj a (.inr w) z, .cons rv r2, fun z hz => ?_, fun a z => z.elim .inr fun z => .inl (.inr z)⟩
          rcases List.mem_cons.mp hz with rfl | hz
          · exact hK x List.mem_cons_self
          · exact hK z (List.mem_cons_of_mem _ hz)
        · rw [if_neg e]
          rw [List.map_cons] at hn
          obtain ⟨os', vs', A', q1, q2, q3, q4, q5⟩ := dPut_ok hy rv hk h2 r2 (List.nodup_cons.mp hn).2 (fun z hz => hK z (List.mem_cons_of_mem _ hz)) fun a z w => dj a (.inr z) w
          refine ⟨_, _, _, by rw [List.map_cons, dPut, toKey_of_data, if_neg (fun z => e (Option.some.inj z)), q1]; rfl, .cons h1 q2 fun a z w => (q5 a w).elim (n a z) fun w => dj a (.inl z) w, .cons r1 q3, fun z hz => ?_, fun a z => ?_⟩
          · rcases List.mem_cons.mp hz with rfl | hz
            · exact hK z List.mem_cons_self
            · exact q4 z hz
          · rcases z with z | z
            · exact .inl (.inl z)
            · exact (q5 a z).elim (fun z => .inl (.inr z)) .inr
theorem s_std (ok : XOs g c k W X) {o i e : CE} {st : Stmt} (h : chkS c (.std o i e) st = true) : PS X st (rdS g W c.fx (ex g.G (.std o i e))) := by
  simp only [chkS] at h
  split at h
  · simp only [Bool.and_eq_true] at h
    obtain ⟨⟨⟨⟨h0, h1⟩, h2⟩, h3⟩, h4⟩ := h
    refine ⟨fun pins s σ H D I ⟨F, A, ro, S, hh⟩ => ?_⟩
    simp only [ex] at hh
    refine (ps_asg ((snd_all g e).E ok.toXOk h4) (pg_sub ((snd_all g o).E ok.toXOk h2) ((snd_all g i).E ok.toXOk h3) (set_n ok.toXOk.hu) (asg_sub h0)) (sole_plain (not_of h1)) rfl rfl).run pins s σ H D I
      ⟨F, A, ro, S, hh.bindq fun hd ro1 hh v F1 H1 A1 Ao st S1 hv _ => ?_⟩
    split at hh
    case isFalse => exact hh.elim
    rename_i c1
    have hh := hh.shift (A1 := fun a => A1 a ∨ Ao a) st.asT .refl
    refine ⟨F1, A1, ro1, S1, hh.bindB fun ho ro2 hh w F2 H2 A2 Bo st2 S2 hw hq2 => ?_⟩
    split at hh
    case isFalse => exact hh.elim
    rename_i c2
    have hh := hh.shift (A1 := fun a => A2 a ∨ Ao a) (T := Bo) ((st2.frame Ao).weak fun a z => z.elim (fun z => z.elim (fun z => .inl (.inl z)) .inr) fun z => .inl (.inr z)) .refl
    obtain ⟨hv2, dv2⟩ := hv.step st2 (fun z => (hq2 (okD_of c1 z)).s)
    refine ⟨F2, A2, ro2, S2, hh.bindB fun hi ro3 hh u F3 H3 A3 Co st3 S3 hu hq3 => ?_⟩
    obtain ⟨hv3, dv3⟩ := hv2.step st3 (fun z => (hq3 (okD_of c2.1 z)).s)
    obtain ⟨hw3, dw3⟩ := hw.step st3 (fun z => (hq3 (okD_of c2.2 z)).s)
    have hh := hh.shift (A1 := fun a => A3 a ∨ Ao a) (T := Co) ((st3.frame Ao).weak fun a z => z.elim (fun z => z.elim (fun z => .inl (.inl z)) .inr) fun z => .inl (.inr z)) .refl
    split at hh
    case h_2 => exact hh.elim
    rename_i ix hix
    obtain ⟨Bi, hOi, _⟩ := hu.look S3 hix
    have dix : Dq g.K F3 u ix := by cases hOi with | d z => exact z
    cases q : hd.sto ro3 with
    | exc x r => exact absurd q sto_noexc
    | stuck => rw [q] at hh; exact hh.elim
    | ok y ro4 =>
      rw [q] at hh
      simp only [Out.then_ok] at hh
      obtain ⟨F4, A4, By, S4, hy, dy, st4, su4, sb4⟩ := sto_ok S3 hv3 q
      cases ho with
      | tm x => exact hh.elim
      | sl j p =>
        unfold stD at hh
        simp only at hh
        split at hh
        case h_2 => exact hh.elim
        rename_i t ht
        split at hh
        case h_2 => exact hh.elim
        rename_i ks os hwk
        split at hh
        case h_2 => exact hh.elim
        rename_i kk hkk
        split at hh
        case isFalse => exact hh.elim
        rename_i hlen
        split at hh
        case h_2 => exact hh.elim
        rename_i t' hp
        have hlen := lenOk_le hlen
        obtain ⟨⟨v0, hv0, hwv⟩, _⟩ := hw3
        obtain ⟨B, C, hB, hBC, dBC, hup⟩ := S4.updAt ht hv0 hwk hwv
        have dix4 : Dq g.K F4 u ix := Dq.mono st4.fr _ _ dix
        obtain ⟨⟨b, rfl⟩, kd, kdep⟩ := keyV_of hkk dix4
        obtain ⟨ke, _⟩ := keyT_of hkk
        cases hB with
        | @dct l xs os vs A0 z1 z2 z3 z4 z5 =>
          obtain ⟨k1, k2, k3, k4, k5⟩ := z2
          rw [List.length_map] at hlen
          have bl : ∀ a, By a → a ≠ l := fun a z e => by subst e; exact dy _ z ((hBC _).mpr (.inl (.inl rfl)))
          have al : ∀ a, A0 a → a ≠ l := fun a z e => by subst e; exact z4 z
          rw [ok.kk, ok.ww, ← ok.cw]
          refine ⟨F4, l, b, xs, kk, S4.sub, rfl, rfl, z1, ⟨k1, k3, k4, k5⟩, ⟨⟨b, rfl⟩, kd, kdep⟩, by omega, fun uu ruu nd' => ?_⟩
          have f1 := z3.frame (H' := upd H3 l (dcO g.cl.w l (storedH xs kk b uu))) (.refl _) (fun a z => upd_ne (al a z)) fun a z => (z3.own a z).1
          have f2 := hy.frame (H' := upd H3 l (dcO g.cl.w l (storedH xs kk b uu))) (.refl _) (fun a z => upd_ne (bl a z)) fun a z => (hy.own a z).1
          obtain ⟨os', vs', A', q1, q2, q3, q4, q5⟩ := dPut_ok (b := b) f2 ruu ⟨kd, kdep⟩ f1 k2 k3 k1 fun a z w => dy a w ((hBC a).mpr (.inl (.inr z)))
          rw [ke] at q1
          rw [q1] at hp
          have hl2 : (storedH xs kk b uu).length ≤ sizeLine := by
            have : (storedH xs kk b uu).length ≤ xs.length + 1 := by
              have := congrArg List.length (congrArg Prod.fst q1)
              unfold storedH
              split
              · rw [List.length_map]; omega
              · rw [List.length_append]; simp
            omega
          have j5 : OR g.K g.cl F4 (upd H3 l (dcO g.cl.w l (storedH xs kk b uu))) (.dct ((storedH xs kk b uu).map (·.1.data)) os') (.ref l) (fun a => a = l ∨ A' a) :=
            OR.dct upd_same ⟨q4, q3, nd', hl2, k5⟩ q2 (fun z => (q5 _ z).elim z4 fun z => bl _ z rfl) z5
          have lA : A4 l := (hBC l).mpr (.inl (.inl rfl))
          have sB : ∀ a, (a = l ∨ A' a) → (a = l ∨ A0 a) ∨ By a := fun a z => z.elim (fun z => .inl (.inl z)) fun z => (q5 a z).elim (fun z => .inl (.inr z)) .inr
          obtain ⟨o', p1, p2⟩ := hup _ _ _ j5 (fun a z => upd_ne fun e => by subst e; exact dBC _ (.inl rfl) z) (fun a x z => (sB a x).elim (fun x => dBC a x z) fun x => dy a x ((hBC a).mpr (.inr z))) (fun a o e => by
            rw [upd_ne fun e2 => by rw [e2, z5] at e; cases e]
            exact S4.sub a o e)
          rw [hp] at p1
          cases p1
          refine hh σ _ _ _ (st4.trans ⟨.refl _, fun a o e n => ?_, fun a z => .inl z, fun a z => ?_⟩) p2 .refl
          · rw [upd_ne fun e2 => n (.inl (by rw [e2]; exact lA))]
            exact e
          · rcases z with z | z
            · rcases sB a z with z | z
              · exact .inl (.inl ((hBC a).mpr (.inl z)))
              · exact .inl (.inr z)
            · exact .inl (.inl ((hBC a).mpr (.inr z)))
  · cases h
end
end Lw

set_option maxRecDepth 100000
/-! LwP: o.f = e, o.f op= e. -/
namespace Lw
open PySem L2 RZ
section
variable {g : Gx} {c : CC} {k : Nat} {W : WX} {X : Cx}
theorem putN_ok {K : PySem.W.Frag} {cl : ClW} {F H : Hp} {f : Str} {y : O} {v : V} {By : AS} (hy : OR K cl F H y v By) : ∀ {fs : List (Str × V)} {os : List O} {A : AS}, ORs K cl F H os (fs.map (·.2)) A → (∀ a, By a → A a → False) →
    (putF f v fs).map (·.1) = (putN (fs.map (·.1)) os f y).1 ∧ ∃ A', ORs K cl F H (putN (fs.map (·.1)) os f y).2 ((putF f v fs).map (·.2)) A' ∧ ∀ a, A' a → A a ∨ By a
  | [], os, A, h, _ => by
    cases h
    exact ⟨rfl, _, .cons hy .nil fun _ _ z => z, fun a z => z.elim .inr False.elim⟩
  | (n, w) :: fs, os, A, h, dj => by
    rw [List.map_cons] at h
    cases h with
    | @cons o0 os0 _ _ A0 B0 h t n2 =>
      by_cases e : n = f
      · subst e
        have e1 : putF n v ((n, w) :: fs) = (n, v) :: fs := if_pos rfl
        have e2 : putN (((n, w) :: fs).map (·.1)) (o0 :: os0) n y = (n :: fs.map (·.1), y :: os0) := if_pos rfl
        rw [e1, e2]
        exact ⟨rfl, _, .cons hy t fun a x z => dj a x (.inr z), fun a z => z.elim .inr fun z => .inl (.inr z)⟩
      · have e1 : putF f v ((n, w) :: fs) = (n, w) :: putF f v fs := if_neg e
        have e2 : putN (((n, w) :: fs).map (·.1)) (o0 :: os0) f y = (n :: (putN (fs.map (·.1)) os0 f y).1, o0 :: (putN (fs.map (·.1)) os0 f y).2) := if_neg e
        obtain ⟨k1, A', k2, k3⟩ := putN_ok hy t fun a x z => dj a x (.inr z)
        rw [e1, e2]
        refine ⟨by rw [List.map_cons, k1], _, .cons h k2 fun a x z => (k3 a z).elim (n2 a x) fun z => dj a z (.inl x), fun a z => ?_⟩
        rcases z with z | z
        · exact .inl (.inl z)
        · exact (k3 a z).elim (fun z => .inl (.inr z)) .inr
/-- an instance's field put: the step -/
theorem stA_ok {d f : Str} {C0 : Addr} {fx : List Nat} {ho : Hd} {y : O} {ro : Ro} {F F0 H : Hp} {A AA By Bo : AS} {σ : L2.St} {w v : V} {D : Ends} (S : SR g.K g.cl F A ro σ H) (hw : HR g.K g.cl F0 H AA σ ho w Bo) (hy : OR g.K g.cl F H y v By) (dy : ∀ a, By a → A a → False) (cC : g.cl d = some C0)
    (hh : PostS g W fx F (fun a => A a ∨ By a) σ H (stA d f ho y ro) D) : ∃ a dx fs, w = .ref a ∧ H a = some (.ins C0 dx fs) ∧ fs.length < 1000 ∧ D.nx σ (upd H a (.ins C0 dx (putF f v fs))) := by
  cases ho with
  | tm x => exact hh.elim
  | sl j p =>
    unfold stA at hh
    simp only at hh
    split at hh
    case h_2 => exact hh.elim
    rename_i t ht
    split at hh
    case h_2 => exact hh.elim
    rename_i c0 ns os hwk
    split at hh
    case isFalse => exact hh.elim
    rename_i hc
    obtain ⟨rfl, hlen⟩ := hc
    split at hh
    case h_2 => exact hh.elim
    rename_i t' hp
    obtain ⟨⟨v0, hv0, hwv⟩, _⟩ := hw
    obtain ⟨B, C, hB, hBC, dBC, hup⟩ := S.updAt ht hv0 hwk hwv
    cases hB with
    | @ins l C' dx _ fs _ A0 z1 z2 z3 z4 z5 =>
      rw [cC] at z2
      cases z2
      rw [List.length_map] at hlen
      refine ⟨l, dx, fs, rfl, z1, hlen, ?_⟩
      have al : ∀ a, A0 a → a ≠ l := fun a z e => by subst e; exact z4 z
      have lA : A l := (hBC l).mpr (.inl (.inl rfl))
      have bl : ∀ a, By a → a ≠ l := fun a z e => by subst e; exact dy _ z lA
      have f1 := z3.frame (H' := upd H l (.ins C0 dx (putF f v fs))) (.refl _) (fun a z => upd_ne (al a z)) fun a z => (z3.own a z).1
      have f2 := hy.frame (H' := upd H l (.ins C0 dx (putF f v fs))) (.refl _) (fun a z => upd_ne (bl a z)) fun a z => (hy.own a z).1
      obtain ⟨q1, A', q2, q3⟩ := putN_ok (f := f) f2 f1 fun a z w => dy a z ((hBC a).mpr (.inl (.inr w)))
      have j5 : OR g.K g.cl F (upd H l (.ins C0 dx (putF f v fs))) (.ins c0 (putN (fs.map (·.1)) os f y).1 (putN (fs.map (·.1)) os f y).2) (.ref l) (fun a => a = l ∨ A' a) := by
        have := OR.ins (K := g.K) (cl := g.cl) (F := F) (H := upd H l (.ins C0 dx (putF f v fs))) (p := l) (dx := dx) (c := c0) upd_same cC q2 (fun z => (q3 _ z).elim z4 fun z => bl _ z rfl) z5
        rw [q1] at this
        exact this
      have sB : ∀ a, (a = l ∨ A' a) → (a = l ∨ A0 a) ∨ By a := fun a z => z.elim (fun z => .inl (.inl z)) fun z => (q3 a z).elim (fun z => .inl (.inr z)) .inr
      obtain ⟨o', p1, p2⟩ := hup _ _ _ j5 (fun a z => upd_ne fun e => by subst e; exact dBC _ (.inl rfl) z) (fun a x z => (sB a x).elim (fun x => dBC a x z) fun x => dy a x ((hBC a).mpr (.inr z))) (fun a o e => by
        rw [upd_ne fun e2 => by rw [e2, z5] at e; cases e]
        exact S.sub a o e)
      rw [hp] at p1
      cases p1
      refine hh σ _ _ _ ⟨.refl _, fun a o e n => ?_, fun a z => .inl z, fun a z => ?_⟩ p2 .refl
      · rw [upd_ne fun e2 => n (.inl (by rw [e2]; exact lA))]
        exact e
      · rcases z with z | z
        · rcases sB a z with z | z
          · exact .inl (.inl ((hBC a).mpr (.inl z)))
          · exact .inl (.inr z)
        · exact .inl (.inl ((hBC a).mpr (.inr z)))
theorem swA {e o : Expr} {f : Str} {p : Pos} {l : Nat} {env : Env} (h : isComp e = false) : swapsWith e (some (.Attribute o f p)) l env = pure false := by
  cases e <;> first | rfl | cases h
theorem s_sta (ok : XOs g c k W X) {d f : Str} {o e : CE} {st : Stmt} (h : chkS c (.sta d o f e) st = true) : PS X st (rdS g W c.fx (ex g.G (.sta d o f e))) := by
  simp only [chkS] at h
  split at h
  · simp only [Bool.and_eq_true, decide_eq_true_eq] at h
    obtain ⟨⟨⟨⟨h0, h1⟩, h2⟩, h3⟩, h4⟩ := h
    subst h0
    obtain ⟨k0, hk0, hk⟩ := List.any_eq_true.mp h2
    simp only [Bool.and_eq_true, decide_eq_true_eq] at hk
    obtain ⟨hk1, hk2⟩ := hk
    obtain ⟨C, fI, fdI, psI, c1, c2, c3, c4, c5, c6, c7, c8⟩ := ok.cls k0 hk0
    rw [hk1] at c1
    refine ⟨fun pins s σ H D I ⟨F, A, ro, S, hh⟩ => ?_⟩
    simp only [ex] at hh
    refine (ps_fld ((snd_all g o).E ok.toXOk h3) ((snd_all g e).E ok.toXOk h4) (swA (not_of h1))).run pins s σ H D I
      ⟨F, A, ro, S, hh.bindq fun hd ro1 hh v F1 H1 A1 Ao st S1 hv _ => ?_⟩
    split at hh
    case isFalse => exact hh.elim
    rename_i c1'
    have hh := hh.shift (A1 := fun a => A1 a ∨ Ao a) st.asT .refl
    refine ⟨F1, A1, ro1, S1, hh.bindB fun ho ro2 hh w F2 H2 A2 Bo st2 S2 hw hq2 => ?_⟩
    have hh := hh.shift (A1 := fun a => A2 a ∨ Ao a) (T := Bo) ((st2.frame Ao).weak fun a z => z.elim (fun z => z.elim (fun z => .inl (.inl z)) .inr) fun z => .inl (.inr z)) .refl
    obtain ⟨hv2, dv2⟩ := hv.step st2 (fun z => (hq2 (okD_of c1' z)).s)
    cases q : hd.sto ro2 with
    | exc x r => exact absurd q sto_noexc
    | stuck => rw [q] at hh; exact hh.elim
    | ok y ro4 =>
      rw [q] at hh
      simp only [Out.then_ok] at hh
      obtain ⟨F4, A4, By, S4, hy, dy, st4, su4, sb4⟩ := sto_ok S2 hv2 q
      have hh := hh.shift (A1 := fun a => A4 a ∨ By a) (T := fun _ => False) (st4.weak fun a z => z.elim id False.elim) .refl
      obtain ⟨a, dx, fs, r1, r2, r3, r4⟩ := stA_ok S4 hw hy dy c1 hh
      rw [ok.kk]
      exact ⟨a, C, dx, fs, r1, r2, c3, c4 _ (by simpa using hk2), r3, r4⟩
  · cases h
theorem s_auga (ok : XOs g c k W X) {d f : Str} {o e : CE} {op : Operator} {st : Stmt} (h : chkS c (.auga d o f op e) st = true) : PS X st (rdS g W c.fx (ex g.G (.auga d o f op e))) := by
  simp only [chkS] at h
  split at h
  · rename_i o' f' pf op' e' pos
    simp only [Bool.and_eq_true, decide_eq_true_eq] at h
    obtain ⟨⟨⟨⟨⟨h0, h1⟩, h5⟩, h2⟩, h3⟩, h4⟩ := h
    subst h0
    subst h1
    obtain ⟨k0, hk0, hk⟩ := List.any_eq_true.mp h2
    simp only [Bool.and_eq_true, decide_eq_true_eq] at hk
    obtain ⟨hk1, hk2⟩ := hk
    obtain ⟨C, fI, fdI, psI, c1, c2, c3, c4, c5, c6, c7, c8⟩ := ok.cls k0 hk0
    rw [hk1] at c1
    have cN := c4 f' (by simpa using hk2)
    refine ⟨fun pins s σ H D I ⟨F, A, ro, S, hh⟩ => ?_⟩
    simp only [ex] at hh
    have key : ∀ {rd : V → V → Hp → VK → Prop} (hp : InOp X op rd) (hf : ∀ x y z, augO op x y = some z → ∃ a b r, x = .int a ∧ y = .int b ∧ z = .int r ∧ ∀ H Q, Q (.int r) H → rd (.int a) (.int b) H Q), wpAny (model X.prog X.w) X.A (exec (.AugAssign (.Attribute o' f' pf) op e' pos) X.env) (SP X pins D) X.xe s := fun {rd} hp hf => by
      refine (ps_fldaug ((snd_all g o).E ok.toXOk h3) ((snd_all g e).E ok.toXOk h4) hp).run pins s σ H D I ⟨F, A, ro, S, hh.bindq fun ho ro1 hh w F1 H1 A1 Ao st S1 hw _ => ?_⟩
      have hh := hh.shift (A1 := fun a => A1 a ∨ Ao a) st.asT .refl
      rw [ok.kk]
      split at hh
      case h_2 => exact hh.elim
      rename_i x hx
      split at hh
      case isFalse => exact hh.elim
      rename_i c1'
      cases ho with
      | tm t => exact nomatch hx
      | sl j p =>
        simp only [fldS] at hx
        split at hx
        case h_2 => cases hx
        rename_i c0 ns os hl
        split at hx
        case isFalse => cases hx
        rename_i hc
        subst hc
        split at hx
        case h_2 => cases hx
        rename_i x' ho
        cases hx
        obtain ⟨B, hB, _⟩ := hw.look S1 hl
        have hnA : ∀ a, ¬ Ao a := hw.2
        cases hB with
        | @ins q C' dx _ fs _ Ai q1 q2 q3 q4 q5 =>
          rw [c1] at q2
          cases q2
          obtain ⟨v', B', j1, j2, j3⟩ := ORs.getN q3 ho
          refine ⟨q, C, dx, fs, v', rfl, q1, c3, cN, j1, F1, A1, ro1, S1, hh.bindB fun hd ro2 hh v F2 H2 A2 Bo st2 S2 hv hq2 => ?_⟩
          have hh := hh.shift (A1 := fun a => A2 a ∨ Ao a) (T := Bo) ((st2.frame Ao).weak fun a z => z.elim (fun z => z.elim (fun z => .inl (.inl z)) .inr) fun z => .inl (.inr z)) .refl
          obtain ⟨hw2, _⟩ := hw.step st2 (fun z => (hq2 (okD_of c1' z)).s)
          split at hh
          case h_2 => exact hh.elim
          rename_i y hy
          split at hh
          case h_2 => exact hh.elim
          rename_i z hz
          obtain ⟨a, b, r, rfl, rfl, rfl, ht⟩ := hf _ _ _ hz
          have d1 := (hv.lookD S2 hy).int_eq
          have d0 : v' = .int a := by cases j2 with | d h => exact h.int_eq
          rw [d0, d1]
          refine ht _ _ ?_
          have hh := hh.shift (A1 := fun a => A2 a ∨ False) (T := fun _ => False) ((Stp.refl).weak fun a z => z.elim (fun z => z.elim .inl False.elim) False.elim) .refl
          obtain ⟨a, dx', fs', r1, r2, r3, r4⟩ := stA_ok S2 hw2 (.d (.int _)) (fun _ z => z.elim) c1 hh
          cases r1
          exact ⟨dx', fs', r2, r3, r4⟩
    cases op with
    | Add => exact key in_add fun x y z e => by obtain ⟨a, b, rfl, rfl, rfl⟩ := aug_add e; exact ⟨a, b, _, rfl, rfl, rfl, fun H Q q => ⟨a, b, rfl, rfl, q⟩⟩
    | Sub => exact key in_sub fun x y z e => by obtain ⟨a, b, rfl, rfl, rfl⟩ := aug_sub e; exact ⟨a, b, _, rfl, rfl, rfl, fun H Q q => ⟨a, b, rfl, rfl, q⟩⟩
    | _ => simp at h5
  · cases h
/-- o.f as a target -/
def gFld (K : PySem.W.Frag) (to : TE) (f : Str) : TG := fun v σ H Q => to σ H fun x H1 => ∃ a C dx fs, x = .ref a ∧ H1 a = some (.ins C dx fs) ∧ Cls K C ∧ NoAttr K C f ∧ fs.length < 1000 ∧ Q σ (upd H1 a (.ins C dx (putF f v fs)))
theorem pg_fld {o : Expr} {f : Str} {pos : Pos} {to : TE} (ho : PE X o to) : PG X (.Attribute o f pos) (gFld X.K to f) := by
  refine ⟨fun pins s σ H v u Q I r h => ?_⟩
  rw [assign_Attribute]
  refine wpAny_bind (wpAny_holding (thn (ho.run pins s σ H _ I h) fun ov s1 ⟨x, H1, I1, r1, a, C, dx, fs, ex, ea, hc, n, l, q⟩ => ?_))
  subst ex
  obtain rfl : ov = Value.ref a := r1
  exact wpAny_bind (wpAny_standAt (wpAny_bind (wpAny_holding (setattr_ok I1 ea hc n l r fun s3 I3 => wpAny_release ⟨σ, _, I3, q⟩))))
theorem as_attr {o : Expr} {f : Str} {pos : Pos} {ts : List Expr} {env : Env} : (assignEach (.Attribute o f pos :: ts) env).map (·.2) = assign (.Attribute o f pos) env :: (assignEach ts env).map (·.2) := rfl
theorem as_len {d : Str} {i : Nat} {env : Env} : ∀ {fs : List Str} {ts : List Expr}, chkF c d i fs ts = true → (assignEach ts env).length = ts.length ∧ (assignEach ts env).findIdx? (·.1) = none ∧ fs.length = ts.length
  | [], ts, h => by
    simp only [chkF] at h
    split at h
    · exact ⟨rfl, rfl, rfl⟩
    · cases h
  | f :: fs, ts, h => by
    simp only [chkF] at h
    split at h
    · rename_i o' f' p ts'
      simp only [Bool.and_eq_true] at h
      obtain ⟨k1, k2, k3⟩ := as_len (env := env) h.2
      refine ⟨?_, ?_, by rw [List.length_cons, List.length_cons, k3]⟩
      · show (assignEach ts' env).length + 1 = ts'.length + 1
        rw [k1]
      · show List.findIdx? (·.1) ((false, assign (.Attribute o' f' p) env) :: assignEach ts' env) = none
        rw [List.findIdx?_cons, k2]
        rfl
    · cases h
/-- fields stored one after another -/
theorem gs_fld (ok : XOs g c k W X) {d : Str} {i : Nat} : ∀ {fs : List Str} {ts : List Expr}, chkF c d i fs ts = true → ∃ tgs, PGs X ts tgs ∧
    ∀ {xs : List PyData} {vs : List V} {ro : Ro} {F H : Hp} {A : AS} {σ : L2.St} {D : Ends}, SR g.K g.cl F A ro σ H → DqAll g.K F vs xs → PostS g W c.fx F A σ H (unA d i fs xs ro) D → tgs vs σ H D.nx
  | [], ts, h => by
    simp only [chkF] at h
    split at h
    · refine ⟨_, pgs_nil, fun {xs vs ro F H A σ D} S hx hh => ?_⟩
      cases hx with
      | nil => exact ⟨rfl, hh σ F H A .refl S .refl⟩
      | cons _ _ => exact hh.elim
    · cases h
  | f :: fs, ts, h => by
    simp only [chkF] at h
    split at h
    · rename_i o' f' p ts'
      simp only [Bool.and_eq_true, decide_eq_true_eq] at h
      obtain ⟨⟨⟨h0, h1⟩, h2⟩, h3⟩ := h
      subst h0
      obtain ⟨k0, hk0, hk⟩ := List.any_eq_true.mp h2
      simp only [Bool.and_eq_true, decide_eq_true_eq] at hk
      obtain ⟨hk1, hk2⟩ := hk
      obtain ⟨C, fI, fdI, psI, c1, c2, c3, c4, c5, c6, c7, c8⟩ := ok.cls k0 hk0
      rw [hk1] at c1
      obtain ⟨tgs, t1, t2⟩ := gs_fld ok h3
      refine ⟨_, pgs_cons (pg_fld ((snd_all g (.var i)).E (W := W) ok.toXOk h1)) t1 as_attr, fun {xs vs ro F H A σ D} S hx hh => ?_⟩
      cases hx with
      | nil => exact hh.elim
      | @cons v vs x xs hx1 hx2 =>
        rw [unA] at hh
        refine ⟨v, vs, rfl, F, A, ro, S, ?_⟩
        cases q : stA d f' (.sl i []) (.d x) ro with
        | nx ro1 =>
          rw [q] at hh
          have hv : ev g.G (.var i) ro = .ok (.sl i []) ro := by
            simp only [ev]
            unfold stA at q
            simp only at q
            split at q
            · rename_i t ht
              first | rw [ht] | rfl | (rw [ht] <;> rfl)
            · cases q
          rw [hv]
          intro w F1 H1 A1 Ao st S1 hw _
          have q' : PostS g W c.fx F1 (fun a => A1 a ∨ False) σ H1 (stA d f' (.sl i []) (.d x) ro) { D with nx := fun σ' H' => tgs vs σ' H' D.nx } := by
            rw [q]
            intro σ' F' H' A' st' S' ag
            refine t2 S' (Dq.monoAll (st.fr.trans st'.fr) _ _ hx2) (hh.shift (T := fun _ => False) ((st.weak fun a z => z.elim .inl False.elim).trans st').asT ag)
          obtain ⟨a, dx, fs0, r1, r2, r3, r4⟩ := stA_ok S1 hw (.d (Dq.mono st.fr _ _ hx1)) (fun _ z => z.elim) c1 q'
          rw [ok.kk]
          exact ⟨a, C, dx, fs0, r1, r2, c3, c4 _ (by simpa using hk2), r3, r4⟩
        | brk ro1 => rw [q] at hh; exact hh.elim
        | ct ro1 => rw [q] at hh; exact hh.elim
        | ret o ro1 => rw [q] at hh; exact hh.elim
        | exc y ro1 => rw [q] at hh; exact hh.elim
        | stuck => rw [q] at hh; exact hh.elim
    · cases h
theorem unA_len {d : Str} {i : Nat} : ∀ {fs : List Str} {xs : List PyData} {ro : Ro}, unA d i fs xs ro ≠ .stuck → xs.length = fs.length
  | [], [], _, _ => rfl
  | [], _ :: _, _, h => absurd rfl h
  | _ :: _, [], _, h => absurd rfl h
  | f :: fs, x :: xs, ro, h => by
    rw [unA] at h
    split at h
    · rw [List.length_cons, List.length_cons, unA_len h]
    · exact absurd rfl h
theorem s_una (ok : XOs g c k W X) {d : Str} {i : Nat} {fs : List Str} {e : CE} {st : Stmt} (h : chkS c (.una d i fs e) st = true) : PS X st (rdS g W c.fx (ex g.G (.una d i fs e))) := by
  simp only [chkS] at h
  split at h
  · simp only [Bool.and_eq_true] at h
    obtain ⟨⟨⟨⟨h1, h2⟩, h3⟩, h4⟩, h5⟩ := h
    obtain ⟨tgs, t1, t2⟩ := gs_fld ok h2
    obtain ⟨l1, l2, l3⟩ := as_len (env := X.env) h2
    refine ⟨fun pins s σ H D I ⟨F, A, ro, S, hh⟩ => ?_⟩
    simp only [ex] at hh
    refine (ps_asg ((snd_all g e).E ok.toXOk h5) (pg_tup (by rw [ok.calm]; exact h1) t1 l1 l2) (sole_plain (not_of h3)) (swap_cell ok.sc h4) rfl).run pins s σ H D I ⟨F, A, ro, S, hh.bind fun hd ro1 hh v F1 H1 A1 Ao st S1 hv => ?_⟩
    cases q : hd.esc ro1 with
    | exc x r => exact absurd q esc_noexc
    | stuck => rw [q] at hh; exact hh.elim
    | ok x ro2 =>
      rw [q] at hh
      simp only [Out.then_ok] at hh
      obtain ⟨F2, A2, S2, dq, st2, su2⟩ := hv.esc S1 q
      split at hh
      · rename_i xs
        obtain ⟨a, vs, e1, e2, e3⟩ := Dq.tup_eq dq
        have hl : xs.length = fs.length := unA_len fun z => by rw [z] at hh; exact hh.elim
        refine ⟨a, vs, e1, by rw [ok.kk]; exact S2.sub.sqT e2, by rw [e3.len, hl, l3], ?_⟩
        exact t2 S2 e3 (hh.shift (T := fun _ => False) (st.trans st2).asT .refl)
      · exact hh.elim
  · cases h
end
end Lw

set_option maxRecDepth 100000
/-! Lw17: the soundness of statements: branches, loops, exceptions. -/
namespace Lw
open PySem L2 RZ
section
variable {g : Gx} {c : CC} {k : Nat} {W : WX} {X : Cx}
theorem star_any {a : Expr} (h : starB a = false) : (match a with | .Starred .. => true | _ => false) = false := by
  cases a <;> first | rfl | cases h
theorem swap2 {env : Env} {x y : Str} {px py pt pt2 : Pos} {kt k2 : Nat} {a b : Expr} (hk : env.scope.kind = .function) (hx : env.scope.names.lookup x = some .local) (hy : env.scope.names.lookup y = some .local) (hl : px.line = py.line) (hne : x ≠ y)
    (sa : starB a = false) (sb : starB b = false) (h1 : [a, b].all (foldedForSure 8) = false) (h2 : [a, b].all (constantsAlone 8) = false) :
    swappedStores [.Tuple [.Name x px, .Name y py] kt pt] (.Tuple [a, b] k2 pt2) env = pure (some [x, y]) := by
  have hb : env.blockKind = .function := by unfold Env.blockKind; rw [hk]; rfl
  have kx : env.kindOf x = some .local := hx
  have ky : env.kindOf y = some .local := hy
  have hne2 : (y == x) = false := beq_eq_false_iff_ne.mpr fun e => hne e.symm
  unfold swappedStores
  simp only [List.length_cons, List.length_nil, hb, List.any_cons, List.any_nil, star_any sa, star_any sb, List.head?_cons, Option.map_some, Option.getD_some, List.filterMap_cons, List.filterMap_nil, kx, ky, h1, h2]
  have l1 : (Expr.Name x px).pos.line = px.line := rfl
  rw [l1, ← hl]
  simp [List.eraseDups_cons, hne2]
  intro h
  exfalso
  rcases h with h | h
  · cases a <;> first | (cases sa; done) | (cases h; done)
  · cases b <;> first | (cases sb; done) | (cases h; done)
theorem s_par2 (ok : XOs g c k W X) {i j : Nat} {es : CE} {st : Stmt} (h : chkS c (.par2 i j es) st = true) : PS X st (rdS g W c.fx (ex g.G (.par2 i j es))) := by
  simp only [chkS] at h
  split at h
  · rename_i x px y py _ _ a b _ _ pos
    simp only [Bool.and_eq_true, decide_eq_true_eq] at h
    obtain ⟨⟨⟨⟨⟨⟨⟨⟨⟨⟨h1, h2⟩, h3⟩, h4⟩, h5⟩, h6⟩, h7⟩, h8⟩, h9⟩, h10⟩, h11⟩ := h
    simp only [plB, lclB, Bool.and_eq_true, decide_eq_true_eq] at h2 h3
    obtain ⟨⟨a1, a2⟩, a3⟩ := h2
    obtain ⟨⟨b1, b2⟩, b3⟩ := h3
    refine ⟨fun pins s σ H D I ⟨F, A, ro, S, hh⟩ => ?_⟩
    simp only [ex] at hh
    refine (ps_par (i := i) (j := j) (by rw [ok.calm]; exact h1) (by rw [ok.hN]; exact ok.nd) (by rw [ok.hN]; exact a1) (by rw [ok.hN]; exact b1) h4 (by rw [ok.sc]; exact a2) (by rw [ok.sc]; exact b2) ((snd_all g es).L ok.toXOk h11)
      (swap2 ok.knd (by rw [ok.sc]; exact a2) (by rw [ok.sc]; exact b2) h6 h5 (not_of h7) (not_of h8) (not_of h9) (not_of h10)) (sole_plain rfl)).run pins s σ H D I ⟨F, A, ro, S, hh.bindA fun hs ro1 hh vs F1 H1 A1 Ao st S1 hv => ?_⟩
    cases q : stos hs ro1 with
    | exc x r => exact absurd q stos_noexc
    | stuck => rw [q] at hh; exact hh.elim
    | ok os ro2 =>
      rw [q] at hh
      simp only [Out.then_ok] at hh
      obtain ⟨F2, A2, Bo, S2, ho, dj, st2, su2, sb2⟩ := stos_ok S1 hv q
      split at hh
      · cases ho with
        | cons o1 t1 n1 =>
          rename_i A3 B3
          cases t1 with
          | cons o2 t2 n2 =>
            rename_i A4 B4
            cases t2
            refine ⟨_, _, rfl, ?_⟩
            obtain ⟨C1, S3, sb3⟩ := S2.storeO (i := i) (idx_lt (by rw [I.len, ok.hN]) a1) o1 (fun a z w => dj a (.inl z) w)
            obtain ⟨C2, S4, sb4⟩ := S3.storeO (i := j) (by rw [List.length_set]; exact idx_lt (by rw [I.len, ok.hN]) b1) o2 (fun a z w => (sb3 a w).elim (fun w => dj a (.inr (.inl z)) w) fun w => n1 a w (.inl z))
            refine hh _ F2 H1 C2 ((st.trans st2).weak fun a z => ?_) S4 ((Agr.set (not_of a3)).trans (Agr.set (not_of b3)))
            rcases sb4 a z with z | z
            · rcases sb3 a z with z | z
              · exact .inl z
              · exact .inr (.inl z)
            · exact .inr (.inr (.inl z))
      · exact hh.elim
  · cases h
theorem swap3 {env : Env} {x y z : Str} {px py pz pt pt2 : Pos} {kt k2 : Nat} {a b d : Expr} (hk : env.scope.kind = .function) (hx : env.scope.names.lookup x = some .local) (hy : env.scope.names.lookup y = some .local) (hz : env.scope.names.lookup z = some .local) (hl : px.line = py.line) (hl2 : px.line = pz.line)
    (hne : x ≠ y) (hne2 : x ≠ z) (hne3 : y ≠ z) (sa : starB a = false) (sb : starB b = false) (sd : starB d = false) (h1 : [a, b, d].all (foldedForSure 8) = false) (h2 : [a, b, d].all (constantsAlone 8) = false) :
    swappedStores [.Tuple [.Name x px, .Name y py, .Name z pz] kt pt] (.Tuple [a, b, d] k2 pt2) env = pure (some [x, y, z]) := by
  have hb : env.blockKind = .function := by unfold Env.blockKind; rw [hk]; rfl
  have kx : env.kindOf x = some .local := hx
  have ky : env.kindOf y = some .local := hy
  have kz : env.kindOf z = some .local := hz
  have e1 : (y == x) = false := beq_eq_false_iff_ne.mpr fun e => hne e.symm
  have e2 : (z == x) = false := beq_eq_false_iff_ne.mpr fun e => hne2 e.symm
  have e3 : (z == y) = false := beq_eq_false_iff_ne.mpr fun e => hne3 e.symm
  unfold swappedStores
  simp only [List.length_cons, List.length_nil, hb, List.any_cons, List.any_nil, star_any sa, star_any sb, star_any sd, List.head?_cons, Option.map_some, Option.getD_some, List.filterMap_cons, List.filterMap_nil, kx, ky, kz, h1, h2]
  have l1 : (Expr.Name x px).pos.line = px.line := rfl
  rw [l1, ← hl, ← hl2]
  simp [List.eraseDups_cons, e1, e2, e3]
  intro h
  exfalso
  rcases h with h | h | h
  · cases a <;> first | (cases sa; done) | (cases h; done)
  · cases b <;> first | (cases sb; done) | (cases h; done)
  · cases d <;> first | (cases sd; done) | (cases h; done)
theorem s_par3 (ok : XOs g c k W X) {i j l : Nat} {es : CE} {st : Stmt} (h : chkS c (.par3 i j l es) st = true) : PS X st (rdS g W c.fx (ex g.G (.par3 i j l es))) := by
  simp only [chkS] at h
  split at h
  · rename_i x px y py z pz _ _ a b d _ _ pos
    simp only [Bool.and_eq_true, decide_eq_true_eq] at h
    obtain ⟨⟨⟨⟨⟨⟨⟨⟨⟨⟨⟨⟨⟨⟨⟨⟨⟨h1, h2⟩, h3⟩, h4⟩, h5⟩, h6⟩, h7⟩, h8⟩, h9⟩, h10⟩, h11⟩, h12⟩, h13⟩, h14⟩, h15⟩, h16⟩, h17⟩, h18⟩ := h
    simp only [plB, lclB, Bool.and_eq_true, decide_eq_true_eq] at h2 h3 h4
    obtain ⟨⟨a1, a2⟩, a3⟩ := h2
    obtain ⟨⟨b1, b2⟩, b3⟩ := h3
    obtain ⟨⟨d1, d2⟩, d3⟩ := h4
    refine ⟨fun pins s σ H D I ⟨F, A, ro, S, hh⟩ => ?_⟩
    simp only [ex] at hh
    refine (ps_par3 (i := i) (j := j) (l := l) (by rw [ok.calm]; exact h1) (by rw [ok.hN]; exact ok.nd) (by rw [ok.hN]; exact a1) (by rw [ok.hN]; exact b1) (by rw [ok.hN]; exact d1) h5 h6 h7 (by rw [ok.sc]; exact a2) (by rw [ok.sc]; exact b2) (by rw [ok.sc]; exact d2) ((snd_all g es).L ok.toXOk h18)
      (swap3 ok.knd (by rw [ok.sc]; exact a2) (by rw [ok.sc]; exact b2) (by rw [ok.sc]; exact d2) h11 h12 h8 h9 h10 (not_of h13) (not_of h14) (not_of h15) (not_of h16) (not_of h17)) (sole_plain rfl)).run pins s σ H D I ⟨F, A, ro, S, hh.bindA fun hs ro1 hh vs F1 H1 A1 Ao st S1 hv => ?_⟩
    cases q : stos hs ro1 with
    | exc x r => exact absurd q stos_noexc
    | stuck => rw [q] at hh; exact hh.elim
    | ok os ro2 =>
      rw [q] at hh
      simp only [Out.then_ok] at hh
      obtain ⟨F2, A2, Bo, S2, ho, dj, st2, su2, sb2⟩ := stos_ok S1 hv q
      split at hh
      · cases ho with
        | cons o1 t1 n1 =>
          rename_i A3 B3
          cases t1 with
          | cons o2 t2 n2 =>
            rename_i A4 B4
            cases t2 with
            | cons o3 t3 n3 =>
              cases t3
              refine ⟨_, _, _, rfl, ?_⟩
              obtain ⟨C1, S3, sb3⟩ := S2.storeO (i := i) (idx_lt (by rw [I.len, ok.hN]) a1) o1 (fun a z w => dj a (.inl z) w)
              obtain ⟨C2, S4, sb4⟩ := S3.storeO (i := j) (by rw [List.length_set]; exact idx_lt (by rw [I.len, ok.hN]) b1) o2 (fun a z w => (sb3 a w).elim (fun w => dj a (.inr (.inl z)) w) fun w => n1 a w (.inl z))
              obtain ⟨C3, S5, sb5⟩ := S4.storeO (i := l) (by rw [List.length_set, List.length_set]; exact idx_lt (by rw [I.len, ok.hN]) d1) o3 (fun a z w => (sb4 a w).elim (fun w => (sb3 a w).elim (fun w => dj a (.inr (.inr (.inl z))) w) fun w => n1 a w (.inr (.inl z))) fun w => n2 a w (.inl z))
              refine hh _ F2 H1 C3 ((st.trans st2).weak fun a z => ?_) S5 (((Agr.set (not_of a3)).trans (Agr.set (not_of b3))).trans (Agr.set (not_of d3)))
              rcases sb5 a z with z | z
              · rcases sb4 a z with z | z
                · rcases sb3 a z with z | z
                  · exact .inl z
                  · exact .inr (.inl z)
                · exact .inr (.inr (.inl z))
              · exact .inr (.inr (.inr (.inl z)))
      · exact hh.elim
  · cases h
theorem s_ife (ok : XOs g c k W X) {t : CE} {a b : CS} (ia : SndS g a) (ib : SndS g b) {st : Stmt} (h : chkS c (.ife t a b) st = true) : PS X st (rdS g W c.fx (ex g.G (.ife t a b))) := by
  simp only [chkS] at h
  split at h
  · simp only [Bool.and_eq_true] at h
    obtain ⟨⟨h1, h2⟩, h3⟩ := h
    refine ⟨fun pins s σ H D I ⟨F, A, ro, S, hh⟩ => ?_⟩
    simp only [ex] at hh
    refine (ps_if ((snd_all g t).T ok.toXOk h1) (ia.L ok h2) (ib.L ok h3)).run pins s σ H D I ⟨F, A, ro, S, hh.bindT fun z ro1 hh F1 H1 A1 st S1 => ?_⟩
    have hh := hh.shift st.asT (.refl : Agr c.fx σ σ)
    cases z with
    | true => exact ⟨F1, A1, ro1, S1, hh⟩
    | false => exact ⟨F1, A1, ro1, S1, hh⟩
  · cases h
/-- a turn's body, and what follows -/
theorem PostS.turn {fx : List Nat} {F : Hp} {A : AS} {σ : L2.St} {H : Hp} {r : SOut} {nxt : Ro → SOut} {D : Ends} {N : L2.St → Hp → Prop}
    (h : PostS g W fx F A σ H (match r with | .nx ro => nxt ro | .ct ro => nxt ro | .brk ro => .nx ro | r => r) D)
    (hN : ∀ ro' σ' F' H' A', PostS g W fx F' A' σ' H' (nxt ro') D → Sub F F' → SR g.K g.cl F' A' ro' σ' H' → N σ' H') : PostS g W fx F A σ H r { D with nx := N, ct := N, bk := D.nx } := by
  cases r with
  | nx ro1 => exact fun σ' F' H' A' st S ag => hN ro1 σ' F' H' A' (h.shift st.asT ag) st.fr S
  | ct ro1 => exact fun σ' F' H' A' st S ag => hN ro1 σ' F' H' A' (h.shift st.asT ag) st.fr S
  | brk ro1 => exact h
  | ret o ro1 => exact h
  | exc x ro1 => exact h
  | stuck => exact h
theorem s_whl (ok : XOs g c k W X) {t : CE} {b : CS} (ib : SndS g b) {st : Stmt} (h : chkS c (.whl t b) st = true) : PS X st (rdS g W c.fx (ex g.G (.whl t b))) := by
  simp only [chkS] at h
  split at h
  · simp only [Bool.and_eq_true] at h
    obtain ⟨⟨h1, h2⟩, h3⟩ := h
    refine ⟨fun pins s σ H D I ⟨F, A, ro, S, hh⟩ => ?_⟩
    simp only [ex] at hh
    refine (ps_while (ok.po h1) ((snd_all g t).T ok.toXOk h2) (ib.L ok h3)).run pins s σ H D I ?_
    refine ⟨fun n σ H => ∃ F A ro, SR g.K g.cl F A ro σ H ∧ PostS g W c.fx F A σ H (wLoop (tst g.G t) (ex g.G b) n ro) D, ⟨g.G.wf, F, A, ro, S, hh⟩, ?_⟩
    rintro n σ H ⟨F, A, ro, S, hh⟩
    cases n with
    | zero => exact hh.elim
    | succ n =>
      rw [wLoop] at hh
      refine ⟨F, A, ro, S, hh.bindT fun z ro1 hh F1 H1 A1 st S1 => ?_⟩
      have hh := hh.shift st.asT (.refl : Agr c.fx σ σ)
      cases z with
      | true =>
        simp only [if_true] at hh ⊢
        refine ⟨fun σ' H' => ∃ F A ro, SR g.K g.cl F A ro σ' H' ∧ PostS g W c.fx F A σ' H' (wLoop (tst g.G t) (ex g.G b) n ro) D, fun σ' H' hN => ⟨n, Nat.lt_succ_self n, hN⟩, F1, A1, ro1, S1, hh.turn fun ro' σ' F' H' A' p _ S' => ⟨F', A', ro', S', p⟩⟩
      | false =>
        simp only [Bool.false_eq_true, if_false] at hh ⊢
        exact hh σ F1 H1 A1 .refl S1 .refl
  · cases h
/-- an item comes into the frozen part, no tree beside -/
theorem item_in0 {K : PySem.W.Frag} {cl : ClW} {F0 F H H' : Hp} {A : AS} {ro : Ro} {σ : L2.St} {x : PyData} {v : V} (s0 : Sub F0 F) (S : SR K cl F A ro σ H) (r : Res K F0 H (.d x) v H') :
    ∃ F2, SR K cl F2 A ro σ H' ∧ Dq K F2 v x ∧ Stp F H A F2 H' A := by
  have old : H' = H → Dq K F0 v x → ∃ F2, SR K cl F2 A ro σ H' ∧ Dq K F2 v x ∧ Stp F H A F2 H' A := fun e d => by
    subst e
    exact ⟨F, S, Dq.mono s0 _ _ d, .refl⟩
  cases x with
  | tuple xs =>
    rcases r with ⟨e, d⟩ | ⟨p, vs, rfl, hp, rfl, d⟩
    · exact old e d
    · obtain ⟨S1, s1⟩ := S.newF (ob := .tup vs) hp
      exact ⟨_, S1, .tup (SqT.of upd_same) (Dq.monoAll (s0.trans (Sub.new (S.sub.none hp))) _ _ d), s1⟩
  | none => exact old r.1 r.2
  | bool _ => exact old r.1 r.2
  | int _ => exact old r.1 r.2
  | str _ => exact old r.1 r.2
  | list _ => exact old r.1 r.2
  | dict _ => exact old r.1 r.2
theorem agr_of {fx : List Nat} {tg : CE} {σ σ' : L2.St} (h3 : (tgSlots tg).all (fun i => !(fx.contains i)) = true) (hw : ∀ vs : List Nat, (∀ i ∈ tgSlots tg, i ∈ vs) → L2.wipe σ' vs = L2.wipe σ vs) : Agr fx σ σ' := fun j hj => by
  have nj : j ∉ tgSlots tg := fun z => by
    have := List.all_eq_true.mp h3 j z
    rw [show fx.contains j = true from by simpa using hj] at this
    cases this
  have := congrArg (·[j]?) (hw (tgSlots tg) fun _ z => z)
  simpa [wipe_get nj] using this
theorem s_for (ok : XOs g c k W X) {tg it : CE} {b : CS} (ib : SndS g b) {st : Stmt} (h : chkS c (.for_ tg it b) st = true) : PS X st (rdS g W c.fx (ex g.G (.for_ tg it b))) := by
  simp only [chkS] at h
  split at h
  · simp only [Bool.and_eq_true] at h
    obtain ⟨⟨⟨⟨⟨h1, h2⟩, h3⟩, h4⟩, h5⟩, h6⟩ := h
    refine ⟨fun pins s σ H D I ⟨F, A, ro, S, hh⟩ => ?_⟩
    simp only [ex] at hh
    refine (ps_for (ok.po h1) (by rw [ok.calm]; exact h1) ((snd_all g it).I true ok.toXOk h2) (g_all ok.toXOk h1 tg h4) (ib.L ok h6) (fun x => fold_of h3 x)).run pins s σ H D I ?_
    refine ⟨F, A, ro, S, hh.bindI fun xs ro1 hh J F1 H1 A1 st S1 itf => ?_⟩
    have hh := hh.shift st.asT (.refl : Agr c.fx σ σ)
    simp only [if_true] at itf
    refine ⟨fun i m σ H => m = xs.length - i ∧ i ≤ xs.length ∧ ∃ F A ro, SR g.K g.cl F A ro σ H ∧ Sub F1 F ∧ PostS g W c.fx F A σ H (fLoop tg (ex g.G b) (xs.drop i) ro) D, ⟨xs.length, rfl, Nat.zero_le _, F1, A1, ro1, S1, .refl _, by rw [List.drop_zero]; exact hh⟩, ?_⟩
    rintro i m σ H2 ⟨rfl, hi, F2, A2, ro2, S2, sF, hh⟩
    have sB : Sub F1 H2 := sF.trans S2.sub
    by_cases hlt : i < xs.length
    · have hx : xs[i]? = some xs[i] := List.getElem?_eq_getElem hlt
      obtain ⟨go, yl⟩ := itf.go i xs[i] H2 hx sB
      refine .inr ⟨go, fun σ' H' => ∃ F A ro, SR g.K g.cl F A ro σ' H' ∧ Sub F1 F ∧ PostS g W c.fx F A σ' H' (fLoop tg (ex g.G b) (xs.drop (i + 1)) ro) D, fun σ' H' hN => ⟨xs.length - (i + 1), by omega, rfl, hlt, hN⟩, fun v H' y => ?_⟩
      obtain ⟨F3, S3, hdq, st3⟩ := item_in0 sF S2 (yl v H' y)
      rw [List.drop_eq_getElem_cons hlt, fLoop] at hh
      split at hh
      · rename_i roa ha
        refine ⟨F3, A2, ro2, xs[i], roa, S3, hdq, ha, fun σ' A' S4 sb4 hw => ?_⟩
        have ag : Agr c.fx σ σ' := agr_of h5 hw
        have hh := hh.shift (T := fun _ => False) (st3.weak (T := fun a => A' a ∨ False) fun a z => sb4 a (z.elim id False.elim)) ag
        exact ⟨F3, A', roa, S4, hh.turn fun ro' σ'' F' H'' A'' p sb5 S' => ⟨F', A'', ro', S', (sF.trans st3.fr).trans sb5, p⟩⟩
      · exact hh.elim
    · have en : i = xs.length := by omega
      subst en
      refine .inl ⟨itf.stop H2 sB, ?_⟩
      rw [List.drop_length, fLoop] at hh
      exact hh σ F2 H2 A2 .refl S2 .refl
  · cases h
theorem s_rai (ok : XOs g c k W X) {x : Str} {st : Stmt} (h : chkS c (.rai x) st = true) : PS X st (rdS g W c.fx (ex g.G (.rai x))) := by
  simp only [chkS] at h
  split at h
  · simp only [Bool.and_eq_true, decide_eq_true_eq] at h
    obtain ⟨⟨⟨h1, h2⟩, h3⟩, h4⟩ := h
    subst h2
    obtain ⟨C, B, newId, initId, bmB, e1, e2, e3, e4, e5, e6⟩ := ok.exs x (by simpa using h4)
    obtain ⟨g1, g2, g3⟩ := ok.toXOk.glb h3
    refine ⟨fun pins s σ H D I ⟨F, A, ro, S, hh⟩ => ?_⟩
    simp only [ex] at hh
    exact (ps_raise (by rw [ok.calm]; exact h1) ok.tk (pmk_own e1 (by rw [ok.kk]; exact e2) (by rw [ok.mm]; exact e3) (by rw [ok.kk]; exact e4) (raises_own (by rw [ok.kk]; exact e5) (by rw [ok.kk]; exact e6)) g1 g2)).run pins s σ H D I (hh C σ F H A e3 .refl S .refl)
  · cases h
/-- the surroundings of a try's body, of a clause -/
theorem XOs.tr (ok : XOs g c k W X) {W' : WX} {pn : List (Addr × Obj)} {xe : Value → Shared → Prop} (tk : Takes (X.tr pn xe) W') (po : PassesOwn (model X.prog X.w) X.A X.env xe) : XOs g c k W' (X.tr pn xe) where
  pr := ok.pr
  ww := ok.ww
  kk := ok.kk
  mm := ok.mm
  bb := ok.bb
  hN := ok.hN
  nd := ok.nd
  sc := ok.sc
  calm := ok.calm
  room := ok.room
  room1 := ok.room1
  un := ok.un
  fns := ok.fns
  blt := ok.blt
  gls := ok.gls
  fnc := ok.fnc
  exs := ok.exs
  exm := ok.exm
  cls := ok.cls
  hds := ok.hds
  cw := ok.cw
  tk := tk
  stk0 := ok.stk0
  stk := ok.stk
  frm := ok.frm
  knd := ok.knd
  po := fun _ => po
theorem XOs.suite (ok : XOs g c k W X) {a : Addr} {pn : List (Addr × Obj)} : XOs g { c with calm := false } k (fun _ _ _ _ => False) (X.suite a pn) where
  pr := ok.pr
  ww := ok.ww
  kk := ok.kk
  mm := ok.mm
  bb := ok.bb
  hN := ok.hN
  nd := ok.nd
  sc := ok.sc
  calm := rfl
  room := fun z => by cases z
  room1 := fun z => by cases z
  un := ok.un
  fns := ok.fns
  blt := ok.blt
  gls := ok.gls
  fnc := ok.fnc
  exs := ok.exs
  exm := ok.exm
  cls := ok.cls
  hds := ok.hds
  cw := ok.cw
  tk := takes_none5
  stk0 := ok.stk0
  stk := ok.stk
  frm := ok.frm
  knd := ok.knd
  po := fun z => by cases z
theorem many_of (ok : XOs g c k W X) {D : Ends} {F : Hp} {A : AS} {σ : L2.St} {H : Hp} {x : Exn} {C : Addr} {ro : Ro} (hm : g.mg x.cls = some (.ref C)) (S : SR g.K g.cl F A ro σ H) : ∀ {hs : CS}, PostS g W c.fx F A σ H (exH g.G hs x ro) D → wMany g.K W D (hdl g c.fx hs) (.ref C) none σ H
  | .nil, hh => by
    simp only [exH] at hh
    exact hh C σ F H A hm .refl S .refl
  | .hd y b rest, hh => by
    simp only [exH] at hh
    simp only [hdl, wMany]
    cases e : g.G.exm x.cls y with
    | none => rw [e] at hh; exact hh.elim
    | some z =>
      rw [e] at hh
      obtain ⟨C', u, m1, m2, m3⟩ := ok.exm _ _ _ e
      rw [hm] at m1
      cases m1
      refine ⟨z, by rw [m2]; exact m3, fun ez a ha => ?_, fun ez => ?_⟩
      · subst ez
        refine ⟨F, A, ro, S, ?_⟩
        cases r : ex g.G b ro with
        | exc x' r2 => rw [r] at hh; exact hh.elim
        | nx r2 => rw [r] at hh; exact hh
        | ct r2 => rw [r] at hh; exact hh
        | brk r2 => rw [r] at hh; exact hh
        | ret o r2 => rw [r] at hh; exact hh
        | stuck => rw [r] at hh; exact hh
      · subst ez
        exact many_of ok hm S hh
  | .seq _ _, hh => by simp only [exH] at hh; exact hh.elim
  | .pass, hh => by simp only [exH] at hh; exact hh.elim
  | .doc, hh => by simp only [exH] at hh; exact hh.elim
  | .brk, hh => by simp only [exH] at hh; exact hh.elim
  | .cnt, hh => by simp only [exH] at hh; exact hh.elim
  | .retN, hh => by simp only [exH] at hh; exact hh.elim
  | .ret _, hh => by simp only [exH] at hh; exact hh.elim
  | .set _ _, hh => by simp only [exH] at hh; exact hh.elim
  | .setc _ _, hh => by simp only [exH] at hh; exact hh.elim
  | .unp _ _, hh => by simp only [exH] at hh; exact hh.elim
  | .par2 _ _ _, hh => by simp only [exH] at hh; exact hh.elim
  | .par3 _ _ _ _, hh => by simp only [exH] at hh; exact hh.elim
  | .aug _ _ _, hh => by simp only [exH] at hh; exact hh.elim
  | .exp _, hh => by simp only [exH] at hh; exact hh.elim
  | .ife _ _ _, hh => by simp only [exH] at hh; exact hh.elim
  | .whl _ _, hh => by simp only [exH] at hh; exact hh.elim
  | .for_ _ _ _, hh => by simp only [exH] at hh; exact hh.elim
  | .rai _, hh => by simp only [exH] at hh; exact hh.elim
  | .try_ _ _, hh => by simp only [exH] at hh; exact hh.elim
  | .sts _ _ _ _, hh => by simp only [exH] at hh; exact hh.elim
  | .std _ _ _, hh => by simp only [exH] at hh; exact hh.elim
  | .sti _ _ _, hh => by simp only [exH] at hh; exact hh.elim
  | .sta _ _ _ _, hh => by simp only [exH] at hh; exact hh.elim
  | .una _ _ _ _, hh => by simp only [exH] at hh; exact hh.elim
  | .auga _ _ _ _ _, hh => by simp only [exH] at hh; exact hh.elim
  | .bad, hh => by simp only [exH] at hh; exact hh.elim
theorem s_try (ok : XOs g c k W X) {b hs : CS} (ib : SndS g b) (ih : SndS g hs) {st : Stmt} (h : chkS c (.try_ b hs) st = true) : PS X st (rdS g W c.fx (ex g.G (.try_ b hs))) := by
  simp only [chkS] at h
  split at h
  · simp only [Bool.and_eq_true] at h
    obtain ⟨⟨h1, h2⟩, h3⟩ := h
    refine ⟨fun pins s σ H D I ⟨F, A, ro, S, hh⟩ => ?_⟩
    simp only [ex] at hh
    refine (ps_try_many (tb := fun W' => rdS g W' c.fx (ex g.G b)) (l := hdl g c.fx hs) (Wout := W) ok.stk ok.frm ok.tk (fun W' pn xe tk po => ib.L (ok.tr tk po) h2) (ih.H ok h3)).run pins s σ H D I ⟨F, A, ro, S, ?_⟩
    cases r : ex g.G b ro with
    | nx ro1 => rw [r] at hh; exact hh
    | ct ro1 => rw [r] at hh; exact hh
    | brk ro1 => rw [r] at hh; exact hh
    | ret o ro1 => rw [r] at hh; exact hh
    | stuck => rw [r] at hh; exact hh
    | exc x ro1 =>
      rw [r] at hh
      intro C σ' F' H' A' hm st S' ag
      rw [ok.kk]
      exact many_of ok hm S' (hh.shift st.asT ag)
  · cases h
end
end Lw

set_option maxRecDepth 100000
/-! Lw18: sequences, clauses; functions. -/
namespace Lw
open PySem L2 RZ
section
variable {g : Gx} {c : CC} {k : Nat} {W : WX} {X : Cx}
theorem ss_nil (ok : XOs g c k W X) {sts : List Stmt} (h : chkSs c .nil sts = true) : PSs X sts (rdS g W c.fx (ex g.G .nil)) := by
  simp only [chkSs] at h
  split at h
  · refine ⟨fun pins s σ H D I ⟨F, A, ro, S, hh⟩ => ?_⟩
    simp only [ex] at hh
    exact pss_nil.run pins s σ H D I (hh σ F H A .refl S .refl)
  · cases h
theorem ss_seq (ok : XOs g c k W X) {a b : CS} (ia : SndS g a) (ib : SndS g b) {sts : List Stmt} (h : chkSs c (.seq a b) sts = true) : PSs X sts (rdS g W c.fx (ex g.G (.seq a b))) := by
  simp only [chkSs] at h
  split at h
  · obtain ⟨h1, h2⟩ := and2 h
    refine ⟨fun pins s σ H D I ⟨F, A, ro, S, hh⟩ => ?_⟩
    simp only [ex] at hh
    refine (pss_cons (ia.S ok h1) (ib.L ok h2)).run pins s σ H D I ⟨F, A, ro, S, ?_⟩
    cases r : ex g.G a ro with
    | nx ro1 =>
      rw [r] at hh
      exact fun σ' F' H' A' st S' ag => ⟨F', A', ro1, S', hh.shift st.asT ag⟩
    | brk ro1 => rw [r] at hh; exact hh
    | ct ro1 => rw [r] at hh; exact hh
    | ret o ro1 => rw [r] at hh; exact hh
    | exc x ro1 => rw [r] at hh; exact hh
    | stuck => rw [r] at hh; exact hh
  · cases h
theorem h_nil (ok : XOs g c k W X) {hds : List ExceptHandler} (h : chkH { c with calm := false } .nil hds = true) : HdsOk X hds (hdl g c.fx .nil) := by
  simp only [chkH] at h
  split at h
  · exact .nil
  · cases h
theorem h_hd (ok : XOs g c k W X) {y : Str} {b rest : CS} (ib : SndS g b) (ir : SndS g rest) {hds : List ExceptHandler} (h : chkH { c with calm := false } (.hd y b rest) hds = true) : HdsOk X hds (hdl g c.fx (.hd y b rest)) := by
  simp only [chkH] at h
  split at h
  · simp only [Bool.and_eq_true, decide_eq_true_eq] at h
    obtain ⟨⟨⟨⟨h1, h2⟩, h3⟩, h4⟩, h5⟩ := h
    subst h1
    obtain ⟨C, e3⟩ : ∃ C : Addr, g.mg _ = some (.ref C) := ((Bool.or_eq_true _ _).mp h3).elim (fun h3 => by
      obtain ⟨C, B, newId, initId, bmB, e1, e2, e3, e4, e5, e6⟩ := ok.exs _ (by simpa using h3)
      exact ⟨C, e3⟩) fun h3 => ok.hds _ (by simpa using h3)
    obtain ⟨g1, g2, g3⟩ := ok.toXOk.glb (show glbB c _ = true from h2)
    refine .cons ⟨g1, g2, .inl (by rw [ok.mm, e3]; rfl)⟩ (fun a oe cls d pn _ _ => ?_) (ir.H ok h5)
    exact ib.L (ok.suite (a := a) (pn := (a, oe) :: pn)) h4
  · cases h
theorem SndS.st {cs : CS} (hS : ∀ {c : CC} {k : Nat} {W : WX} {X : Cx}, XOs g c k W X → ∀ {st : Stmt}, chkS c cs st = true → PS X st (rdS g W c.fx (ex g.G cs)))
    (hL : ∀ (c : CC) sts, chkSs c cs sts = false := by intros; rfl) (hH : ∀ (c : CC) hds, chkH c cs hds = false := by intros; rfl) : SndS g cs where
  S := hS
  L := by intro c k W X ok sts h; exact no (hL _ _) h
  H := by intro c k W X ok hds h; exact no (hH _ _) h
theorem SndS.never {cs : CS} (hS : ∀ (c : CC) st, chkS c cs st = false := by intros; rfl) (hL : ∀ (c : CC) sts, chkSs c cs sts = false := by intros; rfl) (hH : ∀ (c : CC) hds, chkH c cs hds = false := by intros; rfl) : SndS g cs where
  S := by intro c k W X ok st h; exact no (hS _ _) h
  L := by intro c k W X ok sts h; exact no (hL _ _) h
  H := by intro c k W X ok hds h; exact no (hH _ _) h
end
theorem snds_all (g : Gx) : ∀ cs : CS, SndS g cs
  | .nil => { S := by intro c k W X ok st h; exact no (by rfl) h
              L := by intro c k W X ok sts h; exact ss_nil ok h
              H := by intro c k W X ok hds h; exact h_nil ok h }
  | .seq a b => { S := by intro c k W X ok st h; exact no (by rfl) h
                  L := by intro c k W X ok sts h; exact ss_seq ok (snds_all g a) (snds_all g b) h
                  H := by intro c k W X ok hds h; exact no (by rfl) h }
  | .hd y b rest => { S := by intro c k W X ok st h; exact no (by rfl) h
                      L := by intro c k W X ok sts h; exact no (by rfl) h
                      H := by intro c k W X ok hds h; exact h_hd ok (snds_all g b) (snds_all g rest) h }
  | .bad => .st fun {c k W X} ok {st} h => ⟨fun _ _ _ _ _ _ ⟨_, _, _, _, z⟩ => by simp only [ex] at z; exact z.elim⟩
  | .pass => .st fun {c k W X} ok {st} h => s_pass ok h
  | .doc => .st fun {c k W X} ok {st} h => s_doc ok h
  | .brk => .st fun {c k W X} ok {st} h => s_brk ok h
  | .cnt => .st fun {c k W X} ok {st} h => s_cnt ok h
  | .retN => .st fun {c k W X} ok {st} h => s_retN ok h
  | .ret e => .st fun {c k W X} ok {st} h => s_ret ok h
  | .sts o lo hi e => .st fun {c k W X} ok {st} h => s_sts ok h
  | .std o i e => .st fun {c k W X} ok {st} h => s_std ok h
  | .sti o i e => .st fun {c k W X} ok {st} h => s_sti ok h
  | .sta d o f e => .st fun {c k W X} ok {st} h => s_sta ok h
  | .una d i fs e => .st fun {c k W X} ok {st} h => s_una ok h
  | .auga d o f op e => .st fun {c k W X} ok {st} h => s_auga ok h
  | .set i e => .st fun {c k W X} ok {st} h => s_set ok h
  | .setc i e => .st fun {c k W X} ok {st} h => s_setc ok h
  | .unp tg e => .st fun {c k W X} ok {st} h => s_unp ok h
  | .par2 i j es => .st fun {c k W X} ok {st} h => s_par2 ok h
  | .par3 i j l es => .st fun {c k W X} ok {st} h => s_par3 ok h
  | .aug i op e => .st fun {c k W X} ok {st} h => s_aug ok h
  | .exp e => .st fun {c k W X} ok {st} h => s_exp ok h
  | .ife t a b => .st fun {c k W X} ok {st} h => s_ife ok (snds_all g a) (snds_all g b) h
  | .whl t b => .st fun {c k W X} ok {st} h => s_whl ok (snds_all g b) h
  | .for_ tg it b => .st fun {c k W X} ok {st} h => s_for ok (snds_all g b) h
  | .rai x => .st fun {c k W X} ok {st} h => s_rai ok h
  | .try_ b hs => .st fun {c k W X} ok {st} h => s_try ok (snds_all g b) (snds_all g hs) h
/-! ### functions -/
/-- a def in compact form: how many parameters, how many names, the body; the parameters whose trees go back -/
structure FR where
  np : Nat
  nN : Nat
  body : CS
  fx : List Nat := []
/-- what all levels have in common -/
structure Base where
  tbl : List FR
  glob : Str → Option PyData
  wf : Nat
  exm : Str → Str → Option Bool
/-- the trees that go back -/
def backO (fx : List Nat) : Nat → Nat → Ro → List (Option O)
  | i, n + 1, o :: ro => (if fx.contains i then o else none) :: backO fx (i + 1) n ro
  | _, _, _ => []
def outF (fx : List Nat) (n : Nat) : SOut → FOut
  | .ret o ro => .ok o (if fx.isEmpty then [] else backO fx 0 n ro)
  | .nx ro => .ok (.d .none) (if fx.isEmpty then [] else backO fx 0 n ro)
  | .exc x _ => .exc x []
  | _ => .stuck
def callN (B : Base) : Nat → Nat → List O → FOut
  | 0, _, _ => .stuck
  | l + 1, i, os => match B.tbl[i]? with
    | some r => if os.length = r.np then outF r.fx r.np (ex ⟨callN B l, B.glob, B.wf, B.exm⟩ r.body (os.map some ++ List.replicate (r.nN - r.np) none)) else .stuck
    | none => .stuck
def Base.ge (B : Base) (l : Nat) : GE := ⟨callN B l, B.glob, B.wf, B.exm⟩
/-- what is fixed through a law, at a level -/
def gxOf (P : Program) (w : World) (K : PySem.W.Frag) (mg : Str → Option Value) (base : Heap) (cl : Str → Option Addr) (B : Base) (l : Nat) : Gx := ⟨P, w, K, mg, base, ⟨cl, w⟩, B.ge l⟩
section
variable {P : Program} {w : World} {K : PySem.W.Frag} {mg : Str → Option Value} {base : Heap} {cl : Str → Option Addr} {B : Base}
/-- the parameters' slots at the entry -/
theorem RS.start {cl : ClW} {F H : Hp} : ∀ {os : List O} {vs : List V} {A : AS} (n : Nat), ORs K cl F H os vs A → RS K cl F H (os.map some ++ List.replicate n none) (vs.map some ++ List.replicate n none) A
  | _, _, _, n, .nil => by
    rw [List.map_nil, List.map_nil, List.nil_append, List.nil_append]
    induction n with
    | zero => exact .nil
    | succ n ih => rw [List.replicate_succ, List.replicate_succ]; exact .no ih
  | _, _, _, n, .cons h t d => by
    rw [List.map_cons, List.map_cons, List.cons_append, List.cons_append]
    exact .yes h (RS.start n t) d
/-- .. and what goes back at the end -/
theorem RS.backs {cl : ClW} {F H : Hp} {fx : List Nat} : ∀ {ro : Ro} {σ : L2.St} {A : AS} (i n : Nat) (vs : List V), RS K cl F H ro σ A → vs.length = n → (∀ j, fx.contains (i + j) = true → j < n → σ[j]? = some (vs[j]?)) →
    ∃ Ab, BRs K cl F H (backO fx i n ro) vs Ab ∧ ∀ a, Ab a → A a
  | [], _, _, i, n, vs, h, _, _ => by
    refine ⟨fun _ => False, ?_, fun _ z => z.elim⟩
    cases n <;> exact .nil
  | o :: ro, σ, A, i, 0, vs, h, _, _ => ⟨fun _ => False, .nil, fun _ z => z.elim⟩
  | o :: ro, σ, A, i, n + 1, [], h, e, _ => by simp at e
  | o :: ro, σ, A, i, n + 1, v :: vs, h, e, hs => by
    have e' : vs.length = n := by simpa using e
    rw [backO]
    cases h with
    | no t =>
      obtain ⟨Ab, k1, k2⟩ := RS.backs (i + 1) n vs t e' fun j hj hn => by
        have := hs (j + 1) (by rw [← hj]; congr 1; omega) (by omega)
        simpa using this
      refine ⟨Ab, ?_, k2⟩
      have : (if fx.contains i = true then (none : Option O) else none) = none := ite_self _
      rw [this]
      exact .no k1
    | yes h1 t d =>
      obtain ⟨Ab, k1, k2⟩ := RS.backs (i + 1) n vs t e' fun j hj hn => by
        have := hs (j + 1) (by rw [← hj]; congr 1; omega) (by omega)
        simpa using this
      by_cases c : fx.contains i = true
      · have hv := hs 0 (by rw [Nat.add_zero]; exact c) (by omega)
        simp at hv
        subst hv
        rw [if_pos c]
        exact ⟨_, .yes h1 k1 fun a x y => d a x (k2 a y), fun a z => z.elim .inl fun z => .inr (k2 a z)⟩
      · rw [if_neg c]
        exact ⟨Ab, .no k1, fun a z => .inr (k2 a z)⟩
/-- a class among the functions of a level -/
def ClsAt (g : Gx) (k : Nat) (d : ClsD) : Prop := ∃ C fI fd ps, g.cl d.nm = some C ∧ g.mg d.nm = some (.ref C) ∧ Cls g.K C ∧ (∀ f, f ∈ d.fl → NoAttr g.K C f) ∧ Mk g.K C fI ∧ FnOk g.P g.w g.K g.mg g.base (L2.CX g.P g.w) k fI fd ps (PSpec g (g.G.call d.init)) ∧ Binds g.K fd ps [] ∧
    ∀ m i, (m, i) ∈ d.mts → ∃ a fd ps, Meth g.K C m a ∧ FnOk g.P g.w g.K g.mg g.base (L2.CX g.P g.w) k a fd ps (PSpec g (g.G.call i)) ∧ Binds g.K fd ps []
/-- one def, a level further -/
theorem fn_step {x qn : Str} {st : Stmt} {f : Addr} {fd : FuncData} {ps : List Str} {c : CC} {i l : Nat} {r : FR} (F : Fun K x qn st f fd) (S : FnScope c.N ps (defScope st)) (hr : B.tbl[i]? = some r) (hnp : r.np = ps.length) (hnN : r.nN = c.N.length) (hfx : c.fx = r.fx)
    (hc : chkSs c r.body (defBody st) = true) (hcalm : c.calm = true) (hsc : c.sc = defScope st) (hfn : c.fnB = none)
    (fns : ∀ f x, c.fns[f]? = some x → ∃ ad fd ps, mg x = some (.ref ad) ∧ FnOk P w K mg base (L2.CX P w) (2 * l) ad fd ps (PSpec (gxOf P w K mg base cl B l) (callN B l f)) ∧ PySem.W.keepIn K (.ref ad) = true ∧ Binds K fd ps [])
    (blt : ∀ x, x ∈ c.blt → mg x = none)
    (gls : ∀ x, x ∈ c.gls → ∃ u v d, mg x = some u ∧ RelV v u ∧ B.glob x = some d ∧ ∀ F, Dq K F v d)
    (exs : ∀ x, x ∈ c.exs → ∃ (C : Addr) (B newId initId : String) (bmB : List Value), ExcBaseFacts B newId initId bmB ∧ PySem.W.excIn K C bmB newId = true ∧ mg x = some (.ref C) ∧ PySem.W.keepIn K (.ref C) = true ∧
      PySem.W.subIn K (.ref C) (.type "BaseException") = some true ∧ PySem.W.typeIn K (.ref C) = some (.type "type"))
    (exm : ∀ x y b, B.exm x y = some b → ∃ (C : Addr) (u : Value), mg x = some (.ref C) ∧ mg y = some u ∧ PySem.W.exmOne K (.ref C) u = some b)
    (cls : ∀ d, d ∈ c.cls → ClsAt (gxOf P w K mg base cl B l) (2 * l) d)
    (hds : ∀ x, x ∈ c.hds → ∃ C : Addr, mg x = some (.ref C)) :
    FnOk P w K mg base (L2.CX P w) (2 * (l + 1)) f fd ps (PSpec (gxOf P w K mg base cl B (l + 1)) (callN B (l + 1) i)) := by
  refine F.okX (k := 2 * l + 1) S (fun vs H Q E h => ?_) (fun cdv A outer s H vs Q E hr2 h => ?_)
  · obtain ⟨F', A', os, _, h2, h3⟩ := h
    rw [callN, hr] at h3
    simp only at h3
    by_cases e : os.length = r.np
    · rw [← h2.len, e, hnp]
    · rw [if_neg e] at h3
      exact h3.elim
  · obtain ⟨F', A', os, h1, h2, h3⟩ := h
    rw [callN, hr] at h3
    simp only at h3
    by_cases e : os.length = r.np
    · rw [if_pos e] at h3
      have lv : vs.length = ps.length := by rw [← h2.len, e, hnp]
      have xo : XOs (gxOf P w K mg base cl B l) c (2 * l) (fun cls d _ H => E cls d H) (cxOf (L2.CX P w) P w K mg base c.N qn (defScope st) f cdv A outer s H E) :=
        { pr := rfl, ww := rfl, cw := rfl, kk := rfl, mm := rfl, bb := rfl, hN := rfl, nd := S.nd, sc := hsc.symm, calm := hcalm.symm
          room := fun _ => hr2.mono (Nat.le_succ _)
          room1 := fun _ => hr2
          un := by have := hr2.un; show (A.deeper _).units + 200 < cLine; omega
          fns := fns, blt := blt, gls := gls
          fnc := fun y _ => rfl
          exs := exs, exm := exm, cls := cls, hds := hds
          tk := takes_of rfl rfl rfl rfl
          stk0 := fun _ => ⟨rfl, rfl⟩
          stk := rfl, frm := rfl
          knd := S.kind
          po := fun _ => passes_of rfl }
      have hstart : L2.start c.N vs = vs.map some ++ List.replicate (r.nN - r.np) none := by
        unfold L2.start
        rw [lv, ← hnp, ← hnN]
      refine ⟨_, (snds_all _ r.body).L xo hc, F', A', os.map some ++ List.replicate (r.nN - r.np) none, ⟨?_, h1⟩, ?_⟩
      · rw [hstart]
        exact RS.start (K := K) (cl := ⟨cl, w⟩) (F := F') (H := H) (r.nN - r.np) h2
      · change (match outF r.fx r.np (ex (B.ge l) r.body (os.map some ++ List.replicate (r.nN - r.np) none)) with
          | .ok o bs => ∀ v F'' H' Ao Ab, Stp F' H A' F'' H' (fun a => Ao a ∨ Ab a) → Sub F'' H' → OR K ⟨cl, w⟩ F'' H' o v Ao → BRs K ⟨cl, w⟩ F'' H' bs vs Ab → (∀ a, Ao a → Ab a → False) → Q v H'
          | .exc x _ => ∀ C F'' H', mg x.cls = some (.ref C) → Stp F' H A' F'' H' (fun _ => False) → Sub F'' H' → E (.ref C) none H'
          | .stuck => False) at h3
        show PostS (gxOf P w K mg base cl B l) _ c.fx F' A' _ H (ex (B.ge l) r.body (os.map some ++ List.replicate (r.nN - r.np) none)) _
        have back : ∀ {ro1 : Ro} {σ' : L2.St} {F2 H2 : Hp} {A2 : AS}, SR K ⟨cl, w⟩ F2 A2 ro1 σ' H2 → Agr c.fx (L2.start c.N vs) σ' → ∃ Ab, BRs K ⟨cl, w⟩ F2 H2 (if r.fx.isEmpty then [] else backO r.fx 0 r.np ro1) vs Ab ∧ ∀ a, Ab a → A2 a := fun {ro1 σ' F2 H2 A2} S2 ag => by
          by_cases em : r.fx.isEmpty = true
          · rw [if_pos em]
            exact ⟨_, .nil, fun _ z => z.elim⟩
          · rw [if_neg em]
            refine RS.backs 0 r.np vs S2.rs (by rw [lv, hnp]) fun j hj hn => ?_
            rw [Nat.zero_add] at hj
            rw [ag j (by rw [hfx]; simpa using hj), hstart, List.getElem?_append_left (by rw [List.length_map, lv, ← hnp]; exact hn), List.getElem?_map]
            rw [List.getElem?_eq_getElem (by rw [lv, ← hnp]; exact hn)]
            rfl
        cases q : ex (B.ge l) r.body (os.map some ++ List.replicate (r.nN - r.np) none) with
        | nx ro1 =>
          rw [q] at h3
          intro σ' F2 H2 A2 st2 S2 ag
          obtain ⟨Ab, b1, b2⟩ := back S2 ag
          exact h3 .non F2 H2 (fun _ => False) Ab (st2.weak fun a z => z.elim False.elim (b2 a)) S2.sub (.d .non) b1 fun _ z => z.elim
        | ret o ro1 =>
          rw [q] at h3
          intro v σ' F2 H2 A2 Ao st2 S2 ho dj ag
          obtain ⟨Ab, b1, b2⟩ := back S2 ag
          exact h3 v F2 H2 Ao Ab (st2.weak fun a z => z.elim .inr fun z => .inl (b2 a z)) S2.sub ho b1 fun a x y => dj a x (b2 a y)
        | exc y ro1 =>
          rw [q] at h3
          exact fun C σ' F2 H2 A2 hm st2 S2 _ => h3 C F2 H2 hm (st2.weak fun a z => z.elim) S2.sub
        | brk ro1 => rw [q] at h3; exact h3.elim
        | ct ro1 => rw [q] at h3; exact h3.elim
        | stuck => rw [q] at h3; exact h3.elim
    · rw [if_neg e] at h3
      exact h3.elim
end
end Lw

set_option maxRecDepth 100000
/-! Lw19: all functions; the law's end. -/
namespace Lw
open PySem L2 RZ
/-- what the top has written of a def, and that it is the compact one -/
def DefAt (K : PySem.W.Frag) (fns blt gls exs hds : List Str) (cls : List ClsD) (B : Base) (i : Nat) (ad : Addr) : Prop :=
  ∃ (x qn : Str) (st : Stmt) (fd : FuncData) (ps N : List Str) (r : FR), Fun K x qn st ad fd ∧ FnScope N ps (defScope st) ∧ B.tbl[i]? = some r ∧ r.np = ps.length ∧ r.nN = N.length ∧
    chkSs ⟨N, defScope st, fns, blt, gls, true, none, exs, r.fx, cls, hds⟩ r.body (defBody st) = true ∧ Binds K fd ps []
def DefOk (K : PySem.W.Frag) (mg : Str → Option Value) (fns blt gls exs hds : List Str) (cls : List ClsD) (B : Base) (i : Nat) (name : Str) : Prop :=
  ∃ ad : Addr, mg name = some (.ref ad) ∧ DefAt K fns blt gls exs hds cls B i ad
/-- the classes' addresses -/
def clOf (mg : Str → Option Value) (x : Str) : Option Addr := match mg x with
  | some (.ref a) => some a
  | _ => none
def MthOk (K : PySem.W.Frag) (fns blt gls exs hds : List Str) (cls : List ClsD) (B : Base) (C : Addr) (m : Str) (i : Nat) : Prop := ∃ a : Addr, Meth K C m a ∧ DefAt K fns blt gls exs hds cls B i a
def ClsOk (K : PySem.W.Frag) (mg : Str → Option Value) (fns blt gls exs hds : List Str) (cls : List ClsD) (B : Base) (d : ClsD) : Prop :=
  ∃ C fI : Addr, mg d.nm = some (.ref C) ∧ Cls K C ∧ (∀ f, f ∈ d.fl → NoAttr K C f) ∧ Mk K C fI ∧ DefAt K fns blt gls exs hds cls B d.init fI ∧ ∀ m i, (m, i) ∈ d.mts → MthOk K fns blt gls exs hds cls B C m i
section
variable {P : Program} {w : World} {K : PySem.W.Frag} {mg : Str → Option Value} {base h : Heap} {B : Base} {fns blt gls exs hds : List Str} {cls : List ClsD}
theorem DefAt.mk {st : Stmt} {x qn : Str} {f : Addr} {od an : Option Addr} {sl : Array (Option Value)} {oc kV dc pm cd ct : Value} {ps N : List Str} {r : FR} {i : Nat}
    (l : K.lookup f = some ⟨oc, od, .func (PySem.W.fnOf x qn (defArgs st) (defBody st) (defScope st) .none kV dc pm an cd ct), sl⟩) (c : PySem.W.codeIn K cd qn = true) (k : PySem.W.keepIn K (.ref f) = true)
    (S : FnScope N ps (defScope st)) (ht : B.tbl[i]? = some r) (hp : r.np = ps.length) (hN : r.nN = N.length) (hc : chkSs ⟨N, defScope st, fns, blt, gls, true, none, exs, r.fx, cls, hds⟩ r.body (defBody st) = true)
    (hb : ∀ (kV doc pm : Value) (an : Option Addr) (cdv ct : Value) (us : List Value), us.length = ps.length → bindArgs (PySem.W.fnOf x qn (defArgs st) (defBody st) (defScope st) .none kV doc pm an cdv ct) ⟨us, []⟩ = pure (ps.zip us)) : DefAt K fns blt gls exs hds cls B i f :=
  have F := fun_mk (st := st) l c k
  ⟨x, qn, st, _, ps, N, r, F, S, ht, hp, hN, hc, F.binds hb⟩
/-- what the top has written of an exception's class -/
def ExcOk (K : PySem.W.Frag) (mg : Str → Option Value) (x : Str) : Prop :=
  ∃ (C : Addr) (B newId initId : String) (bmB : List Value), ExcBaseFacts B newId initId bmB ∧ PySem.W.excIn K C bmB newId = true ∧ mg x = some (.ref C) ∧ PySem.W.keepIn K (.ref C) = true ∧
      PySem.W.subIn K (.ref C) (.type "BaseException") = some true ∧ PySem.W.typeIn K (.ref C) = some (.type "type")
def GlbOk (K : PySem.W.Frag) (mg : Str → Option Value) (B : Base) (x : Str) : Prop := ∃ u v d, mg x = some u ∧ RelV v u ∧ B.glob x = some d ∧ ∀ F, Dq K F v d
def ExmOk (K : PySem.W.Frag) (mg : Str → Option Value) (x y : Str) (b : Bool) : Prop := ∃ (C : Addr) (u : Value), mg x = some (.ref C) ∧ mg y = some u ∧ PySem.W.exmOne K (.ref C) u = some b
theorem fns_all (hd : ∀ i name, fns[i]? = some name → DefOk K mg fns blt gls exs hds cls B i name) (hblt : ∀ x, x ∈ blt → mg x = none) (hgls : ∀ x, x ∈ gls → GlbOk K mg B x) (hexs : ∀ x, x ∈ exs → ExcOk K mg x) (hexm : ∀ x y b, B.exm x y = some b → ExmOk K mg x y b)
    (hcls : ∀ d, d ∈ cls → ClsOk K mg fns blt gls exs hds cls B d) (hhds : ∀ x, x ∈ hds → ∃ C : Addr, mg x = some (.ref C)) :
    ∀ l i ad, DefAt K fns blt gls exs hds cls B i ad → ∃ fd ps, FnOk P w K mg base (L2.CX P w) (2 * l) ad fd ps (PSpec (gxOf P w K mg base (clOf mg) B l) (callN B l i)) ∧ PySem.W.keepIn K (.ref ad) = true ∧ Binds K fd ps []
  | 0, i, ad, hi => by
    obtain ⟨x, qn, st, fd, ps, N, r, F, S, ht, hp, hN, hc, hb⟩ := hi
    have nope : ∀ vs H Q E, ¬ PSpec (gxOf P w K mg base (clOf mg) B 0) (callN B 0 i) vs H Q E := fun vs H Q E ⟨_, _, _, _, _, z⟩ => z
    exact ⟨fd, ps, ⟨fun vs H Q E z => absurd z (nope vs H Q E), fun A outer s H args us vs Q E _ _ _ _ z => absurd z (nope vs H Q E)⟩, F.kp, hb⟩
  | l + 1, i, ad, hi => by
    obtain ⟨x, qn, st, fd, ps, N, r, F, S, ht, hp, hN, hc, hb⟩ := hi
    refine ⟨fd, ps, ?_, F.kp, hb⟩
    have all := fns_all hd hblt hgls hexs hexm hcls hhds l
    exact fn_step (c := ⟨N, defScope st, fns, blt, gls, true, none, exs, r.fx, cls, hds⟩) F S ht hp hN rfl hc rfl rfl rfl
      (fun f y hf => by
        obtain ⟨ad', hm, ha⟩ := hd f y hf
        obtain ⟨fd', ps', k1, k2, k3⟩ := all f ad' ha
        exact ⟨ad', fd', ps', hm, k1, k2, k3⟩) hblt hgls hexs hexm
      (fun d hdc => by
        obtain ⟨C, fI, c1, c2, c3, c4, c5, c6⟩ := hcls d hdc
        obtain ⟨fd', ps', k1, k2, k3⟩ := all _ _ c5
        refine ⟨C, fI, fd', ps', ?_, c1, c2, c3, c4, k1, k3, fun m j hj => ?_⟩
        · show clOf mg d.nm = some C
          unfold clOf
          rw [c1]
        · obtain ⟨a, m1, m2⟩ := c6 m j hj
          obtain ⟨fd2, ps2, j1, j2, j3⟩ := all _ _ m2
          exact ⟨a, fd2, ps2, m1, j1, j3⟩) hhds
/-- what law(script) promises: for a list of at most 63 ints the answer is True -/
def lawSp (K : PySem.W.Frag) : Sp := fun vs H Q _ => ∃ (a : Addr) (ns : List Int), vs = [.ref a] ∧ SqL K H a (ns.map V.int) ∧ ns.length ≤ 63 ∧ ∀ H', Q (.bl true) H'
theorem fn_law {g : Gx} {f : List O → FOut} {l : Nat} {ad : Addr} {fd : FuncData} {ps : List Str} (h : FnOk P w K mg base (L2.CX P w) l ad fd ps (PSpec g f)) (hk : g.K = K) (plain : ∀ ns : List Int, ns.length ≤ 63 → ∃ back, f [.scr ns] = .ok (.d (.bool true)) back) :
    FnOk P w K mg base (L2.CX P w) l ad fd ps (lawSp K) := by
  refine h.imp fun vs H Q E ⟨a, ns, e, hS, hl, q⟩ => ?_
  subst e
  obtain ⟨back, hp⟩ := plain ns hl
  refine ⟨H, _, [.scr ns], .refl _, .cons (.scr (by rw [hk]; exact hS)) .nil fun _ _ z => z, ?_⟩
  rw [hp]
  intro v F' H' Ao Ab st sb ho hb dj
  cases ho with
  | d hd =>
    rw [hd.bool_eq]
    exact q H'
end
/-- the end of a law -/
theorem law_walk {l : PySem.W.OpenLaw} {q : Program} {loose : List Str} {XP : (Str → Option Value) → Heap → Prop} {YP : World → Heap → Prop} {d : DefRec} {K : Params → PySem.W.Frag} {n : Nat} (hn : l.most = some 63) (hdf : d.params.defaults = []) (hr : Room n callerA)
    (hY : ∀ (w : World) (h : Heap), YP w h → (K w.params).In h)
    (F : ∀ (w : World) (mg : Str → Option Value) (fa : Addr) (h : Heap), (K w.params).In h → h.Ns mainGlobals mg → mg d.name = some (.ref fa) →
      ∃ fd : FuncData, (∀ (s : Shared) (u : Value), BindsTo s fd ⟨[u], []⟩ [("script", u)]) ∧ ∀ base : Heap, (K w.params).In base → base.Ns mainGlobals mg → FnOk l.prog w (K w.params) mg base (L2.CX l.prog w) n fa fd ["script"] (lawSp (K w.params))) :
    PySem.W.WalkO q loose XP YP l.row.toRowW d [] (fun f vs => PySem.call f vs) :=
  L2.walk_of (n := 63) (k := n) (x := "script") (CX := fun w => L2.CX l.prog w) (sp := fun w => lawSp (K w.params)) hn (by decide) hdf hr hY F (fun _ _ a ns hl _ hS => ⟨a, ns, rfl, hS, hl, fun _ => rfl⟩) fun _ _ _ _ _ ⟨_, _, _, _, _, _, _, _, _, _, _, _, z⟩ => z
end Lw
namespace Lw
open PySem L2 RZ
theorem law_at {P : Program} {w : World} {K : PySem.W.Frag} {h : Heap} {mg : Str → Option Value} {B : Base} {fns blt gls exs hds : List Str} {cls : List ClsD} {st : Stmt} {f fa : Addr} {od an : Option Addr} {sl : Array (Option Value)} {oc kV dc pm cd ct : Value} {N : List Str} {r : FR} {i n : Nat}
    (X : K.In h) (G : h.Ns mainGlobals mg) (hfa : mg "law" = some (.ref fa))
    (a : PySem.W.nsIn K mainGlobals "law" = some (some (.ref f))) (l : K.lookup f = some ⟨oc, od, .func (PySem.W.fnOf "law" "law" (defArgs st) (defBody st) (defScope st) .none kV dc pm an cd ct), sl⟩) (c : PySem.W.codeIn K cd "law" = true) (k : PySem.W.keepIn K (.ref f) = true)
    (S : FnScope N ["script"] (defScope st)) (ht : B.tbl[i]? = some r) (hp : r.np = 1) (hN : r.nN = N.length) (hc : chkSs ⟨N, defScope st, fns, blt, gls, true, none, exs, r.fx, cls, hds⟩ r.body (defBody st) = true)
    (hb : ∀ (kV doc pm : Value) (an : Option Addr) (cdv ct : Value) (v : Value), bindArgs (PySem.W.fnOf "law" "law" (defArgs st) (defBody st) (defScope st) .none kV doc pm an cdv ct) ⟨[v], []⟩ = pure [(("script" : Str), v)])
    (hd : ∀ i name, fns[i]? = some name → DefOk K mg fns blt gls exs hds cls B i name) (hblt : ∀ x, x ∈ blt → mg x = none) (hgls : ∀ x, x ∈ gls → GlbOk K mg B x) (hexs : ∀ x, x ∈ exs → ExcOk K mg x) (hexm : ∀ x y b, B.exm x y = some b → ExmOk K mg x y b)
    (hcls : ∀ d, d ∈ cls → ClsOk K mg fns blt gls exs hds cls B d) (hhds : ∀ x, x ∈ hds → ∃ C : Addr, mg x = some (.ref C))
    (plain : ∀ ns : List Int, ns.length ≤ 63 → ∃ back, callN B (n + 1) i [.scr ns] = .ok (.d (.bool true)) back) :
    ∃ fd : FuncData, (∀ (s : Shared) (v : Value), BindsTo s fd ⟨[v], []⟩ [("script", v)]) ∧ ∀ base : Heap, K.In base → base.Ns mainGlobals mg → FnOk P w K mg base (L2.CX P w) (2 * (n + 1)) fa fd ["script"] (lawSp K) := by
  have e := hfa.symm.trans (PySem.W.mg_of X G a)
  cases e
  have F := fun_mk (st := st) l c k
  refine ⟨_, fun s v => .of_eq (hb kV dc pm an cd ct v), fun base _ _ => ?_⟩
  have all := fns_all (P := P) (w := w) (base := base) hd hblt hgls hexs hexm hcls hhds n
  have := fn_step (P := P) (w := w) (base := base) (cl := clOf mg) (l := n) (c := ⟨N, defScope st, fns, blt, gls, true, none, exs, r.fx, cls, hds⟩) F S ht hp hN rfl hc rfl rfl rfl
      (fun f y hf => by
        obtain ⟨ad', hm, ha⟩ := hd f y hf
        obtain ⟨fd', ps', k1, k2, k3⟩ := all f ad' ha
        exact ⟨ad', fd', ps', hm, k1, k2, k3⟩) hblt hgls hexs hexm
      (fun d hdc => by
        obtain ⟨C, fI, c1, c2, c3, c4, c5, c6⟩ := hcls d hdc
        obtain ⟨fd', ps', k1, k2, k3⟩ := all _ _ c5
        refine ⟨C, fI, fd', ps', ?_, c1, c2, c3, c4, k1, k3, fun m j hj => ?_⟩
        · show clOf mg d.nm = some C
          unfold clOf
          rw [c1]
        · obtain ⟨a, m1, m2⟩ := c6 m j hj
          obtain ⟨fd2, ps2, j1, j2, j3⟩ := all _ _ m2
          exact ⟨a, fd2, ps2, m1, j1, j3⟩) hhds
  exact fn_law this rfl plain
end Lw
namespace Lw
open PySem L2 RZ
section
variable {K : PySem.W.Frag} {mg : Str → Option Value} {h : Heap} {B : Base} {fns blt gls exs hds : List Str} {goal : Prop}
theorem cut_def {cls : List ClsD} {st : Stmt} {name : Str} {f : Addr} {od an : Option Addr} {sl : Array (Option Value)} {oc kV dc pm cd ct : Value} {ps N : List Str} {r : FR} {i : Nat} (X : K.In h) (G : h.Ns mainGlobals mg)
    (a : PySem.W.nsIn K mainGlobals name = some (some (.ref f))) (l : K.lookup f = some ⟨oc, od, .func (PySem.W.fnOf name name (defArgs st) (defBody st) (defScope st) .none kV dc pm an cd ct), sl⟩) (c : PySem.W.codeIn K cd name = true) (k : PySem.W.keepIn K (.ref f) = true)
    (S : FnScope N ps (defScope st)) (ht : B.tbl[i]? = some r) (hp : r.np = ps.length) (hN : r.nN = N.length) (hc : chkSs ⟨N, defScope st, fns, blt, gls, true, none, exs, r.fx, cls, hds⟩ r.body (defBody st) = true)
    (hb : ∀ (kV doc pm : Value) (an : Option Addr) (cdv ct : Value) (us : List Value), us.length = ps.length → bindArgs (PySem.W.fnOf name name (defArgs st) (defBody st) (defScope st) .none kV doc pm an cdv ct) ⟨us, []⟩ = pure (ps.zip us))
    (next : DefOk K mg fns blt gls exs hds cls B i name → goal) : goal := next ⟨f, PySem.W.mg_of X G a, DefAt.mk l c k S ht hp hN hc hb⟩
theorem cut_cl0 {x : Str} {C : Addr} (_ : K.In h) (a : PySem.W.nsIn K mainGlobals x = some (some (.ref C))) (next : PySem.W.nsIn K mainGlobals x = some (some (.ref C)) → goal) : goal := next a
theorem cut_no {x f : Str} {C : Addr} (_ : PySem.W.nsIn K mainGlobals x = some (some (.ref C))) (a : PySem.W.findIn K (.ref C) f = some none) (next : PySem.W.findIn K (.ref C) f = some none → goal) : goal := next a
/-- a method's def, its address known -/
theorem cut_mth {x : Str} {cls : List ClsD} {C : Addr} {st : Stmt} {name qn : Str} {f : Addr} {od an : Option Addr} {sl : Array (Option Value)} {oc kV dc pm cd ct : Value} {ps N : List Str} {r : FR} {i : Nat}
    (_ : PySem.W.nsIn K mainGlobals x = some (some (.ref C))) (a : PySem.W.findIn K (.ref C) name = some (some (.ref f))) (fn : PySem.W.isFn K (.ref f) = true) (l : K.lookup f = some ⟨oc, od, .func (PySem.W.fnOf name qn (defArgs st) (defBody st) (defScope st) .none kV dc pm an cd ct), sl⟩) (c : PySem.W.codeIn K cd qn = true) (k : PySem.W.keepIn K (.ref f) = true)
    (S : FnScope N ps (defScope st)) (ht : B.tbl[i]? = some r) (hp : r.np = ps.length) (hN : r.nN = N.length) (hc : chkSs ⟨N, defScope st, fns, blt, gls, true, none, exs, r.fx, cls, hds⟩ r.body (defBody st) = true)
    (hb : ∀ (kV doc pm : Value) (an : Option Addr) (cdv ct : Value) (us : List Value), us.length = ps.length → bindArgs (PySem.W.fnOf name qn (defArgs st) (defBody st) (defScope st) .none kV doc pm an cdv ct) ⟨us, []⟩ = pure (ps.zip us))
    (next : MthOk K fns blt gls exs hds cls B C name i → goal) : goal := next ⟨f, ⟨a, fn, k⟩, DefAt.mk l c k S ht hp hN hc hb⟩
/-- a class -/
theorem cut_cls {cls : List ClsD} {d : ClsD} {C : Addr} (X : K.In h) (G : h.Ns mainGlobals mg) (a : PySem.W.nsIn K mainGlobals d.nm = some (some (.ref C)))
    (pg : PySem.W.plainGet K C Str.empty = true) (hdi : PySem.W.hasDictIn K C = true) (po : PySem.W.plainOver K C = true) (sa : PySem.W.findIn K (.ref C) "__setattr__" = some (some (.builtin "object.__setattr__")))
    (nf : ∀ f, f ∈ d.fl → PySem.W.findIn K (.ref C) f = some none) (mk : PySem.W.makesIn K C = true) (kp : PySem.W.keepIn K (.ref C) = true)
    (hi : MthOk K fns blt gls exs hds cls B C "__init__" d.init) (hm : ∀ m i, (m, i) ∈ d.mts → MthOk K fns blt gls exs hds cls B C m i)
    (next : ClsOk K mg fns blt gls exs hds cls B d → goal) : goal := by
  obtain ⟨fI, mI, aI⟩ := hi
  exact next ⟨C, fI, PySem.W.mg_of X G a, ⟨pg, hdi, po, sa⟩, nf, ⟨mk, mI.at_, mI.fn, kp⟩, aI, hm⟩
theorem cut_exc {x : Str} {C : Addr} {B0 newId initId : String} {bmB : List Value} (X : K.In h) (G : h.Ns mainGlobals mg) (F : ExcBaseFacts B0 newId initId bmB) (a : PySem.W.nsIn K mainGlobals x = some (some (.ref C))) (e : PySem.W.excIn K C bmB newId = true) (k : PySem.W.keepIn K (.ref C) = true)
    (s : PySem.W.subIn K (.ref C) (.type "BaseException") = some true) (t : PySem.W.typeIn K (.ref C) = some (.type "type")) (next : ∀ C, mg x = some (.ref C) → ExcOk K mg x → goal) : goal :=
  next C (PySem.W.mg_of X G a) ⟨C, B0, newId, initId, bmB, F, e, PySem.W.mg_of X G a, k, s, t⟩
theorem cut_hd {x : Str} {C : Addr} (X : K.In h) (G : h.Ns mainGlobals mg) (a : PySem.W.nsIn K mainGlobals x = some (some (.ref C))) (next : (∃ C : Addr, mg x = some (.ref C)) → goal) : goal := next ⟨C, PySem.W.mg_of X G a⟩
theorem cut_none {x : Str} (X : K.In h) (G : h.Ns mainGlobals mg) (a : PySem.W.nsIn K mainGlobals x = some none) (next : mg x = none → goal) : goal := next (PySem.W.mg_none_of X G a)
theorem cut_int {x : Str} {n : Int} {t : Tok} (X : K.In h) (G : h.Ns mainGlobals mg) (a : PySem.W.nsIn K mainGlobals x = some (some (.int n t))) (hg : B.glob x = some (.int n)) (next : GlbOk K mg B x → goal) : goal :=
  next ⟨.int n t, .int n, .int n, PySem.W.mg_of X G a, ⟨t, rfl⟩, hg, fun F => .int n⟩
theorem exm_of {K : PySem.W.Frag} {C D : Addr} {b : Bool} (h1 : PySem.W.subIn K (.ref D) (.type "BaseException") = some true) (h2 : PySem.W.isClsIn K D = true) (h3 : PySem.W.typeIn K (.ref D) = some (.type "type")) (h4 : PySem.W.subIn K (.ref C) (.ref D) = some b) :
    PySem.W.exmOne K (.ref C) (.ref D) = some b := by
  have e1 : (PySem.W.subIn K (.ref D) (.type "BaseException") == some true) = true := by rw [h1] <;> rfl
  have e2 : ((PySem.W.clsIn K D).isSome && PySem.W.typeIn K (.ref D) == some (.type "type")) = true := by
    have h2' : (PySem.W.clsIn K D).isSome = true := h2
    rw [h2', h3] <;> rfl
  show (if (PySem.W.subIn K (.ref D) (.type "BaseException") == some true) = true then (if ((PySem.W.clsIn K D).isSome && PySem.W.typeIn K (.ref D) == some (.type "type")) = true then PySem.W.subIn K (.ref C) (.ref D) else none) else none) = some b
  rw [if_pos e1, if_pos e2]
  exact h4
theorem cut_exm {x y : Str} {C D : Addr} {b : Bool} (X : K.In h) (G : h.Ns mainGlobals mg) (a : PySem.W.nsIn K mainGlobals x = some (some (.ref C))) (c : PySem.W.nsIn K mainGlobals y = some (some (.ref D))) (s : PySem.W.subIn K (.ref D) (.type "BaseException") = some true) (k : PySem.W.isClsIn K D = true)
    (t : PySem.W.typeIn K (.ref D) = some (.type "type")) (e : PySem.W.subIn K (.ref C) (.ref D) = some b) (next : ExmOk K mg x y b → goal) : goal :=
  next ⟨C, .ref D, PySem.W.mg_of X G a, PySem.W.mg_of X G c, exm_of s k t e⟩
end
end Lw

set_option maxRecDepth 100000
/-! LwG: constants of the module that are data. -/
namespace Lw
open PySem L2
def optAll {α β : Type} (f : α → Option β) : List α → Option (List β)
  | [] => some []
  | x :: xs => match f x, optAll f xs with
    | some y, some ys => some (y :: ys)
    | _, _ => none
/-- data read off the written part -/
def datIn (K : PySem.W.Frag) : Nat → Value → Option PyData
  | 0, _ => none
  | _ + 1, .none => some .none
  | _ + 1, .bool b => some (.bool b)
  | _ + 1, .int i _ => some (.int i)
  | _ + 1, .str x _ => some (.str x)
  | n + 1, .ref a => match K.lookup a with
    | some o => match o.data with
      | .seq its _ => if o.cls == .type "tuple" && decide (its.size ≤ 1000) then (optAll (datIn K n) its.toList).map .tuple else none
      | _ => none
    | none => none
  | _ + 1, _ => none
theorem datIn_ok {K : PySem.W.Frag} : ∀ (n : Nat) (u : Value) (d : PyData), datIn K n u = some d → ∃ v, L2.RelV v u ∧ ∀ F, Dq K F v d
  | 0, _, _, h => by cases h
  | n + 1, u, d, h => by
    have all : ∀ (us : List Value) (ds : List PyData), optAll (datIn K n) us = some ds → ∃ vs, Vals vs us ∧ ∀ F, DqAll K F vs ds := by
      intro us
      induction us with
      | nil => intro ds h; simp only [optAll] at h; cases h; exact ⟨[], .nil, fun _ => .nil⟩
      | cons u us ih =>
        intro ds h
        simp only [optAll] at h
        cases h1 : datIn K n u with
        | none => rw [h1] at h; cases h
        | some d =>
          cases h2 : optAll (datIn K n) us with
          | none => rw [h1, h2] at h; cases h
          | some ds' =>
            rw [h1, h2] at h
            cases h
            obtain ⟨v, r, q⟩ := datIn_ok n u d h1
            obtain ⟨vs, r2, q2⟩ := ih ds' h2
            exact ⟨v :: vs, .cons r r2, fun F => .cons (q F) (q2 F)⟩
    cases u with
    | none => simp only [datIn] at h; cases h; exact ⟨.non, rfl, fun _ => .non⟩
    | bool b => simp only [datIn] at h; cases h; exact ⟨.bl b, rfl, fun _ => .bl b⟩
    | int i t => simp only [datIn] at h; cases h; exact ⟨.int i, ⟨t, rfl⟩, fun _ => .int i⟩
    | str x t => simp only [datIn] at h; cases h; exact ⟨.str x, ⟨t, rfl⟩, fun _ => .str x⟩
    | ref a =>
      simp only [datIn] at h
      cases e : K.lookup a with
      | none => rw [e] at h; cases h
      | some o =>
        rw [e] at h
        simp only at h
        split at h
        · rename_i its m hd
          split at h
          · rename_i hc
            rw [Bool.and_eq_true, decide_eq_true_eq] at hc
            cases h2 : optAll (datIn K n) its.toList with
            | none => rw [h2] at h; cases h
            | some ds =>
              rw [h2] at h
              cases h
              obtain ⟨vs, r, q⟩ := all _ _ h2
              exact ⟨.ref a, rfl, fun F => .tup (.inr ⟨o, its, m, e, eq_of_beq hc.1, hd, by have := hc.2; rw [sizeLine_eq]; omega, r⟩) (q F)⟩
          · cases h
        · cases h
    | _ => simp only [datIn] at h; cases h
section
variable {K : PySem.W.Frag} {h : Heap} {mg : Str → Option Value} {B : Base} {goal : Prop}
theorem cut_dat {x : Str} {u : Value} {d : PyData} (X : K.In h) (G : h.Ns mainGlobals mg) (a : PySem.W.nsIn K mainGlobals x = some (some u)) (e : datIn K 8 u = some d) (hg : B.glob x = some d) (next : GlbOk K mg B x → goal) : goal := by
  obtain ⟨v, r, q⟩ := datIn_ok 8 u d e
  exact next ⟨u, v, d, PySem.W.mg_of X G a, r, hg, q⟩
end
end Lw

set_option maxRecDepth 100000
/-! Pl1: plain reasoning over the evaluator. -/
namespace Lw
open PySem L2
/-! ### lists of data, owned -/
def ol (xs : List PyData) : O := .lst (xs.map .d)
theorem ol_fold (xs : List PyData) : O.lst (xs.map .d) = ol xs := rfl
theorem ol_fold' (f : PyData → O) (h : f = O.d) (xs : List PyData) : O.lst (xs.map f) = ol xs := by subst h; rfl
theorem ol_nil : O.lst [] = ol [] := rfl
theorem ol_one (a : PyData) : O.lst [.d a] = ol [a] := rfl
theorem ol_two (a b : PyData) : O.lst [.d a, .d b] = ol [a, b] := rfl
theorem ol_toD (xs : List PyData) : (ol xs).toD = some (.list xs) := O.toD_lst xs
theorem flats_map : ∀ xs : List PyData, O.flats (xs.map .d) = some xs
  | [] => by rw [List.map_nil, O.flats]
  | x :: xs => by rw [List.map_cons, O.flats, flats_map xs]
theorem ol_flat (xs : List PyData) : (ol xs).flat = some (.list xs) := by
  unfold ol
  rw [O.flat, flats_map]; rfl
theorem ol_isLst (xs : List PyData) : isLst (some (ol xs)) = true := rfl
theorem ol_slice (xs : List PyData) (lo hi : Option Int) : sliceO (ol xs) lo hi = some (ol (sliceD xs lo hi)) := by
  have : sliceO (ol xs) lo hi = (match (ol xs).flat with
    | some (.list xs) => some (.lst ((sliceD xs lo hi).map .d))
    | _ => none) := rfl
  rw [this, ol_flat]; rfl
/-! ### calls -/
theorem outF_nil {n : Nat} (x : SOut) : outF [] n x = outF [] 0 x := by cases x <;> rfl
theorem callN_eq {B : Base} {l i : Nat} {os : List O} {r : FR} (h : B.tbl[i]? = some r) (hl : os.length = r.np) (hf : r.fx = [] := by rfl) :
    callN B (l + 1) i os = outF [] 0 (ex (B.ge l) r.body (os.map some ++ List.replicate (r.nN - r.np) none)) := by
  rw [callN, h]
  simp only [hl, if_true, hf]
  exact outF_nil _
/-- a method's call -/
theorem callN_eqm {B : Base} {l i : Nat} (n : Nat) {os : List O} {r : FR} (h : B.tbl[i]? = some r) (hl : os.length = r.np) (hn : r.np = n) (hf : r.fx = [0] := by rfl) :
    callN B (l + 1) i os = outF [0] n (ex (B.ge l) r.body (os.map some ++ List.replicate (r.nN - r.np) none)) := by
  rw [callN, h]
  simp only [hl, if_true, hf]
  rw [hn]
  rfl
theorem ge_call (B : Base) (l : Nat) : (B.ge l).call = callN B l := Eq.trans rfl rfl
theorem ge_glob (B : Base) (l : Nat) : (B.ge l).glob = B.glob := Eq.trans rfl rfl
theorem ge_wf (B : Base) (l : Nat) : (B.ge l).wf = B.wf := Eq.trans rfl rfl
theorem ge_exm (B : Base) (l : Nat) : (B.ge l).exm = B.exm := Eq.trans rfl rfl
/-! ### while -/
theorem wLoop_ind {t : Ro → Out Bool} {b : Ro → SOut} {Q : Ro → Prop} (I : Nat → Ro → Prop)
    (h : ∀ m ro, I m ro → (t ro = .ok false ro ∧ Q ro) ∨ (t ro = .ok true ro ∧ ∃ ro' m', b ro = .nx ro' ∧ m' < m ∧ I m' ro')) :
    ∀ n m ro, m < n → I m ro → ∃ ro', wLoop t b n ro = .nx ro' ∧ Q ro'
  | 0, m, ro, hm, _ => absurd hm (Nat.not_lt_zero _)
  | n + 1, m, ro, hm, hi => by
    rw [wLoop]
    rcases h m ro hi with ⟨h1, h2⟩ | ⟨h1, ro', m', h2, h3, h4⟩
    · rw [h1]
      exact ⟨ro, by simp, h2⟩
    · obtain ⟨ro2, k1, k2⟩ := wLoop_ind I h n m' ro' (by omega) h4
      rw [h1]
      refine ⟨ro2, ?_, k2⟩
      simp only [Out.then_ok, if_true, h2, k1]
/-! ### for -/
theorem fLoop_ind {α : Type} {tg : CE} {b : Ro → SOut} (enc : α → PyData) (ys : List α) (I : List α → Ro → Prop)
    (h : ∀ pre a post ro, ys = pre ++ a :: post → I pre ro → ∃ ro1 ro2, asgT tg (enc a) ro = some ro1 ∧ (b ro1 = .nx ro2 ∨ b ro1 = .ct ro2) ∧ I (pre ++ [a]) ro2) :
    ∀ (post pre : List α) (ro : Ro), ys = pre ++ post → I pre ro → ∃ ro', fLoop tg b (post.map enc) ro = .nx ro' ∧ I ys ro'
  | [], pre, ro, e, hi => ⟨ro, by rw [List.map_nil, fLoop], by rw [e, List.append_nil]; exact hi⟩
  | a :: post, pre, ro, e, hi => by
    obtain ⟨ro1, ro2, h1, h2, h3⟩ := h pre a post ro e hi
    obtain ⟨ro', k1, k2⟩ := fLoop_ind enc ys I h post (pre ++ [a]) ro2 (by rw [e]; simp) h3
    refine ⟨ro', ?_, k2⟩
    rw [List.map_cons, fLoop, h1]
    rcases h2 with h2 | h2 <;> simp only [h2, k1]
/-- .. that may end early: Z tells how -/
theorem fLoop_find {α : Type} {tg : CE} {b : Ro → SOut} (enc : α → PyData) (ys : List α) (I : List α → Ro → Prop) (Z : SOut → Prop)
    (h : ∀ pre a post ro, ys = pre ++ a :: post → I pre ro → ∃ ro1, asgT tg (enc a) ro = some ro1 ∧
      ((∃ ro2, (b ro1 = .nx ro2 ∨ b ro1 = .ct ro2) ∧ I (pre ++ [a]) ro2) ∨ (∃ o ro2, b ro1 = .ret o ro2 ∧ Z (.ret o ro2)) ∨ (∃ x ro2, b ro1 = .exc x ro2 ∧ Z (.exc x ro2)) ∨ (∃ ro2, b ro1 = .brk ro2 ∧ Z (.nx ro2)))) :
    ∀ (post pre : List α) (ro : Ro), ys = pre ++ post → I pre ro → (∃ ro', fLoop tg b (post.map enc) ro = .nx ro' ∧ I ys ro') ∨ Z (fLoop tg b (post.map enc) ro)
  | [], pre, ro, e, hi => .inl ⟨ro, by rw [List.map_nil, fLoop], by rw [e, List.append_nil]; exact hi⟩
  | a :: post, pre, ro, e, hi => by
    obtain ⟨ro1, h1, h2⟩ := h pre a post ro e hi
    rw [List.map_cons, fLoop, h1]
    rcases h2 with ⟨ro2, h2, h3⟩ | ⟨o, ro2, h2, h3⟩ | ⟨x, ro2, h2, h3⟩ | ⟨ro2, h2, h3⟩
    · have k := fLoop_find enc ys I Z h post (pre ++ [a]) ro2 (by rw [e]; simp) h3
      rcases h2 with h2 | h2 <;> simpa only [h2] using k
    · right; simpa only [h2] using h3
    · right; simpa only [h2] using h3
    · right; simpa only [h2] using h3
/-! ### comprehensions -/
/-- a turn, from wiped slots -/
def cBody (G : GE) (own : List (Str × Nat)) (elt tg ifs : CE) (x : PyData) (ro : Ro) : Out (Option O) := match asgT tg x ro with
  | some ro => (evB G ifs ro).bind fun b ro => if b then (ev G elt ro).bind fun h ro => (h.sto ro).bind fun o ro => .ok (some o) (wipeR own ro) else .ok none (wipeR own ro)
  | none => .stuck
theorem unwipe_get {old : Ro} : ∀ {own : List (Str × Nat)} {s : Ro} {j : Nat}, s.length = old.length → (j ∈ own.map (·.2) ∨ s[j]? = old[j]?) → (Lw.unwipe old own s)[j]? = old[j]?
  | [], s, j, hl, h => by
    rcases h with h | h
    · cases h
    · exact h
  | p :: ps, s, j, hl, h => by
    rw [Lw.unwipe]
    refine unwipe_get (by rw [List.length_set, hl]) ?_
    by_cases e : p.2 = j
    · right
      rw [e]
      by_cases hj : j < old.length
      · rw [List.getElem?_set_self (by rw [hl]; exact hj), List.getElem?_eq_getElem hj]
        rfl
      · rw [List.getElem?_eq_none (by rw [List.length_set, hl]; exact Nat.le_of_not_lt hj), List.getElem?_eq_none (Nat.le_of_not_lt hj)]
    · rw [List.getElem?_set_ne e]
      rcases h with h | h
      · rw [List.map_cons] at h
        rcases List.mem_cons.mp h with z | z
        · exact absurd z.symm e
        · exact .inl z
      · exact .inr h
theorem wipeR_get {j : Nat} : ∀ {own : List (Str × Nat)} {ro : Ro}, j ∉ own.map (·.2) → (wipeR own ro)[j]? = ro[j]?
  | [], ro, _ => rfl
  | p :: ps, ro, h => by
    rw [List.map_cons] at h
    rw [wipeR, List.getElem?_set_ne (fun e => h (by simp [e])), wipeR_get fun z => h (List.mem_cons_of_mem _ z)]
theorem unwipe_wipe (ro : Ro) (own : List (Str × Nat)) : Lw.unwipe ro own (wipeR own ro) = ro := by
  apply List.ext_getElem?
  intro j
  refine unwipe_get (wipeR_len own ro) ?_
  by_cases h : j ∈ own.map (·.2)
  · exact .inl h
  · exact .inr (wipeR_get h)
theorem cLoop_eq {G : GE} {own : List (Str × Nat)} {elt tg ifs : CE} {roW : Ro} {α : Type} {enc : α → PyData} {f : α → Option O} : ∀ (as : List α) (ro : Ro), wipeR own ro = roW → (∀ a ∈ as, cBody G own elt tg ifs (enc a) roW = .ok (f a) roW) →
    ∃ ro', cLoop (fun x ro => cBody G own elt tg ifs x (wipeR own ro)) (as.map enc) ro = .ok (as.filterMap f) ro' ∧ wipeR own ro' = roW
  | [], ro, hr, h => ⟨ro, by rw [List.map_nil, cLoop]; rfl, hr⟩
  | a :: as, ro, hr, h => by
    have hw : wipeR own roW = roW := by rw [← hr, wipeR_idem]
    obtain ⟨ro', h1, h2⟩ := cLoop_eq as roW hw fun b hb => h b (List.mem_cons_of_mem _ hb)
    refine ⟨ro', ?_, h2⟩
    rw [List.map_cons, cLoop, hr, h a List.mem_cons_self]
    simp only [Out.bind_ok, h1]
    cases e : f a with
    | none => rw [List.filterMap_cons_none e]
    | some o => rw [List.filterMap_cons_some e]
theorem ev_comp {G : GE} {q : Bool} {own : List (Str × Nat)} {elt tg it ifs : CE} {ro ro0 : Ro} {α : Type} (enc : α → PyData) (as : List α) (f : α → Option O) (hi : evI G (!q) it ro = .ok (as.map enc) ro0) (hq : quietOwn ro0 own = true)
    (hc : (!q || (qt elt && qt ifs)) = true) (hl : as.length ≤ 16777216) (h : ∀ a ∈ as, cBody G own elt tg ifs (enc a) (wipeR own ro0) = .ok (f a) (wipeR own ro0)) : ev G (.comp q own elt tg it ifs) ro = .ok (.tm (.lst (as.filterMap f))) ro0 := by
  have hl' : lenOk (as.map enc).length = true := by rw [List.length_map]; unfold lenOk; simpa using hl
  rw [ev, hi]
  simp only [Out.bind_ok, hq, hc, hl', Bool.and_self, if_true]
  obtain ⟨ro', h1, h2⟩ := cLoop_eq (own := own) (elt := elt) (tg := tg) (ifs := ifs) as ro0 rfl h
  show cEnd ro0 own (cLoop (fun x ro => cBody G own elt tg ifs x (wipeR own ro)) (as.map enc) ro0) = _
  rw [h1]
  simp only [cEnd, h2]
  rw [unwipe_wipe]
/-- .. that raises at an item -/
theorem ev_comp_exc {G : GE} {q : Bool} {own : List (Str × Nat)} {elt tg it ifs : CE} {ro ro0 : Ro} {α : Type} (enc : α → PyData) (as : List α) (pre post : List α) (a : α) (e : as = pre ++ a :: post) (f : α → Option O) (x : Exn) (roX : Ro) (hi : evI G (!q) it ro = .ok (as.map enc) ro0) (hq : quietOwn ro0 own = true)
    (hc : (!q || (qt elt && qt ifs)) = true) (hl : as.length ≤ 16777216) (h : ∀ b ∈ pre, cBody G own elt tg ifs (enc b) (wipeR own ro0) = .ok (f b) (wipeR own ro0)) (hx : cBody G own elt tg ifs (enc a) (wipeR own ro0) = .exc x roX) : ∃ ro', ev G (.comp q own elt tg it ifs) ro = .exc x ro' := by
  have hl' : lenOk (as.map enc).length = true := by rw [List.length_map]; unfold lenOk; simpa using hl
  rw [ev, hi]
  simp only [Out.bind_ok, hq, hc, hl', Bool.and_self, if_true]
  have k : ∀ (pre : List α) (ro : Ro), wipeR own ro = wipeR own ro0 → (∀ b ∈ pre, cBody G own elt tg ifs (enc b) (wipeR own ro0) = .ok (f b) (wipeR own ro0)) → ∃ ro', cLoop (fun x ro => cBody G own elt tg ifs x (wipeR own ro)) ((pre ++ a :: post).map enc) ro = .exc x ro' := by
    intro pre
    induction pre with
    | nil =>
      intro ro hr _
      refine ⟨roX, ?_⟩
      rw [List.nil_append, List.map_cons, cLoop, hr, hx]
      rfl
    | cons b pre ih =>
      intro ro hr hb
      obtain ⟨ro', h1⟩ := ih (wipeR own ro0) (wipeR_idem own ro0) fun c hc => hb c (List.mem_cons_of_mem _ hc)
      refine ⟨ro', ?_⟩
      rw [List.cons_append, List.map_cons, cLoop, hr, hb b List.mem_cons_self]
      simp only [Out.bind_ok, h1, Out.bind_exc]
  obtain ⟨ro', h1⟩ := k pre ro0 rfl h
  rw [← e] at h1
  refine ⟨Lw.unwipe ro0 own (wipeR own ro'), ?_⟩
  show cEnd ro0 own (cLoop (fun x ro => cBody G own elt tg ifs x (wipeR own ro)) (as.map enc) ro0) = _
  rw [h1]
  rfl
theorem filterMap_d {α : Type} (g : α → PyData) (as : List α) : (as.filterMap fun a => some (O.d (g a))) = (as.map g).map .d := by
  induction as with
  | nil => rfl
  | cons a as ih =>
    have : List.filterMap (fun a => some (O.d (g a))) (a :: as) = O.d (g a) :: List.filterMap (fun a => some (O.d (g a))) as := rfl
    rw [this, ih]; rfl
theorem filterMap_if {α : Type} (p : α → Bool) (g : α → PyData) (as : List α) : (as.filterMap fun a => if p a then some (O.d (g a)) else none) = ((as.filter p).map g).map .d := by
  induction as with
  | nil => rfl
  | cons a as ih =>
    cases h : p a with
    | true => rw [List.filterMap_cons, List.filter_cons_of_pos h]; simp only [h, if_true, ih]; rfl
    | false => rw [List.filterMap_cons, List.filter_cons_of_neg (by simp [h])]; simp [h, ih]
theorem ev_map {G : GE} {q : Bool} {own : List (Str × Nat)} {elt tg it ifs : CE} {ro ro0 : Ro} {α : Type} (enc : α → PyData) (as : List α) (g : α → PyData) (hi : evI G (!q) it ro = .ok (as.map enc) ro0) (hq : quietOwn ro0 own = true)
    (hc : (!q || (qt elt && qt ifs)) = true) (hl : as.length ≤ 16777216) (h : ∀ a ∈ as, cBody G own elt tg ifs (enc a) (wipeR own ro0) = .ok (some (.d (g a))) (wipeR own ro0)) : ev G (.comp q own elt tg it ifs) ro = .ok (.tm (ol (as.map g))) ro0 := by
  rw [ev_comp enc as (fun a => some (.d (g a))) hi hq hc hl h, filterMap_d]
  rfl
theorem ev_filt {G : GE} {q : Bool} {own : List (Str × Nat)} {elt tg it ifs : CE} {ro ro0 : Ro} {α : Type} (enc : α → PyData) (as : List α) (p : α → Bool) (g : α → PyData) (hi : evI G (!q) it ro = .ok (as.map enc) ro0) (hq : quietOwn ro0 own = true)
    (hc : (!q || (qt elt && qt ifs)) = true) (hl : as.length ≤ 16777216) (h : ∀ a ∈ as, cBody G own elt tg ifs (enc a) (wipeR own ro0) = .ok (if p a then some (.d (g a)) else none) (wipeR own ro0)) : ev G (.comp q own elt tg it ifs) ro = .ok (.tm (ol ((as.filter p).map g))) ro0 := by
  rw [ev_comp enc as (fun a => if p a then some (.d (g a)) else none) hi hq hc hl h, filterMap_if]
  rfl
end Lw

set_option maxRecDepth 100000
/-! Pl2: the evaluator's equations in a form that simp goes on with. -/
namespace Lw
open PySem L2
def bsel {α : Type} (o : Option Bool) (x y z : α) : α := match o with
  | some true => x
  | some false => y
  | none => z
theorem bsel_some {α : Type} (c : Bool) (x y z : α) : bsel (some c) x y z = if c = true then x else y := by cases c <;> rfl
theorem bsel_none {α : Type} (x y z : α) : bsel none x y z = z := rfl
def osel {α β : Type} (o : Option α) (f : α → β) (z : β) : β := match o with
  | some x => f x
  | none => z
theorem osel_some {α β : Type} (x : α) (f : α → β) (z : β) : osel (some x) f z = f x := Eq.trans rfl rfl
theorem osel_none {α β : Type} (f : α → β) (z : β) : osel none f z = z := Eq.trans rfl rfl
section
variable {G : GE} {ro : Ro}
theorem q_var (i : Nat) : ev G (.var i) ro = osel (ro[i]?) (fun x => osel x (fun _ => .ok (.sl i []) ro) .stuck) .stuck := by
  rw [ev]
  cases h : ro[i]? with
  | none => rfl
  | some x => cases x <;> rfl
theorem q_int (n : Int) : ev G (.int n) ro = .ok (.tm (.d (.int n))) ro := by rw [ev]
theorem q_bl (b : Bool) : ev G (.bl b) ro = .ok (.tm (.d (.bool b))) ro := by rw [ev]
theorem q_non : ev G .non ro = .ok (.tm (.d .none)) ro := by rw [ev]
theorem q_str (s : Str) : ev G (.str s) ro = .ok (.tm (.d (.str s))) ro := by rw [ev]
theorem q_glob (x : Str) : ev G (.glob x) ro = osel (G.glob x) (fun d => .ok (.tm (.d d)) ro) .stuck := by
  rw [ev]; cases G.glob x <;> rfl
theorem q_bin (op : Operator) (a b : CE) : ev G (.bin op a b) ro = (ev G a ro).bind fun h1 ro => if okD h1 b = true then (ev G b ro).bind fun h2 ro => osel (h1.opd ro) (fun x => osel (h2.opd ro) (fun y => osel (binO op x y) (fun z => .ok (.tm z) ro) .stuck) .stuck) .stuck else .stuck := by
  rw [ev]
  congr 1; funext h1 ro; congr 1; congr 1; funext h2 ro
  cases h1.opd ro with
  | none => rfl
  | some x => cases h2.opd ro with
    | none => rfl
    | some y =>
      simp only [osel]
      cases h : binO op x y <;> simp [h]
theorem q_neg (a : CE) : ev G (.neg a) ro = (ev G a ro).bind fun h ro => match h.lookD ro with
    | some (.int i) => .ok (.tm (.d (.int (-i)))) ro
    | _ => .stuck := by rw [ev] <;> rfl
theorem q_not (a : CE) : ev G (.not a) ro = (ev G a ro).bind fun h ro => osel (h.bool ro) (fun b => .ok (.tm (.d (.bool (!b)))) ro) .stuck := by
  rw [ev]; congr 1 <;> (funext h ro; cases h.bool ro <;> rfl)
theorem q_and (a b : CE) : ev G (.and a b) ro = (ev G a ro).bind fun h ro => bsel (h.bool ro) (ev G b ro) (.ok (.tm (.d (.bool false))) ro) .stuck := by
  rw [ev]; congr 1 <;> (
    funext h ro
    cases h.bool ro with
    | none => rfl
    | some b => cases b <;> rfl)
theorem q_or (a b : CE) : ev G (.or a b) ro = (ev G a ro).bind fun h ro => bsel (h.bool ro) (.ok (.tm (.d (.bool true))) ro) (ev G b ro) .stuck := by
  rw [ev]; congr 1 <;> (
    funext h ro
    cases h.bool ro with
    | none => rfl
    | some b => cases b <;> rfl)
theorem q_one (a : CE) : ev G (.one a) ro = ev G a ro := by rw [ev]
theorem q_cmp (op : CmpOp) (a b : CE) : ev G (.cmp op a b) ro = (ev G a ro).bind fun h1 ro => if okD h1 b = true then (ev G b ro).bind fun h2 ro => osel (h1.lookD ro) (fun x => osel (h2.lookD ro) (fun y => osel (cmpD op x y) (fun c => .ok (.tm (.d (.bool c))) ro) .stuck) .stuck) .stuck else .stuck := by
  rw [ev]
  congr 1; funext h1 ro; congr 1; congr 1; funext h2 ro
  cases h1.lookD ro with
  | none => rfl
  | some x => cases h2.lookD ro with
    | none => rfl
    | some y =>
      simp only [osel]
      cases h : cmpD op x y <;> simp [h]
theorem q_chain (o1 o2 : CmpOp) (a b c : CE) : ev G (.chain o1 o2 a b c) ro = (ev G a ro).bind fun h1 ro => if okD h1 b = true then (ev G b ro).bind fun h2 ro => osel (h1.lookD ro) (fun x => osel (h2.lookD ro) (fun y => bsel (cmpD o1 x y)
      (if okD h2 c = true then (ev G c ro).bind fun h3 ro => osel (h2.lookD ro) (fun y => osel (h3.lookD ro) (fun z => osel (cmpD o2 y z) (fun c => .ok (.tm (.d (.bool c))) ro) .stuck) .stuck) .stuck else .stuck) (.ok (.tm (.d (.bool false))) ro) .stuck) .stuck) .stuck else .stuck := by
  rw [ev]
  congr 1; funext h1 ro; congr 1; congr 1; funext h2 ro
  cases h1.lookD ro with
  | none => rfl
  | some x => cases h2.lookD ro with
    | none => rfl
    | some y =>
      simp only [osel]
      cases h : cmpD o1 x y with
      | none => rfl
      | some z =>
        cases z with
        | false => rfl
        | true =>
          simp only [bsel]
          congr 1; congr 1; funext h3 ro
          cases h2.lookD ro with
          | none => rfl
          | some x => cases h3.lookD ro with
            | none => rfl
            | some y =>
              cases h : cmpD o2 x y <;> simp [h]
theorem q_ifx (c a b : CE) : ev G (.ifx c a b) ro = (ev G c ro).bind fun h ro => bsel (h.bool ro) (ev G a ro) (ev G b ro) .stuck := by
  rw [ev]; congr 1 <;> (
    funext h ro
    cases h.bool ro with
    | none => rfl
    | some b => cases b <;> rfl)
theorem q_tup (as : CE) : ev G (.tup as) ro = (evs G as ro).bind fun hs ro => (escs hs ro).bind fun xs ro => if lenOk xs.length = true then .ok (.tm (.d (.tuple xs))) ro else .stuck := by rw [ev]
theorem q_lst (as : CE) : ev G (.lst as) ro = (evs G as ro).bind fun hs ro => (stos hs ro).bind fun os ro => if lenOk os.length = true then .ok (.tm (.lst os)) ro else .stuck := by rw [ev]
theorem q_idx (a i : CE) : ev G (.idx a i) ro = (ev G a ro).bind fun h1 ro => if okD h1 i = true then (ev G i ro).bind fun h2 ro => osel (h1.lookF ro) (fun x => osel (h2.lookD ro) (fun y => osel (idxD x y) (fun z => .ok (.tm (.d z)) ro) .stuck) .stuck) .stuck else .stuck := by
  rw [ev]
  congr 1; funext h1 ro; congr 1; congr 1; funext h2 ro
  cases h1.lookF ro with
  | none => rfl
  | some x => cases h2.lookD ro with
    | none => rfl
    | some y =>
      simp only [osel]
      cases h : idxD x y <;> simp [h]
theorem q_slc (a lo hi : CE) : ev G (.slc a lo hi) ro = (ev G a ro).bind fun h1 ro => if okD h1 lo = true ∧ okD h1 hi = true then (evs G lo ro).bind fun l ro => osel (partD ro l) (fun l => (evs G hi ro).bind fun u ro => osel (h1.look ro) (fun x => osel (partD ro u) (fun u => osel (sliceO x l u) (fun z => .ok (.tm z) ro) .stuck) .stuck) .stuck) .stuck else .stuck := by
  rw [ev]
  congr 1; funext h1 ro
  simp only [Bool.and_eq_true]
  congr 1; congr 1; funext l ro
  cases partD ro l with
  | none => rfl
  | some l =>
    simp only [osel]
    congr 1; funext u ro
    cases h1.look ro with
    | none => rfl
    | some x => cases partD ro u with
      | none => rfl
      | some u =>
        cases h : sliceO x l u <;> simp [h]
def fsel (r : FOut) (ro : Ro) : Out Hd := match r with
  | .ok o _ => .ok (.tm o) ro
  | .exc x _ => .exc x ro
  | .stuck => .stuck
theorem fsel_ok (o : O) (b : List (Option O)) : fsel (.ok o b) ro = .ok (.tm o) ro := Eq.trans rfl rfl
theorem fsel_exc (x : Exn) (b : List (Option O)) : fsel (.exc x b) ro = .exc x ro := Eq.trans rfl rfl
theorem q_call (f : Nat) (as : CE) : ev G (.call f as) ro = (evs G as ro).bind fun hs ro => (argsO hs ro).bind fun xs ro => fsel (G.call f xs) ro := by
  rw [ev]; congr 1 <;> (funext hs ro; congr 1 <;> (funext xs ro; cases G.call f xs <;> rfl))
theorem q_prim (p : Pr) (as : CE) : ev G (.prim p as) ro = (evs G as ro).bind fun hs ro => osel (looksF ro hs) (fun xs => osel (primO p xs) (fun z => .ok (.tm z) ro) .stuck) .stuck := by
  rw [ev]; congr 1; funext hs ro
  cases looksF ro hs with
  | none => rfl
  | some xs =>
    simp only [osel]
    cases h : primO p xs <;> simp [h]
theorem q_isi (a : CE) (T : Tn) : ev G (.isi a T) ro = (ev G a ro).bind fun h ro => osel (h.lookD ro) (fun x => osel (isiD T x) (fun b => .ok (.tm (.d (.bool b))) ro) .stuck) .stuck := by
  rw [ev]; congr 1; funext h ro
  cases h.lookD ro with
  | none => rfl
  | some x =>
    simp only [osel]
    cases h : isiD T x <;> simp [h]
theorem q_rev (a : CE) : ev G (.rev a) ro = (ev G a ro).bind fun h ro => match h.lookF ro with
    | some (.tuple xs) => .ok (.tm (.d (.tuple xs.reverse))) ro
    | some (.list xs) => .ok (.tm (ol xs.reverse)) ro
    | _ => .stuck := by rw [ev] <;> rfl
theorem q_sset (a : CE) : ev G (.sset a) ro = (ev G a ro).bind fun h ro => match h.lookF ro with
    | some (.list xs) => osel (ssetD xs) (fun ys => .ok (.tm (ol ys)) ro) .stuck
    | _ => .stuck := by
  rw [ev]; congr 1; funext h ro
  cases h.lookF ro with
  | none => rfl
  | some x =>
    cases x <;> try rfl
    rename_i xs
    simp only
    cases h : ssetD xs <;> rfl
def noxE (r : Out Hd) : Out Hd := match r with
  | .exc _ _ => .stuck
  | r => r
theorem q_nox (a : CE) : ev G (.nox a) ro = noxE (ev G a ro) := by
  rw [ev]; cases ev G a ro <;> rfl
theorem noxE_ok (h : Hd) : noxE (.ok h ro) = .ok h ro := Eq.trans rfl rfl
theorem q_nil : evs G .nil ro = .ok [] ro := by rw [evs]
theorem q_cons (a as : CE) : evs G (.cons a as) ro = (ev G a ro).bind fun h ro => if okD h as = true then (evs G as ro).bind fun hs ro => .ok (h :: hs) ro else .stuck := by rw [evs]
theorem qB_nil : evB G .nil ro = .ok true ro := by rw [evB]
theorem qB_one (a : CE) : evB G (.cons a .nil) ro = (ev G a ro).bind fun h ro => osel (h.bool ro) (fun b => .ok b ro) .stuck := by
  rw [evB]; congr 1; funext h ro; cases h.bool ro <;> rfl
theorem qI_rng1 (z : Bool) (n : CE) : evI G z (.rng (.cons n .nil)) ro = (evs G (.cons n .nil) ro).bind fun hs ro => match looksD ro hs with
    | some [.int n] => if -(2 ^ 62) ≤ n ∧ n < 2 ^ 62 then .ok (rangeD 0 n) ro else .stuck
    | some [.int m, .int n] => if -(2 ^ 62) ≤ m ∧ m < 2 ^ 62 ∧ -(2 ^ 62) ≤ n ∧ n < 2 ^ 62 then .ok (rangeD m n) ro else .stuck
    | _ => .stuck := by rw [evI] <;> rfl
theorem qI_rng2 (z : Bool) (m n : CE) : evI G z (.rng (.cons m (.cons n .nil))) ro = (evs G (.cons m (.cons n .nil)) ro).bind fun hs ro => match looksD ro hs with
    | some [.int n] => if -(2 ^ 62) ≤ n ∧ n < 2 ^ 62 then .ok (rangeD 0 n) ro else .stuck
    | some [.int m, .int n] => if -(2 ^ 62) ≤ m ∧ m < 2 ^ 62 ∧ -(2 ^ 62) ≤ n ∧ n < 2 ^ 62 then .ok (rangeD m n) ro else .stuck
    | _ => .stuck := by rw [evI] <;> rfl
theorem qI_seqT (e : CE) : evI G true (.seq e) ro = (ev G e ro).bind fun h ro => (h.esc ro).bind fun x ro => osel (itemsD x) (fun xs => .ok xs ro) .stuck := by
  rw [evI]; simp only [if_true]; congr 1; funext h ro; congr 1; funext x ro; cases itemsD x <;> rfl
theorem qI_seqF (e : CE) : evI G false (.seq e) ro = (ev G e ro).bind fun h ro => osel (h.lookF ro) (fun x => osel (itemsD x) (fun xs => .ok xs ro) .stuck) .stuck := by
  rw [evI]; congr 1; funext h ro
  cases q : h.lookF ro with
  | none => rfl
  | some x => simp only [osel, Option.bind_some, Bool.false_eq_true, if_false]; cases itemsD x <;> rfl
theorem qI_enumT (as : CE) : evI G true (.enum as) ro = (evs G as ro).bind fun hs ro => (escs hs ro).bind fun xs ro => match xs with
    | [x] => osel (itemsD x) (fun xs => .ok (enumD xs) ro) .stuck
    | _ => .stuck := by
  rw [evI]; simp only [if_true]; congr 1; funext h ro; congr 1; funext xs ro
  rcases xs with _ | ⟨x, _ | ⟨y, t⟩⟩
  · rfl
  · cases h : itemsD x <;> simp [osel, h]
  · rfl
theorem qI_enumF (as : CE) : evI G false (.enum as) ro = (evs G as ro).bind fun hs ro => osel (looksF ro hs) (fun xs => match xs with
    | [x] => osel (itemsD x) (fun xs => .ok (enumD xs) ro) .stuck
    | _ => .stuck) .stuck := by
  rw [evI]; congr 1; funext h ro
  cases looksF ro h with
  | none => rfl
  | some xs =>
    simp only [osel, Out.ofOpt_some, Out.bind_ok, Bool.false_eq_true, if_false]
    rcases xs with _ | ⟨x, _ | ⟨y, t⟩⟩
    · rfl
    · cases h : itemsD x <;> simp [h]
    · rfl
def zsel (ro : Ro) (xs : List PyData) : Out (List PyData) := match xs with
  | [x, y] => osel (itemsD x) (fun xs => osel (itemsD y) (fun ys => .ok (zipD xs ys) ro) .stuck) .stuck
  | _ => .stuck
theorem qI_zipT (as : CE) : evI G true (.zip as) ro = (evs G as ro).bind fun hs ro => (escs hs ro).bind fun xs ro => zsel ro xs := by
  rw [evI]; simp only [if_true]; congr 1; funext h ro; congr 1; funext x ro
  unfold zsel
  rcases x with _ | ⟨x, _ | ⟨y, _ | ⟨z, t⟩⟩⟩ <;> try rfl
  cases h : itemsD x <;> cases h2 : itemsD y <;> simp [osel, h, h2]
theorem qI_zipF (as : CE) : evI G false (.zip as) ro = (evs G as ro).bind fun hs ro => osel (looksF ro hs) (fun xs => zsel ro xs) .stuck := by
  rw [evI]; congr 1; funext h ro
  cases looksF ro h with
  | none => rfl
  | some xs =>
    simp only [osel, Out.ofOpt_some, Out.bind_ok, Bool.false_eq_true, if_false]
    unfold zsel
    rcases xs with _ | ⟨x, _ | ⟨y, _ | ⟨z, t⟩⟩⟩ <;> try rfl
    cases h : itemsD x <;> cases h2 : itemsD y <;> simp [osel, h, h2]
/-! statements -/
def ssel (r : SOut) (f : Ro → SOut) : SOut := match r with
  | .nx ro => f ro
  | r => r
theorem ssel_nx (f : Ro → SOut) : ssel (.nx ro) f = f ro := Eq.trans rfl rfl
theorem ssel_ret (o : O) (f : Ro → SOut) : ssel (.ret o ro) f = .ret o ro := Eq.trans rfl rfl
theorem ssel_exc (o : Exn) (f : Ro → SOut) : ssel (.exc o ro) f = .exc o ro := Eq.trans rfl rfl
theorem ssel_brk (f : Ro → SOut) : ssel (.brk ro) f = .brk ro := Eq.trans rfl rfl
theorem ssel_ct (f : Ro → SOut) : ssel (.ct ro) f = .ct ro := Eq.trans rfl rfl
theorem s_nil' : ex G .nil ro = .nx ro := by rw [ex]
theorem s_seq' (a b : CS) : ex G (.seq a b) ro = ssel (ex G a ro) (fun ro => ex G b ro) := by
  rw [ex]; cases ex G a ro <;> rfl
theorem s_ret' (e : CE) : ex G (.ret e) ro = (ev G e ro).then fun h ro => (h.sto ro).then fun o ro => .ret o ro := by rw [ex]
theorem s_retN' : ex G .retN ro = .ret (.d .none) ro := by rw [ex]
theorem s_set' (i : Nat) (e : CE) : ex G (.set i e) ro = (ev G e ro).then fun h ro => (h.sto ro).then fun o ro => .nx (ro.set i (some o)) := by rw [ex]
theorem s_setc' (i : Nat) (e : CE) : ex G (.setc i e) ro = (ev G e ro).then fun h ro => (h.sto ro).then fun o ro => .nx (ro.set i (some o)) := by rw [ex]
theorem s_unp' (tg e : CE) : ex G (.unp tg e) ro = (ev G e ro).then fun h ro => (h.esc ro).then fun x ro => osel (asgT tg x ro) (fun ro => .nx ro) .stuck := by
  rw [ex]; congr 1; funext h ro; congr 1; funext x ro; cases asgT tg x ro <;> rfl
theorem s_par2' (i j : Nat) (es : CE) : ex G (.par2 i j es) ro = (evs G es ro).then fun hs ro => (stos hs ro).then fun os ro => match os with
    | [a, b] => .nx ((ro.set i (some a)).set j (some b))
    | _ => .stuck := by rw [ex] <;> rfl
theorem s_par3' (i j k : Nat) (es : CE) : ex G (.par3 i j k es) ro = (evs G es ro).then fun hs ro => (stos hs ro).then fun os ro => match os with
    | [a, b, c] => .nx (((ro.set i (some a)).set j (some b)).set k (some c))
    | _ => .stuck := by rw [ex] <;> rfl
def dsel {α : Type} (o : Option (Option O)) (f : PyData → α) (z : α) : α := match o with
  | some (some (.d x)) => f x
  | _ => z
theorem dsel_d {α : Type} (x : PyData) (f : PyData → α) (z : α) : dsel (some (some (.d x))) f z = f x := Eq.trans rfl rfl
theorem s_aug' (i : Nat) (op : Operator) (e : CE) : ex G (.aug i op e) ro = dsel (ro[i]?) (fun x => (ev G e ro).then fun h ro => osel (h.lookD ro) (fun y => osel (augO op x y) (fun z => .nx (ro.set i (some (.d z)))) .stuck) .stuck) .stuck := by
  rw [ex]
  generalize ro[i]? = q
  rcases q with _ | _ | x <;> try rfl
  cases x <;> try rfl
  simp only [dsel]
  congr 1; funext h ro
  cases h.lookD ro with
  | none => rfl
  | some y =>
    simp only [osel]
    cases h : augO op _ y <;> simp [h]
theorem s_exp' (e : CE) : ex G (.exp e) ro = (ev G e ro).then fun _ ro => .nx ro := by rw [ex]
theorem s_ife' (c : CE) (a b : CS) : ex G (.ife c a b) ro = (ev G c ro).then fun h ro => bsel (h.bool ro) (ex G a ro) (ex G b ro) .stuck := by
  rw [ex]
  unfold tst
  cases ev G c ro with
  | stuck => rfl
  | exc x ro => rfl
  | ok h ro =>
    simp only [Out.bind_ok, Out.then_ok]
    cases h.bool ro with
    | none => rfl
    | some b => cases b <;> simp [bsel]
theorem s_whl' (c : CE) (b : CS) : ex G (.whl c b) ro = wLoop (tst G c) (ex G b) G.wf ro := by rw [ex]
theorem s_for' (tg it : CE) (b : CS) : ex G (.for_ tg it b) ro = (evI G true it ro).then fun xs ro => fLoop tg (ex G b) xs ro := by rw [ex]
theorem s_rai' (x : Str) : ex G (.rai x) ro = .exc ⟨x⟩ ro := by rw [ex]
theorem s_pass' : ex G .pass ro = .nx ro := by rw [ex]
theorem s_doc' : ex G .doc ro = .nx ro := by rw [ex]
theorem s_brk' : ex G .brk ro = .brk ro := by rw [ex]
theorem s_cnt' : ex G .cnt ro = .ct ro := by rw [ex]
def xsel (G : GE) (r : SOut) (hs : CS) : SOut := match r with
  | .exc x ro => exH G hs x ro
  | r => r
theorem xsel_exc (hs : CS) (x : Exn) : xsel G (.exc x ro) hs = exH G hs x ro := Eq.trans rfl rfl
theorem xsel_nx (hs : CS) : xsel G (.nx ro) hs = .nx ro := Eq.trans rfl rfl
theorem xsel_ret (hs : CS) (o : O) : xsel G (.ret o ro) hs = .ret o ro := Eq.trans rfl rfl
theorem s_try' (b hs : CS) : ex G (.try_ b hs) ro = xsel G (ex G b ro) hs := by
  rw [ex]; cases ex G b ro <;> rfl
def nox (r : SOut) : SOut := match r with
  | .exc _ _ => .stuck
  | r => r
theorem nox_nx : nox (.nx ro) = .nx ro := Eq.trans rfl rfl
theorem nox_ret (o : O) : nox (.ret o ro) = .ret o ro := Eq.trans rfl rfl
theorem s_hd' (y : Str) (b rest : CS) (x : Exn) : exH G (.hd y b rest) x ro = bsel (G.exm x.cls y) (nox (ex G b ro)) (exH G rest x ro) .stuck := by
  rw [exH]
  cases G.exm x.cls y with
  | none => rfl
  | some b' =>
    cases b' with
    | false => rfl
    | true => simp only [bsel]; cases ex G b ro <;> rfl
theorem s_hnil' (x : Exn) : exH G .nil x ro = .exc x ro := by rw [exH]
theorem tst_eq (c : CE) : tst G c ro = (ev G c ro).bind fun h ro => osel (h.bool ro) (fun b => .ok b ro) .stuck := by
  unfold tst; congr 1; funext h ro; cases h.bool ro <;> rfl
theorem cBody_eq (own : List (Str × Nat)) (elt tg ifs : CE) (x : PyData) : cBody G own elt tg ifs x ro = osel (asgT tg x ro) (fun ro => (evB G ifs ro).bind fun b ro => if b = true then (ev G elt ro).bind fun h ro => (h.sto ro).bind fun o ro => .ok (some o) (wipeR own ro) else .ok none (wipeR own ro)) .stuck := by
  unfold cBody; cases asgT tg x ro <;> rfl
end
section
variable {α β : Type} {ro : Ro}
theorem bind_ok2 (a : α) (f : α → Ro → Out β) : (Out.ok a ro).bind f = f a ro := Eq.trans rfl rfl
theorem bind_exc2 (x : Exn) (f : α → Ro → Out β) : (Out.exc x ro).bind f = .exc x ro := Eq.trans rfl rfl
theorem bind_stuck2 (f : α → Ro → Out β) : (Out.stuck).bind f = .stuck := Eq.trans rfl rfl
theorem then_ok2 (a : α) (f : α → Ro → SOut) : (Out.ok a ro).then f = f a ro := Eq.trans rfl rfl
theorem then_exc2 (x : Exn) (f : α → Ro → SOut) : (Out.exc x ro).then f = .exc x ro := Eq.trans rfl rfl
theorem then_stuck2 (f : α → Ro → SOut) : (Out.stuck).then f = .stuck := Eq.trans rfl rfl
theorem ofOpt_some2 (a : α) : Out.ofOpt (some a) ro = .ok a ro := Eq.trans rfl rfl
theorem ofOpt_none2 : Out.ofOpt (none : Option α) ro = .stuck := Eq.trans rfl rfl
end
/-! ### both ways one -/
theorem ite_okh {α : Type} (c : Prop) [Decidable c] (a b : α) (ro : Ro) : (if c then Out.ok a ro else Out.ok b ro) = Out.ok (if c then a else b) ro := by split <;> rfl
theorem ite_tm (c : Prop) [Decidable c] (a b : O) : (if c then Hd.tm a else Hd.tm b) = Hd.tm (if c then a else b) := by split <;> rfl
theorem ite_od (c : Prop) [Decidable c] (a b : PyData) : (if c then O.d a else O.d b) = O.d (if c then a else b) := by split <;> rfl
theorem ite_bool (c : Prop) [Decidable c] (a b : Bool) : (if c then PyData.bool a else PyData.bool b) = PyData.bool (if c then a else b) := by split <;> rfl
theorem ite_int (c : Prop) [Decidable c] (a b : Int) : (if c then PyData.int a else PyData.int b) = PyData.int (if c then a else b) := by split <;> rfl
/-! ### data -/
def isTb (T : Tn) (x : PyData) : Bool := match T, x with
  | .int, .int _ => true
  | .int, .bool _ => true
  | .bool, .bool _ => true
  | .str, .str _ => true
  | .tuple, .tuple _ => true
  | .list, .list _ => true
  | _, _ => false
theorem isiD_eq (T : Tn) (x : PyData) : isiD T x = some (isTb T x) := by cases T <;> cases x <;> rfl
def whole (x : PyData) (a b : Int) : Bool := match x with
  | .int n => decide (a ≤ n) && decide (n ≤ b)
  | _ => false
theorem flat_lst (os : List O) : (O.lst os).flat = (O.flats os).map .list := by rw [O.flat]
theorem whole_int (n a b : Int) : whole (.int n) a b = (decide (a ≤ n) && decide (n ≤ b)) := Eq.trans rfl rfl
theorem ite_else_false (c d : Bool) : (if c = true then d else false) = (c && d) := by cases c <;> rfl
theorem ite_then_true (c d : Bool) : (if c = true then true else d) = (c || d) := by cases c <;> rfl
theorem ite_not_false (c d : Bool) : (if (!c) = true then d else false) = (!c && d) := by cases c <;> rfl
/-! equality of data, as the model has it -/
theorem eqvAll_len : ∀ {xs ys : List PyData}, PyData.eqvAll xs ys = true → xs.length = ys.length
  | [], [], _ => rfl
  | [], _ :: _, h => by rw [PyData.eqvAll] at h; cases h
  | _ :: _, [], h => by rw [PyData.eqvAll] at h; cases h
  | x :: xs, y :: ys, h => by
    rw [PyData.eqvAll, Bool.and_eq_true] at h
    rw [List.length_cons, List.length_cons, eqvAll_len h.2]
/-- data of a Lean type: told apart as Python tells them apart -/
class Enc (α : Type) where
  enc : α → PyData
  eqv : ∀ a b, PyData.eqv (enc a) (enc b) = true ↔ a = b
  lay : ∀ a, PyData.canLay0 (enc a) = true
  dep : Nat
  dep_le : ∀ a, (enc a).depth ≤ dep
section
variable {α β : Type} [Enc α] [Enc β]
open Enc (enc)
theorem eqvAll_enc : ∀ xs ys : List α, PyData.eqvAll (xs.map enc) (ys.map enc) = true ↔ xs = ys
  | [], [] => by simp [PyData.eqvAll]
  | [], _ :: _ => by simp [PyData.eqvAll]
  | _ :: _, [] => by simp [PyData.eqvAll]
  | x :: xs, y :: ys => by
    rw [List.map_cons, List.map_cons, PyData.eqvAll, Bool.and_eq_true, Enc.eqv, eqvAll_enc xs ys, List.cons.injEq]
theorem layAll_enc : ∀ xs : List α, PyData.canLayAll0 (xs.map enc) = true
  | [] => by rw [List.map_nil, PyData.canLayAll0]
  | x :: xs => by rw [List.map_cons, PyData.canLayAll0, Enc.lay, layAll_enc xs]; rfl
theorem depAll_enc : ∀ xs : List α, PyData.depthAll (xs.map enc) ≤ Enc.dep α
  | [] => by rw [List.map_nil, PyData.depthAll]; exact Nat.zero_le _
  | x :: xs => by
    rw [List.map_cons, PyData.depthAll]
    exact Nat.max_le.mpr ⟨Enc.dep_le x, depAll_enc xs⟩
instance : Enc Int where
  enc := .int
  eqv a b := by simp [PyData.eqv]
  lay _ := by rw [PyData.canLay0]
  dep := 0
  dep_le _ := by rw [PyData.depth]; exact Nat.le_refl _
instance : Enc Bool where
  enc := .bool
  eqv a b := by simp [PyData.eqv]
  lay _ := by rw [PyData.canLay0]
  dep := 0
  dep_le _ := by rw [PyData.depth]; exact Nat.le_refl _
/-- a tuple of any length -/
structure Tu (α : Type) where
  l : List α
  deriving DecidableEq
theorem Tu.ext' {a b : Tu α} (h : a.l = b.l) : a = b := by cases a; cases b; cases h; rfl
instance : Enc (Tu α) where
  enc t := .tuple (t.l.map enc)
  eqv a b := by
    rw [PyData.eqv, eqvAll_enc]
    exact ⟨Tu.ext', fun h => by rw [h]⟩
  lay a := by rw [PyData.canLay0]; exact layAll_enc _
  dep := Enc.dep α + 1
  dep_le a := by rw [PyData.depth]; have := depAll_enc a.l; omega
instance : Enc (List α) where
  enc t := .list (t.map enc)
  eqv a b := by rw [PyData.eqv, eqvAll_enc]
  lay a := by rw [PyData.canLay0]; exact layAll_enc _
  dep := Enc.dep α + 1
  dep_le a := by rw [PyData.depth]; have := depAll_enc a; omega
instance : Enc (α × β) where
  enc p := .tuple [enc p.1, enc p.2]
  eqv a b := by
    simp only [PyData.eqv, PyData.eqvAll, Bool.and_true, Bool.and_eq_true, Enc.eqv]
    exact ⟨fun h => Prod.ext h.1 h.2, fun h => by rw [h]; exact ⟨rfl, rfl⟩⟩
  lay a := by simp only [PyData.canLay0, PyData.canLayAll0, Enc.lay, Bool.and_self]
  dep := max (Enc.dep α) (Enc.dep β) + 1
  dep_le a := by
    have h1 := Enc.dep_le a.1
    have h2 := Enc.dep_le a.2
    simp only [PyData.depth, PyData.depthAll]
    omega
theorem shaped_enc (a : α) (h : Enc.dep α ≤ 64) : SeqAt.shaped (enc a) = true := by
  unfold SeqAt.shaped
  have := Enc.dep_le a
  rw [Enc.lay]
  simp
  omega
theorem eqD_shaped {x y : PyData} (h1 : SeqAt.shaped x = true) (h2 : SeqAt.shaped y = true) : eqD x y = some (PyData.eqv x y) := by
  unfold eqD
  split
  · simp only [PyData.eqv]; congr 1
  · simp only [PyData.eqv]; congr 1
  · rw [h1, h2]; rfl
theorem eqD_enc [DecidableEq α] (a b : α) (h : Enc.dep α ≤ 64) : eqD (enc a) (enc b) = some (decide (a = b)) := by
  rw [eqD_shaped (shaped_enc a h) (shaped_enc b h)]
  congr 1
  rw [Bool.eq_iff_iff, Enc.eqv, decide_eq_true_eq]
end
theorem look_tm (ro : Ro) (o : O) : (Hd.tm o).look ro = some o := rfl
theorem look_sl (ro : Ro) (i : Nat) (o : O) (h : ro[i]? = some (some o)) : (Hd.sl i []).look ro = some o := by
  show (match ro[i]? with | some (some o) => O.walk [] o | _ => none) = _
  rw [h]; rfl
theorem toD_d (x : PyData) : (O.d x).toD = some x := by rw [O.toD]
theorem flat_d (x : PyData) : (O.d x).flat = some x := by rw [O.flat]
end Lw

set_option maxRecDepth 100000
/-! Pl3: small facts of data. -/
namespace Lw
open PySem L2
theorem eqD_int (i j : Int) : eqD (.int i) (.int j) = some (decide (i = j)) := Eq.trans rfl rfl
theorem eqD_str (i j : Str) : eqD (.str i) (.str j) = some (decide (i = j)) := Eq.trans rfl rfl
theorem boolsD_map {α : Type} (f : α → Bool) : ∀ xs : List α, boolsD (xs.map fun a => .bool (f a)) = some (xs.map f)
  | [] => rfl
  | x :: xs => by rw [List.map_cons, boolsD, boolsD_map f xs]; rfl
theorem intsD_map {α : Type} (f : α → Int) : ∀ xs : List α, intsD (xs.map fun a => .int (f a)) = some (xs.map f)
  | [] => rfl
  | x :: xs => by rw [List.map_cons, intsD, intsD_map f xs]; rfl
theorem intsD_int : ∀ xs : List Int, intsD (xs.map .int) = some xs
  | [] => rfl
  | x :: xs => by rw [List.map_cons, intsD, intsD_int xs]
theorem lenOk_of {n : Nat} (h : n ≤ 16777216) : lenOk n = true := by unfold lenOk; simpa using h
theorem all_id {α : Type} (f : α → Bool) (xs : List α) : (xs.map f).all id = xs.all f := by rw [List.all_map]; rfl
theorem any_id {α : Type} (f : α → Bool) (xs : List α) : (xs.map f).any id = xs.any f := by rw [List.any_map]; rfl
theorem rangeD_eq (lo hi : Int) : rangeD lo hi = (List.range (hi - lo).toNat).map fun (k : Nat) => PyData.int (lo + (k : Int)) := rfl
/-- gcd by steps -/
theorem gcd_step {a b : Int} (ha : 0 ≤ a) (hb : 0 < b) : Int.gcd b (a % b) = Int.gcd a b := by
  obtain ⟨m, rfl⟩ := Int.eq_ofNat_of_zero_le ha
  obtain ⟨n, rfl⟩ := Int.eq_ofNat_of_zero_le (Int.le_of_lt hb)
  have e : ((m : Int) % (n : Int)) = ((m % n : Nat) : Int) := (Int.natCast_emod m n).symm
  rw [e]
  show Nat.gcd n (m % n) = Nat.gcd m n
  rw [Nat.gcd_comm, ← Nat.gcd_rec, Nat.gcd_comm]
theorem ix_nat {n : Nat} {i : Int} (h0 : 0 ≤ i) (h1 : i < n) : ixD n i = some i.toNat := by
  unfold ixD; rw [if_pos h0, if_pos h1]
end Lw
namespace Lw
theorem wf_of {n : Nat} (h : n < 10 ^ 300) : n < 2 ^ 4096 := Nat.lt_trans h (by decide +kernel)
theorem wf_int {b : Int} (h : b < 10 ^ 300) : b.toNat < 2 ^ 4096 := by
  refine wf_of ?_
  have e : ((10 ^ 300 : Nat) : Int) = 10 ^ 300 := by rw [Int.natCast_pow]; rfl
  have : (b.toNat : Int) < ((10 ^ 300 : Nat) : Int) := by
    rw [e]
    have : (0 : Int) < 10 ^ 300 := by decide +kernel
    generalize (10 ^ 300 : Int) = X at *
    omega
  exact Int.ofNat_lt.mp this
end Lw
namespace Lw
open PySem L2
theorem zipD_map {α β : Type} (f : α → PyData) (g : β → PyData) : ∀ (xs : List α) (ys : List β), zipD (xs.map f) (ys.map g) = (xs.zip ys).map fun p => .tuple [f p.1, g p.2]
  | [], _ => by simp [zipD]
  | _ :: _, [] => by simp [zipD]
  | x :: xs, y :: ys => by
    have ih := zipD_map f g xs ys
    unfold zipD at ih ⊢
    simp only [List.map_cons, List.zipWith_cons_cons, List.zip_cons_cons, ih]
theorem mulOk_of {a b : Int} (ha : a.natAbs < 2 ^ 1000) (hb : b.natAbs < 2 ^ 1000) : mulOk a b = true := by
  have f : ∀ g : Nat, g < 2 ^ 1000 → g.log2 < 1000 := fun g h => by
    by_cases h0 : g = 0
    · subst h0; decide
    · exact (Nat.log2_lt h0).mpr h
  unfold mulOk
  have := f _ ha
  have := f _ hb
  simp; omega
theorem mulOk_big {a b : Int} (ha : 0 ≤ a) (ha' : a < 10 ^ 250) (hb : 0 ≤ b) (hb' : b < 10 ^ 250) : mulOk a b = true := by
  have k : ∀ x : Int, 0 ≤ x → x < 10 ^ 250 → x.natAbs < 2 ^ 1000 := fun x h0 h1 => by
    have : (x.natAbs : Int) < ((2 ^ 1000 : Nat) : Int) := by
      rw [Int.natAbs_of_nonneg h0]
      exact Int.lt_trans h1 (by decide +kernel)
    exact Int.ofNat_lt.mp this
  exact mulOk_of (k a ha ha') (k b hb hb')
end Lw
namespace Lw
theorem snocInd {α : Type} {P : List α → Prop} (h0 : P []) (h1 : ∀ l a, P l → P (l ++ [a])) (l : List α) : P l := by
  have : ∀ l : List α, P l.reverse := fun l => by
    induction l with
    | nil => exact h0
    | cons a l ih => rw [List.reverse_cons]; exact h1 _ _ ih
  have k := this l.reverse
  rwa [List.reverse_reverse] at k
end Lw

set_option maxRecDepth 100000
/-! Pl4: the evaluator's small functions, by the form of their arguments. -/
namespace Lw
open PySem L2
theorem look_tm2 (ro : Ro) (o : O) : (Hd.tm o).look ro = some o := Eq.trans rfl rfl
theorem look_sl2 (ro : Ro) (i : Nat) : (Hd.sl i []).look ro = ro[i]?.join := by
  show (match ro[i]? with | some (some o) => O.walk [] o | _ => none) = _
  rcases ro[i]? with _ | _ | o <;> rfl
theorem join_some2 {α : Type} (x : Option α) : (some x).join = x := Eq.trans rfl rfl
theorem lookD_eq (ro : Ro) (h : Hd) : h.lookD ro = (h.look ro).bind O.toD := Eq.trans rfl rfl
theorem lookF_eq (ro : Ro) (h : Hd) : h.lookF ro = (h.look ro).bind O.flat := Eq.trans rfl rfl
theorem opd_tm (ro : Ro) (o : O) : (Hd.tm o).opd ro = o.toD := Eq.trans rfl rfl
theorem opd_sl (ro : Ro) (i : Nat) (p : List Sel) : (Hd.sl i p).opd ro = (Hd.sl i p).lookF ro := Eq.trans rfl rfl
def boolOf : PyData → Option Bool
  | .bool b => some b
  | _ => none
theorem boolOf_bool (b : Bool) : boolOf (.bool b) = some b := Eq.trans rfl rfl
theorem bool_eq (ro : Ro) (h : Hd) : h.bool ro = (h.lookD ro).bind boolOf := by
  unfold Hd.bool
  cases h.lookD ro with
  | none => rfl
  | some x => cases x <;> rfl
theorem sto_tm (ro : Ro) (o : O) : (Hd.tm o).sto ro = .ok o ro := Eq.trans rfl rfl
theorem sto_sl (ro : Ro) (i : Nat) (p : List Sel) : (Hd.sl i p).sto ro = ((Hd.sl i p).esc ro).bind fun x ro => .ok (.d x) ro := Eq.trans rfl rfl
theorem esc_tm (ro : Ro) (o : O) : (Hd.tm o).esc ro = .ofOpt o.toD ro := Eq.trans rfl rfl
def esel (q : Option (Option O)) (i : Nat) (ro : Ro) : Out PyData := match q with
  | some (some (.d x)) => .ok x ro
  | some (some o) => match o.toD with
    | some x => .ok x (ro.set i (some (.d x)))
    | none => .stuck
  | _ => .stuck
theorem esc_sl (ro : Ro) (i : Nat) : (Hd.sl i []).esc ro = esel ro[i]? i ro := by
  show (match ro[i]? with | some (some (.d x)) => Out.ok x ro | some (some o) => (match o.toD with | some x => Out.ok x (ro.set i (some (.d x))) | none => .stuck) | _ => .stuck) = _
  rfl
theorem esel_d (i : Nat) (ro : Ro) (x : PyData) : esel (some (some (.d x))) i ro = .ok x ro := Eq.trans rfl rfl
theorem esel_ol (i : Nat) (ro : Ro) (xs : List PyData) : esel (some (some (ol xs))) i ro = .ok (.list xs) (ro.set i (some (.d (.list xs)))) := by
  show (match (ol xs).toD with | some x => Out.ok x (ro.set i (some (.d x))) | none => .stuck) = _
  rw [ol_toD]
def asel (q : Option O) (h : Hd) (ro : Ro) : Out O := match q with
  | some (.scr ns) => .ok (.scr ns) ro
  | _ => (h.esc ro).bind fun x ro => .ok (.d x) ro
theorem arg_eq (h : Hd) (ro : Ro) : h.arg ro = asel (h.look ro) h ro := Eq.trans rfl rfl
theorem asel_scr (h : Hd) (ro : Ro) (ns : List Int) : asel (some (.scr ns)) h ro = .ok (.scr ns) ro := Eq.trans rfl rfl
theorem asel_d (h : Hd) (ro : Ro) (x : PyData) : asel (some (.d x)) h ro = (h.esc ro).bind fun x ro => .ok (.d x) ro := Eq.trans rfl rfl
theorem asel_ol (h : Hd) (ro : Ro) (x : List PyData) : asel (some (ol x)) h ro = (h.esc ro).bind fun x ro => .ok (.d x) ro := Eq.trans rfl rfl
theorem asel_lst (h : Hd) (ro : Ro) (x : List O) : asel (some (.lst x)) h ro = (h.esc ro).bind fun x ro => .ok (.d x) ro := Eq.trans rfl rfl
theorem argsO_nil (ro : Ro) : argsO [] ro = .ok [] ro := Eq.trans rfl rfl
theorem argsO_cons (h : Hd) (hs : List Hd) (ro : Ro) : argsO (h :: hs) ro = (h.arg ro).bind fun x ro => (argsO hs ro).bind fun xs ro => .ok (x :: xs) ro := Eq.trans rfl rfl
theorem escs_nil (ro : Ro) : escs [] ro = .ok [] ro := Eq.trans rfl rfl
theorem escs_cons (h : Hd) (hs : List Hd) (ro : Ro) : escs (h :: hs) ro = (h.esc ro).bind fun x ro => (escs hs ro).bind fun xs ro => .ok (x :: xs) ro := Eq.trans rfl rfl
theorem stos_nil (ro : Ro) : stos [] ro = .ok [] ro := Eq.trans rfl rfl
theorem stos_cons (h : Hd) (hs : List Hd) (ro : Ro) : stos (h :: hs) ro = (h.sto ro).bind fun x ro => (stos hs ro).bind fun xs ro => .ok (x :: xs) ro := Eq.trans rfl rfl
theorem looksD_nil (ro : Ro) : looksD ro [] = some [] := Eq.trans rfl rfl
theorem looksD_cons (ro : Ro) (h : Hd) (hs : List Hd) : looksD ro (h :: hs) = (h.lookD ro).bind fun x => (looksD ro hs).map (x :: ·) := by
  rw [looksD]
  cases h.lookD ro with
  | none => rfl
  | some x => cases looksD ro hs <;> rfl
theorem looksF_nil (ro : Ro) : looksF ro [] = some [] := Eq.trans rfl rfl
theorem looksF_cons (ro : Ro) (h : Hd) (hs : List Hd) : looksF ro (h :: hs) = (h.lookF ro).bind fun x => (looksF ro hs).map (x :: ·) := by
  rw [looksF]
  cases h.lookF ro with
  | none => rfl
  | some x => cases looksF ro hs <;> rfl
theorem partD_nil (ro : Ro) : partD ro [] = some none := Eq.trans rfl rfl
def intOf : PyData → Option Int
  | .int b => some b
  | _ => none
theorem intOf_int (b : Int) : intOf (.int b) = some b := Eq.trans rfl rfl
theorem partD_one (ro : Ro) (h : Hd) : partD ro [h] = (h.lookD ro).bind fun x => (intOf x).map some := by
  unfold partD
  rw [looksD, looksD]
  cases h.lookD ro with
  | none => rfl
  | some x => cases x <;> rfl
theorem okD_eq (h : Hd) (b : CE) : okD h b = (!h.deep || qt b) := Eq.trans rfl rfl
theorem deep_tm (o : O) : (Hd.tm o).deep = false := Eq.trans rfl rfl
theorem deep_sl (i : Nat) : (Hd.sl i []).deep = false := Eq.trans rfl rfl
theorem isB_int_none  : isTb .int (.none) = false := Eq.trans rfl rfl
theorem isB_int_bool (b : Bool) : isTb .int (.bool b) = true := Eq.trans rfl rfl
theorem isB_int_int (b : Int) : isTb .int (.int b) = true := Eq.trans rfl rfl
theorem isB_int_str (b : Str) : isTb .int (.str b) = false := Eq.trans rfl rfl
theorem isB_int_list (b : List PyData) : isTb .int (.list b) = false := Eq.trans rfl rfl
theorem isB_int_tuple (b : List PyData) : isTb .int (.tuple b) = false := Eq.trans rfl rfl
theorem isB_bool_none  : isTb .bool (.none) = false := Eq.trans rfl rfl
theorem isB_bool_bool (b : Bool) : isTb .bool (.bool b) = true := Eq.trans rfl rfl
theorem isB_bool_int (b : Int) : isTb .bool (.int b) = false := Eq.trans rfl rfl
theorem isB_bool_str (b : Str) : isTb .bool (.str b) = false := Eq.trans rfl rfl
theorem isB_bool_list (b : List PyData) : isTb .bool (.list b) = false := Eq.trans rfl rfl
theorem isB_bool_tuple (b : List PyData) : isTb .bool (.tuple b) = false := Eq.trans rfl rfl
theorem isB_str_none  : isTb .str (.none) = false := Eq.trans rfl rfl
theorem isB_str_bool (b : Bool) : isTb .str (.bool b) = false := Eq.trans rfl rfl
theorem isB_str_int (b : Int) : isTb .str (.int b) = false := Eq.trans rfl rfl
theorem isB_str_str (b : Str) : isTb .str (.str b) = true := Eq.trans rfl rfl
theorem isB_str_list (b : List PyData) : isTb .str (.list b) = false := Eq.trans rfl rfl
theorem isB_str_tuple (b : List PyData) : isTb .str (.tuple b) = false := Eq.trans rfl rfl
theorem isB_tuple_none  : isTb .tuple (.none) = false := Eq.trans rfl rfl
theorem isB_tuple_bool (b : Bool) : isTb .tuple (.bool b) = false := Eq.trans rfl rfl
theorem isB_tuple_int (b : Int) : isTb .tuple (.int b) = false := Eq.trans rfl rfl
theorem isB_tuple_str (b : Str) : isTb .tuple (.str b) = false := Eq.trans rfl rfl
theorem isB_tuple_list (b : List PyData) : isTb .tuple (.list b) = false := Eq.trans rfl rfl
theorem isB_tuple_tuple (b : List PyData) : isTb .tuple (.tuple b) = true := Eq.trans rfl rfl
theorem isB_list_none  : isTb .list (.none) = false := Eq.trans rfl rfl
theorem isB_list_bool (b : Bool) : isTb .list (.bool b) = false := Eq.trans rfl rfl
theorem isB_list_int (b : Int) : isTb .list (.int b) = false := Eq.trans rfl rfl
theorem isB_list_str (b : Str) : isTb .list (.str b) = false := Eq.trans rfl rfl
theorem isB_list_list (b : List PyData) : isTb .list (.list b) = true := Eq.trans rfl rfl
theorem isB_list_tuple (b : List PyData) : isTb .list (.tuple b) = false := Eq.trans rfl rfl
theorem whole_none  (lo hi : Int) : whole (.none) lo hi = false := Eq.trans rfl rfl
theorem whole_bool (b : Bool) (lo hi : Int) : whole (.bool b) lo hi = false := Eq.trans rfl rfl
theorem whole_str (b : Str) (lo hi : Int) : whole (.str b) lo hi = false := Eq.trans rfl rfl
theorem whole_list (b : List PyData) (lo hi : Int) : whole (.list b) lo hi = false := Eq.trans rfl rfl
theorem whole_tuple (b : List PyData) (lo hi : Int) : whole (.tuple b) lo hi = false := Eq.trans rfl rfl
theorem primO_len (xs : List PyData) : primO .len xs = lenO xs := Eq.trans rfl rfl
theorem primO_int (xs : List PyData) : primO .int xs = intO xs := Eq.trans rfl rfl
theorem primO_abs (xs : List PyData) : primO .abs xs = absO xs := Eq.trans rfl rfl
theorem primO_max (xs : List PyData) : primO .max xs = maxO xs := Eq.trans rfl rfl
theorem primO_min (xs : List PyData) : primO .min xs = minO xs := Eq.trans rfl rfl
theorem primO_sum (xs : List PyData) : primO .sum xs = sumO xs := Eq.trans rfl rfl
theorem primO_all (xs : List PyData) : primO .all xs = allO xs := Eq.trans rfl rfl
theorem primO_any (xs : List PyData) : primO .any xs = anyO xs := Eq.trans rfl rfl
theorem primO_tuple (xs : List PyData) : primO .tuple xs = tupleO xs := Eq.trans rfl rfl
theorem primO_list (xs : List PyData) : primO .list xs = listO xs := Eq.trans rfl rfl
theorem primO_sorted (xs : List PyData) : primO .sorted xs = sortedO xs := Eq.trans rfl rfl
theorem lenO_l (xs : List PyData) : lenO [.list xs] = some (.d (.int xs.length)) := Eq.trans rfl rfl
theorem lenO_t (xs : List PyData) : lenO [.tuple xs] = some (.d (.int xs.length)) := Eq.trans rfl rfl
theorem intO_i (i : Int) : intO [.int i] = some (.d (.int i)) := Eq.trans rfl rfl
theorem absO_i (i : Int) : absO [.int i] = some (.d (.int (if i < 0 then -i else i))) := Eq.trans rfl rfl
theorem maxO_2 (i j : Int) : maxO [.int i, .int j] = some (.d (.int (if j > i then j else i))) := Eq.trans rfl rfl
theorem minO_2 (i j : Int) : minO [.int i, .int j] = some (.d (.int (if j < i then j else i))) := Eq.trans rfl rfl
theorem sumO_l (xs : List PyData) : sumO [.list xs] = (intsD xs).map fun is => .d (.int is.sum) := Eq.trans rfl rfl
theorem sumO_t (xs : List PyData) : sumO [.tuple xs] = (intsD xs).map fun is => .d (.int is.sum) := Eq.trans rfl rfl
theorem allO_l (xs : List PyData) : allO [.list xs] = (boolsD xs).map fun bs => .d (.bool (bs.all id)) := Eq.trans rfl rfl
theorem anyO_l (xs : List PyData) : anyO [.list xs] = (boolsD xs).map fun bs => .d (.bool (bs.any id)) := Eq.trans rfl rfl
theorem tupleO_l (xs : List PyData) : tupleO [.list xs] = some (.d (.tuple xs)) := Eq.trans rfl rfl
theorem tupleO_t (xs : List PyData) : tupleO [.tuple xs] = some (.d (.tuple xs)) := Eq.trans rfl rfl
theorem listO_l (xs : List PyData) : listO [.list xs] = some (ol xs) := Eq.trans rfl rfl
theorem listO_t (xs : List PyData) : listO [.tuple xs] = some (ol xs) := Eq.trans rfl rfl
theorem sortedO_l (xs : List PyData) : sortedO [.list xs] = (sortD xs).map fun ys => ol ys := Eq.trans rfl rfl
theorem bin_add (i j : Int) : binO .Add (.int i) (.int j) = some (.d (.int (i + j))) := Eq.trans rfl rfl
theorem bin_sub (i j : Int) : binO .Sub (.int i) (.int j) = some (.d (.int (i - j))) := Eq.trans rfl rfl
theorem bin_mul (i j : Int) : binO .Mult (.int i) (.int j) = if mulOk i j = true then some (.d (.int (i * j))) else none := rfl
theorem bin_fdiv (i j : Int) : binO .FloorDiv (.int i) (.int j) = if 0 < j ∧ j.natAbs.log2 < 9000 then some (.d (.int (i / j))) else none := rfl
theorem bin_mod (i j : Int) : binO .Mod (.int i) (.int j) = if 0 < j then some (.d (.int (i % j))) else none := rfl
theorem bin_addT (xs ys : List PyData) : binO .Add (.tuple xs) (.tuple ys) = if lenOk (xs.length + ys.length) = true then some (.d (.tuple (xs ++ ys))) else none := rfl
theorem bin_addL (xs ys : List PyData) : binO .Add (.list xs) (.list ys) = if lenOk (xs.length + ys.length) = true then some (ol (xs ++ ys)) else none := rfl
theorem bin_mulL (xs : List PyData) (n : Int) : binO .Mult (.list xs) (.int n) = if -(2 ^ 62) ≤ n ∧ n < 2 ^ 62 ∧ lenOk (xs.length * n.toNat) = true then some (ol (List.replicate n.toNat xs).flatten) else none := rfl
theorem bin_mulT (xs : List PyData) (n : Int) : binO .Mult (.tuple xs) (.int n) = if 2 ≤ n ∧ n ≤ 1000 ∧ xs.length ≤ 1000 ∧ xs ≠ [] then some (.d (.tuple (List.replicate n.toNat xs).flatten)) else none := rfl
theorem cmp_Eq (a b : PyData) : cmpD .Eq a b = eqD a b := Eq.trans rfl rfl
theorem cmp_NotEq (a b : PyData) : cmpD .NotEq a b = (eqD a b).map (!·) := Eq.trans rfl rfl
theorem cmp_Lt (a b : PyData) : cmpD .Lt a b = ltD a b := Eq.trans rfl rfl
theorem cmp_LtE (a b : PyData) : cmpD .LtE a b = leD a b := Eq.trans rfl rfl
theorem cmp_Gt (a b : PyData) : cmpD .Gt a b = gtD a b := Eq.trans rfl rfl
theorem cmp_GtE (a b : PyData) : cmpD .GtE a b = geD a b := Eq.trans rfl rfl
theorem cmp_In (a b : PyData) : cmpD .In a b = inD a b := Eq.trans rfl rfl
theorem cmp_NotIn (a b : PyData) : cmpD .NotIn a b = (inD a b).map (!·) := Eq.trans rfl rfl
theorem cmp_Is (a : PyData) : cmpD .Is a .none = some (!notNone a) := Eq.trans rfl rfl
theorem cmp_IsNot (a : PyData) : cmpD .IsNot a .none = some (notNone a) := Eq.trans rfl rfl
theorem notNone_none  : notNone (.none) = false := Eq.trans rfl rfl
theorem notNone_bool (b : Bool) : notNone (.bool b) = true := Eq.trans rfl rfl
theorem notNone_int (b : Int) : notNone (.int b) = true := Eq.trans rfl rfl
theorem notNone_str (b : Str) : notNone (.str b) = true := Eq.trans rfl rfl
theorem notNone_list (b : List PyData) : notNone (.list b) = true := Eq.trans rfl rfl
theorem notNone_tuple (b : List PyData) : notNone (.tuple b) = true := Eq.trans rfl rfl
theorem ltD_int (i j : Int) : ltD (.int i) (.int j) = some (decide (i < j)) := Eq.trans rfl rfl
theorem leD_int (i j : Int) : leD (.int i) (.int j) = some (decide (i ≤ j)) := Eq.trans rfl rfl
theorem gtD_int (i j : Int) : gtD (.int i) (.int j) = some (decide (j < i)) := Eq.trans rfl rfl
theorem geD_int (i j : Int) : geD (.int i) (.int j) = some (decide (j ≤ i)) := Eq.trans rfl rfl
theorem idx_t (xs : List PyData) (i : Int) : idxD (.tuple xs) (.int i) = (ixD xs.length i).bind fun k => xs[k]? := Eq.trans rfl rfl
theorem idx_l (xs : List PyData) (i : Int) : idxD (.list xs) (.int i) = (ixD xs.length i).bind fun k => xs[k]? := Eq.trans rfl rfl
theorem items_l (xs : List PyData) : itemsD (.list xs) = some xs := Eq.trans rfl rfl
theorem items_t (xs : List PyData) : itemsD (.tuple xs) = some xs := Eq.trans rfl rfl
theorem slice_t (xs : List PyData) (lo hi : Option Int) : sliceO (.d (.tuple xs)) lo hi = some (.d (.tuple (sliceD xs lo hi))) := Eq.trans rfl rfl
theorem slice_dl (xs : List PyData) (lo hi : Option Int) : sliceO (.d (.list xs)) lo hi = some (ol (sliceD xs lo hi)) := Eq.trans rfl rfl
theorem slice_scr (ns : List Int) (lo hi : Option Int) : sliceO (.scr ns) lo hi = some (ol (sliceD (ns.map .int) lo hi)) := Eq.trans rfl rfl
theorem zsel_l (ro : Ro) (xs ys : List PyData) : zsel ro [.list xs, .list ys] = .ok (zipD xs ys) ro := Eq.trans rfl rfl
theorem zsel_t (ro : Ro) (xs ys : List PyData) : zsel ro [.tuple xs, .tuple ys] = .ok (zipD xs ys) ro := Eq.trans rfl rfl
theorem zsel_lt (ro : Ro) (xs ys : List PyData) : zsel ro [.list xs, .tuple ys] = .ok (zipD xs ys) ro := Eq.trans rfl rfl
theorem zsel_tl (ro : Ro) (xs ys : List PyData) : zsel ro [.tuple xs, .list ys] = .ok (zipD xs ys) ro := Eq.trans rfl rfl
theorem outF_ret (o : O) (ro : Ro) : outF [] 0 (.ret o ro) = .ok o [] := Eq.trans rfl rfl
theorem outF_nx (ro : Ro) : outF [] 0 (.nx ro) = .ok (.d .none) [] := Eq.trans rfl rfl
theorem outF_exc (x : Exn) (ro : Ro) : outF [] 0 (.exc x ro) = .exc x [] := Eq.trans rfl rfl
theorem outM_ret1 (o : O) (a : Option O) (ro : Ro) : outF [0] 1 (.ret o (a :: ro)) = .ok o [a] := Eq.trans rfl rfl
theorem outM_ret2 (o : O) (a b : Option O) (ro : Ro) : outF [0] 2 (.ret o (a :: b :: ro)) = .ok o [a, none] := Eq.trans rfl rfl
theorem outM_ret3 (o : O) (a b c : Option O) (ro : Ro) : outF [0] 3 (.ret o (a :: b :: c :: ro)) = .ok o [a, none, none] := Eq.trans rfl rfl
theorem outM_ret4 (o : O) (a b c d : Option O) (ro : Ro) : outF [0] 4 (.ret o (a :: b :: c :: d :: ro)) = .ok o [a, none, none, none] := Eq.trans rfl rfl
theorem outM_nx1 (a : Option O) (ro : Ro) : outF [0] 1 (.nx (a :: ro)) = .ok (.d .none) [a] := Eq.trans rfl rfl
theorem outM_nx2 (a b : Option O) (ro : Ro) : outF [0] 2 (.nx (a :: b :: ro)) = .ok (.d .none) [a, none] := Eq.trans rfl rfl
theorem outM_nx3 (a b c : Option O) (ro : Ro) : outF [0] 3 (.nx (a :: b :: c :: ro)) = .ok (.d .none) [a, none, none] := Eq.trans rfl rfl
theorem outM_nx4 (a b c d : Option O) (ro : Ro) : outF [0] 4 (.nx (a :: b :: c :: d :: ro)) = .ok (.d .none) [a, none, none, none] := Eq.trans rfl rfl
theorem outM_exc (n : Nat) (x : Exn) (ro : Ro) : outF [0] n (.exc x ro) = .exc x [] := Eq.trans rfl rfl
theorem asgT_var (i : Nat) (x : PyData) (ro : Ro) : asgT (.var i) x ro = some (ro.set i (some (.d x))) := by rw [asgT]
theorem asgT_tup (ts : CE) (xs : List PyData) (ro : Ro) : asgT (.tup ts) (.tuple xs) ro = asgTs ts xs ro := by rw [asgT]
theorem asgTs_nil (ro : Ro) : asgTs .nil [] ro = some ro := by rw [asgTs]
theorem asgTs_cons (t ts : CE) (x : PyData) (xs : List PyData) (ro : Ro) : asgTs (.cons t ts) (x :: xs) ro = (asgT t x ro).bind fun ro => asgTs ts xs ro := by
  rw [asgTs]; cases asgT t x ro <;> rfl
theorem wipe_nil (ro : Ro) : wipeR [] ro = ro := Eq.trans rfl rfl
theorem wipe_cons (p : Str × Nat) (ps : List (Str × Nat)) (ro : Ro) : wipeR (p :: ps) ro = (wipeR ps ro).set p.2 none := Eq.trans rfl rfl
def quietS : Option (Option O) → Bool
  | some none => true
  | some (some (.d _)) => true
  | _ => false
theorem quiet_nil (ro : Ro) : quietOwn ro [] = true := Eq.trans rfl rfl
theorem quiet_cons (p : Str × Nat) (ps : List (Str × Nat)) (ro : Ro) : quietOwn ro (p :: ps) = (quietS ro[p.2]? && quietOwn ro ps) := Eq.trans rfl rfl
theorem quiet_none : quietS (some none) = true := Eq.trans rfl rfl
theorem quiet_d (x : PyData) : quietS (some (some (.d x))) = true := Eq.trans rfl rfl
/-- what a slot may be left with: nothing, or data -/
def jd (x : Option PyData) : Option O := x.map .d
theorem quiet_jd (x : Option PyData) : quietS (some (jd x)) = true := by cases x <;> rfl
theorem jd_none : jd none = none := rfl
theorem jd_some (x : PyData) : jd (some x) = some (.d x) := rfl
theorem aug_add2 (i j : Int) : augO .Add (.int i) (.int j) = some (.int (i + j)) := Eq.trans rfl rfl
theorem aug_sub2 (i j : Int) : augO .Sub (.int i) (.int j) = some (.int (i - j)) := Eq.trans rfl rfl
theorem aug_mul2 (i j : Int) : augO .Mult (.int i) (.int j) = if -(2 ^ 64) < j ∧ j < 2 ^ 64 then some (.int (i * j)) else none := rfl
section
variable {G : GE} {ro : Ro}
theorem q_neg2 (a : CE) : ev G (.neg a) ro = (ev G a ro).bind fun h ro => osel ((h.lookD ro).bind intOf) (fun i => .ok (.tm (.d (.int (-i)))) ro) .stuck := by
  rw [q_neg]; congr 1; funext h ro
  cases h.lookD ro with
  | none => rfl
  | some x => cases x <;> rfl
def revO : PyData → Option O
  | .tuple xs => some (.d (.tuple xs.reverse))
  | .list xs => some (ol xs.reverse)
  | _ => none
theorem revO_t (xs : List PyData) : revO (.tuple xs) = some (.d (.tuple xs.reverse)) := Eq.trans rfl rfl
theorem revO_l (xs : List PyData) : revO (.list xs) = some (ol xs.reverse) := Eq.trans rfl rfl
theorem q_rev2 (a : CE) : ev G (.rev a) ro = (ev G a ro).bind fun h ro => osel ((h.lookF ro).bind revO) (fun o => .ok (.tm o) ro) .stuck := by
  rw [q_rev]; congr 1; funext h ro
  cases h.lookF ro with
  | none => rfl
  | some x => cases x <;> rfl
def listOf : PyData → Option (List PyData)
  | .list xs => some xs
  | _ => none
theorem listOf_l (xs : List PyData) : listOf (.list xs) = some xs := Eq.trans rfl rfl
theorem q_sset2 (a : CE) : ev G (.sset a) ro = (ev G a ro).bind fun h ro => osel (((h.lookF ro).bind listOf).bind ssetD) (fun ys => .ok (.tm (ol ys)) ro) .stuck := by
  rw [q_sset]; congr 1; funext h ro
  cases h.lookF ro with
  | none => rfl
  | some x => cases x <;> rfl
def rgD (m n : Int) : Option (List PyData) := if -(2 ^ 62) ≤ m ∧ m < 2 ^ 62 ∧ -(2 ^ 62) ≤ n ∧ n < 2 ^ 62 then some (rangeD m n) else none
theorem rgD_ok {m n : Int} (h1 : -1000000000 ≤ m) (h2 : m ≤ 1000000000) (h3 : -1000000000 ≤ n) (h4 : n ≤ 1000000000) : rgD m n = some (rangeD m n) := by
  unfold rgD; rw [if_pos]; omega
theorem qI_rng1' (z : Bool) (n : CE) : evI G z (.rng (.cons n .nil)) ro = (ev G n ro).bind fun h ro => osel ((h.lookD ro).bind intOf) (fun n => osel (rgD 0 n) (fun xs => .ok xs ro) .stuck) .stuck := by
  rw [qI_rng1, q_cons]
  cases ev G n ro with
  | stuck => rfl
  | exc x ro => rfl
  | ok h ro =>
    have ok0 : okD h .nil = true := by unfold okD; rw [show qt .nil = true from rfl]; simp
    simp only [Out.bind_ok, ok0, if_true, q_nil, looksD]
    cases h.lookD ro with
    | none => rfl
    | some x =>
      cases x <;> try rfl
      rename_i n
      simp only [Option.bind_some, intOf, osel, rgD]
      by_cases c : -(2 ^ 62) ≤ n ∧ n < 2 ^ 62
      · rw [if_pos c, if_pos ⟨by decide, by decide, c⟩]
      · rw [if_neg c, if_neg fun z => c ⟨z.2.2.1, z.2.2.2⟩]
def rgsel (ro : Ro) : List PyData → Out (List PyData)
  | [.int n] => osel (rgD 0 n) (fun xs => .ok xs ro) .stuck
  | [.int m, .int n] => osel (rgD m n) (fun xs => .ok xs ro) .stuck
  | _ => .stuck
theorem rgsel_2 (ro : Ro) (m n : Int) : rgsel ro [.int m, .int n] = osel (rgD m n) (fun xs => .ok xs ro) .stuck := Eq.trans rfl rfl
theorem qI_rng2' (z : Bool) (m n : CE) : evI G z (.rng (.cons m (.cons n .nil))) ro = (evs G (.cons m (.cons n .nil)) ro).bind fun hs ro => osel (looksD ro hs) (fun xs => rgsel ro xs) .stuck := by
  rw [qI_rng2]; congr 1; funext hs ro
  cases looksD ro hs with
  | none => rfl
  | some xs =>
    simp only [osel]
    split
    · rename_i n h
      cases h
      simp only [rgsel, rgD, osel]
      rename_i n
      by_cases c : -(2 ^ 62) ≤ n ∧ n < 2 ^ 62
      · rw [if_pos c, if_pos ⟨by decide, by decide, c⟩]
      · rw [if_neg c, if_neg fun z => c ⟨z.2.2.1, z.2.2.2⟩]
    · rename_i n h
      cases h
      simp only [rgsel, rgD, osel]
      split <;> rfl
    · rename_i h1 h2
      unfold rgsel
      split
      · exact absurd rfl (h1 _)
      · exact absurd rfl (h2 _ _)
      · rfl
end
end Lw
namespace Lw
theorem ixD_eq (n : Nat) (i : Int) : ixD n i = if 0 ≤ i then (if i < n then some i.toNat else none) else if -(n : Int) ≤ i then some (i + n).toNat else none := rfl
end Lw
namespace Lw
theorem lenOk_eq (n : Nat) : lenOk n = decide (n ≤ 16777216) := rfl
end Lw

namespace Lw
open PySem L2
theorem log_small2 {j : Int} (h0 : 0 < j) (h : j ≤ 10 ^ 250) : j.natAbs.log2 < 9000 := by
  have k : j.natAbs < 2 ^ 1000 := by
    have : (j.natAbs : Int) < ((2 ^ 1000 : Nat) : Int) := by
      rw [Int.natAbs_of_nonneg (by omega)]
      exact Int.lt_of_le_of_lt h (by decide +kernel)
    exact Int.ofNat_lt.mp this
  have := (Nat.log2_lt (by omega)).mpr k
  omega
theorem mulOk_ok {a b : Int} (h1 : -(10 ^ 100) ≤ a) (h2 : a ≤ 10 ^ 100) (h3 : -(10 ^ 100) ≤ b) (h4 : b ≤ 10 ^ 100) : mulOk a b = true := by
  have k : ∀ x : Int, -(10 ^ 100) ≤ x → x ≤ 10 ^ 100 → x.natAbs < 2 ^ 1000 := fun x h0 h1 => by
    have : (x.natAbs : Int) < ((2 ^ 1000 : Nat) : Int) := Int.lt_of_le_of_lt (show (x.natAbs : Int) ≤ 10 ^ 100 by omega) (by decide +kernel)
    exact Int.ofNat_lt.mp this
  exact mulOk_of (k a h1 h2) (k b h3 h4)
theorem bin_mul1 (i j : Int) (h : mulOk i j = true) : binO .Mult (.int i) (.int j) = some (.d (.int (i * j))) := by rw [bin_mul, if_pos h]
theorem bin_mul3 (i j : Int) (h1 : -(10 ^ 100) ≤ i) (h2 : i ≤ 10 ^ 100) (h3 : -(10 ^ 100) ≤ j) (h4 : j ≤ 10 ^ 100) : binO .Mult (.int i) (.int j) = some (.d (.int (i * j))) := by rw [bin_mul, if_pos (mulOk_ok h1 h2 h3 h4)]
theorem bin_fdiv1 (i j : Int) (h : 0 < j) (h2 : j ≤ 10 ^ 250) : binO .FloorDiv (.int i) (.int j) = some (.d (.int (i / j))) := by rw [bin_fdiv, if_pos ⟨h, log_small2 h h2⟩]
theorem bin_fdiv2 (i j : Int) (h : 0 < j) (h2 : j.natAbs.log2 < 9000) : binO .FloorDiv (.int i) (.int j) = some (.d (.int (i / j))) := by rw [bin_fdiv, if_pos ⟨h, h2⟩]
theorem bin_mod1 (i j : Int) (h : 0 < j) : binO .Mod (.int i) (.int j) = some (.d (.int (i % j))) := by rw [bin_mod, if_pos h]
theorem aug_mul1 (i j : Int) (h1 : -(2 ^ 64) < j) (h2 : j < 2 ^ 64) : augO .Mult (.int i) (.int j) = some (.int (i * j)) := by rw [aug_mul2, if_pos ⟨h1, h2⟩]
theorem bin_addT1 (xs ys : List PyData) (h : xs.length + ys.length ≤ 16777216) : binO .Add (.tuple xs) (.tuple ys) = some (.d (.tuple (xs ++ ys))) := by rw [bin_addT, if_pos (lenOk_of h)]
theorem bin_addL1 (xs ys : List PyData) (h : xs.length + ys.length ≤ 16777216) : binO .Add (.list xs) (.list ys) = some (ol (xs ++ ys)) := by rw [bin_addL, if_pos (lenOk_of h)]
theorem bin_mulL1 (xs : List PyData) (n : Int) (h : n ≤ 1000) (h0 : -1000 ≤ n) (h2 : xs.length ≤ 1000) : binO .Mult (.list xs) (.int n) = some (ol (List.replicate n.toNat xs).flatten) := by
  rw [bin_mulL, if_pos]
  refine ⟨by omega, by omega, lenOk_of ?_⟩
  have : xs.length * n.toNat ≤ 1000 * 1000 := Nat.mul_le_mul h2 (by omega)
  omega
theorem bin_mulT1 (x : PyData) (xs : List PyData) (n : Int) (h : n ≤ 1000) (h0 : 2 ≤ n) (h2 : xs.length ≤ 999) : binO .Mult (.tuple (x :: xs)) (.int n) = some (.d (.tuple (List.replicate n.toNat (x :: xs)).flatten)) := by
  rw [bin_mulT, if_pos]
  exact ⟨h0, h, by simp; omega, by simp⟩
theorem ix_pos (n : Nat) (i : Int) (h0 : 0 ≤ i) (h1 : i < n) : ixD n i = some i.toNat := by rw [ixD_eq, if_pos h0, if_pos h1]
theorem ix_neg (n : Nat) (i : Int) (h0 : i < 0) (h1 : -(n : Int) ≤ i) : ixD n i = some (i + n).toNat := by rw [ixD_eq, if_neg (by omega), if_pos h1]
theorem lenOk_ok (n : Nat) (h : n ≤ 16777216) : lenOk n = true := lenOk_of h
theorem rgD_ok' (m n : Int) (h1 : -1000000000 ≤ m) (h2 : m ≤ 1000000000) (h3 : -1000000000 ≤ n) (h4 : n ≤ 1000000000) : rgD m n = some (rangeD m n) := rgD_ok h1 h2 h3 h4
theorem dec_yes (p : Prop) [Decidable p] (h : p) : decide p = true := decide_eq_true h
theorem dec_no (p : Prop) [Decidable p] (h : ¬ p) : decide p = false := decide_eq_false h
end Lw
namespace Lw
open PySem L2
theorem eqD_ints (xs ys : List Int) : eqD (.list (xs.map .int)) (.list (ys.map .int)) = some (decide (xs = ys)) := eqD_enc (α := List Int) xs ys (by decide)
theorem eqD_tints (xs ys : List Int) : eqD (.tuple (xs.map .int)) (.tuple (ys.map .int)) = some (decide (xs = ys)) := by
  have := eqD_enc (α := Tu Int) ⟨xs⟩ ⟨ys⟩ (by decide)
  rw [show eqD (.tuple (xs.map .int)) (.tuple (ys.map .int)) = eqD (Enc.enc (Tu.mk xs)) (Enc.enc (Tu.mk ys)) from rfl, this]
  congr 1
  exact decide_eq_decide.mpr ⟨fun h => by injection h, fun h => by rw [h]⟩
/-- a range from 0, as the numbers below -/
theorem rangeD_nat (n : Nat) (m : Int) (h : m = n) : rangeD 0 m = (List.range n).map fun (k : Nat) => PyData.int (k : Int) := by
  subst h
  unfold rangeD
  have : ((n : Int) - 0).toNat = n := by omega
  rw [this]
  exact List.map_congr_left fun k _ => by rw [Int.zero_add]
end Lw
namespace Lw
open PySem L2
/-! slices -/
theorem cutD_nat (n d : Nat) (v : Int) (h : 0 ≤ v) : cutD n d (some v) = min v.toNat n := by
  show (if v < 0 then (v + (n : Int)).toNat else min v.toNat n) = _
  rw [if_neg (by omega)]
theorem sliceD_from (xs : List PyData) (v : Int) (h : 0 ≤ v) : sliceD xs (some v) none = xs.drop v.toNat := by
  unfold sliceD
  rw [cutD_nat _ _ _ h]
  show (xs.drop (min v.toNat xs.length)).take (xs.length - min v.toNat xs.length) = _
  by_cases c : v.toNat ≤ xs.length
  · rw [Nat.min_eq_left c, List.take_of_length_le (by rw [List.length_drop]; exact Nat.le_refl _)]
  · rw [Nat.min_eq_right (by omega), List.drop_length, List.drop_of_length_le (by omega)]; simp
theorem sliceD_to (xs : List PyData) (v : Int) (h : 0 ≤ v) : sliceD xs none (some v) = xs.take v.toNat := by
  unfold sliceD
  rw [cutD_nat _ _ _ h]
  show (xs.drop 0).take (min v.toNat xs.length - 0) = _
  rw [List.drop_zero, Nat.sub_zero]
  by_cases c : v.toNat ≤ xs.length
  · rw [Nat.min_eq_left c]
  · rw [Nat.min_eq_right (by omega), List.take_length, List.take_of_length_le (by omega)]
/-! the order of tuples of ints -/
def ltC (a b : List Int) : Bool := PySem.W.dataLt (tupI a) (tupI b)
theorem alike_tupI : ∀ x y : List Int, PySem.W.alike (tupI x) (tupI y) = true := fun x y => by
  unfold tupI
  rw [PySem.W.alike]
  induction x generalizing y with
  | nil => rw [List.map_nil, PySem.W.alikeAll]
  | cons a x ih =>
    cases y with
    | nil => rw [List.map_cons, List.map_nil, PySem.W.alikeAll]
    | cons b y => rw [List.map_cons, List.map_cons, PySem.W.alikeAll, PySem.W.alike, ih y]; rfl
theorem depth_tupI (x : List Int) : (tupI x).depth ≤ 60 := by
  have := Enc.dep_le (α := Tu Int) ⟨x⟩
  exact Nat.le_trans this (by decide)
theorem ordOk_tupI (a b : List Int) : ordOk (tupI a) (tupI b) = true := by
  unfold ordOk
  rw [alike_tupI]
  simp [depth_tupI]
  rfl
theorem ltD_tints (a b : List Int) : ltD (.tuple (a.map .int)) (.tuple (b.map .int)) = some (ltC a b) := by
  show (if ordOk (tupI a) (tupI b) = true then some (PySem.W.dataLt (tupI a) (tupI b)) else none) = _
  rw [ordOk_tupI, if_pos rfl]; rfl
theorem leD_tints (a b : List Int) : leD (.tuple (a.map .int)) (.tuple (b.map .int)) = some (!ltC b a) := by
  show (if ordOk (tupI a) (tupI b) = true then some (!PySem.W.dataLt (tupI b) (tupI a)) else none) = _
  rw [ordOk_tupI, if_pos rfl]; rfl
/-! a list of data, owned or not -/
def isL (x : O) (xs : List PyData) : Prop := x = .d (.list xs) ∨ x = ol xs
theorem isL.flat {x : O} {xs : List PyData} (h : isL x xs) : x.flat = some (.list xs) := by
  rcases h with rfl | rfl
  · exact flat_d _
  · exact ol_flat _
theorem isL.toD {x : O} {xs : List PyData} (h : isL x xs) : x.toD = some (.list xs) := by
  rcases h with rfl | rfl
  · exact toD_d _
  · exact ol_toD _
theorem isL.esel {x : O} {xs : List PyData} (h : isL x xs) {ro : Ro} {i : Nat} (hi : ro[i]? = some (some x)) : Lw.esel (some (some x)) i ro = .ok (.list xs) (ro.set i (some (.d (.list xs)))) := by
  rcases h with rfl | rfl
  · rw [esel_d, set_self hi]
  · rw [esel_ol]
theorem ol_nil' : O.lst [] = ol [] := Eq.trans rfl rfl
theorem ol_one' (a : PyData) : O.lst [.d a] = ol [a] := Eq.trans rfl rfl
theorem ol_two' (a b : PyData) : O.lst [.d a, .d b] = ol [a, b] := Eq.trans rfl rfl
theorem ol_three' (a b c : PyData) : O.lst [.d a, .d b, .d c] = ol [a, b, c] := Eq.trans rfl rfl
theorem ol_four' (a b c d : PyData) : O.lst [.d a, .d b, .d c, .d d] = ol [a, b, c, d] := Eq.trans rfl rfl
theorem ol_five' (a b c d e : PyData) : O.lst [.d a, .d b, .d c, .d d, .d e] = ol [a, b, c, d, e] := Eq.trans rfl rfl
theorem set_self' {α : Type} {l : List α} {i : Nat} {x : α} (h : l[i]? = some x) : l.set i x = l := set_self h
end Lw
namespace Lw
open PySem L2
theorem bin_pow1 (i j : Int) (h0 : 0 ≤ j) (h1 : j ≤ 1000) (h2 : i.natAbs < 2 ^ 64) : binO .Pow (.int i) (.int j) = some (.d (.int (i ^ j.toNat))) := by
  show (if 0 ≤ j ∧ j ≤ 1000000 ∧ i.natAbs < 2 ^ 64 then some (O.d (.int (i ^ j.toNat))) else none) = _
  rw [if_pos ⟨h0, by omega, h2⟩]
theorem map_snoc {α β : Type} (f : α → β) (xs : List α) (x : α) : xs.map f ++ [f x] = (xs ++ [x]).map f := by simp
end Lw

set_option maxRecDepth 100000
/-! Pl5: methods of lists. -/
namespace Lw
open PySem L2
section
variable {G : GE} {ro : Ro}
def lsel {α : Type} (q : Option (Option O)) (f : α) (z : α) : α := match q with
  | some (some (.lst _)) => f
  | _ => z
theorem lsel_ol {α : Type} (xs : List PyData) (f z : α) : lsel (some (some (ol xs))) f z = f := Eq.trans rfl rfl
theorem q_mth (m : Mt) (i : Nat) (as : CE) : ev G (.mth m (.var i) as) ro = lsel ro[i]? ((evs G as ro).bind fun hs ro => (stos hs ro).bind fun xs ro => mthR m i [] xs ro) .stuck := by
  rw [ev, ev]
  have k : ∀ as : CE, okD (.sl i []) as = true := fun as => rfl
  have e : Hd.look ro (.sl i []) = (match ro[i]? with | some (some o) => O.walk [] o | _ => none) := rfl
  rcases h : ro[i]? with _ | _ | o
  · rfl
  · rfl
  · simp only [Out.bind_ok, e, h, O.walk, k, Bool.and_true]
    cases o <;> simp [isLst, lsel]
def lstOf (q : Option (Option O)) : Option (List O) := match q with
  | some (some (.lst os)) => some os
  | _ => none
theorem mthR_eq (m : Mt) (i : Nat) (xs : List O) : mthR m i [] xs ro = osel (lstOf ro[i]?) (fun os => osel (mthL m os xs) (fun p => .ok (.tm p.1) (ro.set i (some (.lst p.2)))) .stuck) .stuck := by
  unfold mthR
  rcases h : ro[i]? with _ | _ | o
  · rfl
  · rfl
  · cases o <;> simp only [O.walk, lstOf, osel]
    rename_i os
    cases mthL m os xs with
    | none => rfl
    | some p => cases p; rfl
def appS (q : Option (Option O)) (i : Nat) (ys : List PyData) (ro : Ro) : Out Hd := match lstOf q with
  | some os => if lenOk (os.length + ys.length) = true then .ok (.tm (.d .none)) (ro.set i (some (.lst (os ++ ys.map .d)))) else .stuck
  | none => .stuck
theorem appS_ol (xs : List PyData) (i : Nat) (ys : List PyData) (ro : Ro) : appS (some (some (ol xs))) i ys ro = if decide (xs.length + ys.length ≤ 16777216) = true then .ok (.tm (.d .none)) (ro.set i (some (ol (xs ++ ys)))) else .stuck := by
  unfold appS lstOf ol lenOk
  simp
theorem appS_ok (xs : List PyData) (i : Nat) (ys : List PyData) (ro : Ro) (h : xs.length + ys.length ≤ 16777216) : appS (some (some (ol xs))) i ys ro = .ok (.tm (.d .none)) (ro.set i (some (ol (xs ++ ys)))) := by
  rw [appS_ol, if_pos (decide_eq_true h)]
theorem mth_app (i : Nat) (y : PyData) : mthR .append i [] [.d y] ro = appS ro[i]? i [y] ro := by
  rw [mthR_eq]; unfold appS
  cases lstOf ro[i]? with
  | none => rfl
  | some os =>
    simp only [osel, mthL, List.length_singleton, List.map_cons, List.map_nil]
    cases lenOk (os.length + 1) <;> rfl
theorem mth_ext (i : Nat) (ys : List PyData) : mthR .extend i [] [ol ys] ro = appS ro[i]? i ys ro := by
  rw [mthR_eq]; unfold appS
  cases lstOf ro[i]? with
  | none => rfl
  | some os =>
    simp only [osel, ol, mthL, List.length_map]
    cases lenOk (os.length + ys.length) <;> rfl
theorem mth_extd (i : Nat) (ys : List PyData) : mthR .extend i [] [.d (.list ys)] ro = appS ro[i]? i ys ro := by
  rw [mthR_eq]; unfold appS
  cases lstOf ro[i]? with
  | none => rfl
  | some os =>
    simp only [osel, mthL]
    cases lenOk (os.length + ys.length) <;> rfl
end
end Lw

set_option maxRecDepth 100000
/-! Pl6: equations of item, slice and dict stores; dicts. -/
namespace Lw
open PySem L2
section
variable {G : GE} {ro : Ro}
theorem q_dnew : ev G .dnew ro = .ok (.tm (.dct [] [])) ro := by rw [ev]
def datO : O → Option PyData
  | .d x => some x
  | _ => none
theorem datO_d (x : PyData) : datO (.d x) = some x := Eq.trans rfl rfl
def dgetS (x : O) (y : PyData) (ro : Ro) : Out Hd := match x with
  | .dct ks os => osel (keyT y) (fun k => osel ((dGet ks os k).bind datO) (fun z => .ok (.tm (.d z)) ro) .stuck) .stuck
  | _ => .stuck
theorem dgetS_dct (ks : List PyData) (os : List O) (y : PyData) : dgetS (.dct ks os) y ro = osel (keyT y) (fun k => osel ((dGet ks os k).bind datO) (fun z => .ok (.tm (.d z)) ro) .stuck) .stuck := Eq.trans rfl rfl
theorem q_dget (d i : CE) : ev G (.dget d i) ro = (ev G d ro).bind fun h1 ro => if okD h1 i = true then (ev G i ro).bind fun h2 ro => osel (h1.look ro) (fun x => osel (h2.lookD ro) (fun y => dgetS x y ro) .stuck) .stuck else .stuck := by
  rw [ev]
  congr 1; funext h1 ro
  split <;> try rfl
  congr 1; funext h2 ro
  cases h1.look ro with
  | none => cases h2.lookD ro <;> rfl
  | some x =>
    cases h2.lookD ro with
    | none => cases x <;> rfl
    | some y =>
      cases x <;> try rfl
      rename_i ks os
      simp only [osel, dgetS]
      cases keyT y with
      | none => rfl
      | some k =>
        simp only
        cases dGet ks os k with
        | none => rfl
        | some o => cases o <;> rfl
def dinS (n : Bool) (x : O) (y : PyData) (ro : Ro) : Out Hd := match x with
  | .dct ks os => osel (keyT y) (fun k => .ok (.tm (.d (.bool (xor n (dGet ks os k).isSome)))) ro) .stuck
  | _ => .stuck
theorem dinS_dct (n : Bool) (ks : List PyData) (os : List O) (y : PyData) : dinS n (.dct ks os) y ro = osel (keyT y) (fun k => .ok (.tm (.d (.bool (xor n (dGet ks os k).isSome)))) ro) .stuck := Eq.trans rfl rfl
theorem q_din (n : Bool) (i d : CE) : ev G (.din n i d) ro = (ev G i ro).bind fun h1 ro => if okD h1 d = true then (ev G d ro).bind fun h2 ro => osel (h1.lookD ro) (fun y => osel (h2.look ro) (fun x => dinS n x y ro) .stuck) .stuck else .stuck := by
  rw [ev]
  congr 1; funext h1 ro
  split <;> try rfl
  congr 1; funext h2 ro
  cases h1.lookD ro with
  | none => rfl
  | some y =>
    cases h2.look ro with
    | none => rfl
    | some x =>
      cases x <;> try rfl
      simp only [osel, dinS]
      cases keyT y <;> rfl
theorem bin_subB (p q : Bool) : binO .Sub (.bool p) (.bool q) = some (.d (.int (PyProof.Rows.b2i p - PyProof.Rows.b2i q))) := Eq.trans rfl rfl
/-! stores in a slot -/
def lOf (q : Option (Option O)) : Option (List O) := match q with
  | some (some (.lst os)) => some os
  | _ => none
theorem lOf_ol (xs : List PyData) : lOf (some (some (ol xs))) = some (xs.map .d) := Eq.trans rfl rfl
theorem stI_sl (j : Nat) (k : Int) (y : O) : stI (.sl j []) (.int k) y ro = osel (lOf ro[j]?) (fun os => osel (ixD os.length k) (fun n => .nx (ro.set j (some (.lst (os.set n y))))) .stuck) .stuck := by
  unfold stI
  simp only
  cases h : ro[j]? with
  | none => rfl
  | some q =>
    cases q with
    | none => rfl
    | some t =>
      simp only [O.walk]
      cases t <;> try rfl
      rename_i os
      simp only [lOf, osel]
      cases ixD os.length k with
      | none => rfl
      | some n => simp only [O.put]
theorem s_sti' (o i e : CE) : ex G (.sti o i e) ro = (ev G e ro).then fun h ro => if okD h o = true then (ev G o ro).then fun ho ro => if okD h i = true ∧ okD ho i = true then (ev G i ro).then fun hi ro => osel (hi.lookD ro) (fun ix => (h.sto ro).then fun y ro => stI ho ix y ro) .stuck else .stuck else .stuck := by
  rw [ex]
  congr 1; funext h ro
  split <;> try rfl
  congr 1; funext ho ro
  split <;> try rfl
  congr 1; funext hi ro
  cases hi.lookD ro <;> rfl
end
end Lw

set_option maxRecDepth 100000
/-! Pl7: encoded data in the model's order; sorting, least and greatest; membership. -/
namespace Lw
open PySem L2
class EncL (α : Type) extends Enc α where
  lt : α → α → Bool
  alk : ∀ a b, PySem.W.alike (enc a) (enc b) = true
  dlt : ∀ a b, PySem.W.dataLt (enc a) (enc b) = lt a b
  nn : ∀ a, notNone (enc a) = true
  irr : ∀ a, lt a a = false
  tr : ∀ {a b c}, lt a b = true → lt b c = true → lt a c = true
  tot : ∀ {a b}, lt a b = false → lt b a = false → a = b
open EncL (lt)
section
variable {α β : Type} [EncL α] [EncL β]
open Enc (enc)
theorem eqv_enc [DecidableEq α] (a b : α) : PyData.eqv (enc a) (enc b) = decide (a = b) := by
  rw [Bool.eq_iff_iff, Enc.eqv, decide_eq_true_eq]
theorem lt_asymm {a b : α} (h : lt a b = true) : lt b a = false := by
  cases h2 : lt b a with
  | false => rfl
  | true => have := EncL.tr h h2; rw [EncL.irr] at this; cases this
theorem lt_ne {a b : α} (h : lt a b = true) : a ≠ b := fun e => by subst e; rw [EncL.irr] at h; cases h
instance : EncL Int where
  lt a b := decide (a < b)
  alk a b := by simp [Enc.enc, PySem.W.alike]
  dlt a b := PySem.W.dataLt_int a b
  nn a := rfl
  irr a := by simp
  tr := by simp; omega
  tot := by simp; omega
theorem alikeAll_enc : ∀ xs ys : List α, PySem.W.alikeAll (xs.map enc) (ys.map enc) = true
  | [], ys => by rw [List.map_nil]; cases ys <;> rw [PySem.W.alikeAll] <;> intros <;> simp_all
  | x :: xs, [] => by rw [List.map_cons, List.map_nil, PySem.W.alikeAll]
  | x :: xs, y :: ys => by rw [List.map_cons, List.map_cons, PySem.W.alikeAll, EncL.alk, alikeAll_enc xs ys]; rfl
def ltL : List α → List α → Bool
  | [], [] => false
  | [], _ :: _ => true
  | _ :: _, [] => false
  | x :: xs, y :: ys => lt x y || (!lt y x && ltL xs ys)
theorem eqv_lt (a b : α) : PyData.eqv (enc a) (enc b) = (!lt a b && !lt b a) := by
  cases h1 : lt a b with
  | true =>
    have := lt_ne h1
    rw [Bool.eq_false_iff.mpr fun h => this ((Enc.eqv a b).mp h)]; rfl
  | false =>
    cases h2 : lt b a with
    | true =>
      have := lt_ne h2
      rw [Bool.eq_false_iff.mpr fun h => this ((Enc.eqv a b).mp h).symm]; rfl
    | false => rw [(Enc.eqv a b).mpr (EncL.tot h1 h2)]; rfl
theorem lex_enc : ∀ xs ys : List α, PyProof.Rows.lexLt PyProof.Rows.itemOrd (PySem.W.keyToksAll (xs.map enc)) (PySem.W.keyToksAll (ys.map enc)) = ltL xs ys
  | [], [] => by rw [List.map_nil]; rfl
  | [], y :: ys => by
    rw [List.map_nil, List.map_cons, PySem.W.keyToksAll, PySem.W.keyToksAll, PyProof.Rows.lexLt]
    simp [PyProof.Rows.itemOrd, PyProof.Rows.itemLt, ltL]
  | x :: xs, [] => by
    rw [List.map_nil, List.map_cons, PySem.W.keyToksAll, PySem.W.keyToksAll, PyProof.Rows.lexLt]
    simp [PyProof.Rows.itemOrd, PyProof.Rows.itemLt, ltL]
  | x :: xs, y :: ys => by
    rw [List.map_cons, List.map_cons, PySem.W.dataLt_cons (EncL.alk x y), lex_enc xs ys, EncL.dlt, eqv_lt, ltL]
    cases h1 : lt x y <;> cases h2 : lt y x <;> simp
theorem ltL_irr : ∀ xs : List α, ltL xs xs = false
  | [] => rfl
  | x :: xs => by rw [ltL, EncL.irr, ltL_irr xs]; rfl
theorem ltL_tot : ∀ {xs ys : List α}, ltL xs ys = false → ltL ys xs = false → xs = ys
  | [], [], _, _ => rfl
  | [], _ :: _, h, _ => by cases h
  | _ :: _, [], _, h => by cases h
  | x :: xs, y :: ys, h1, h2 => by
    rw [ltL] at h1 h2
    simp only [Bool.or_eq_false_iff, Bool.and_eq_false_iff, Bool.not_eq_false'] at h1 h2
    rw [EncL.tot h1.1 h2.1, ltL_tot (xs := xs) (ys := ys)]
    · rcases h1.2 with h | h
      · rw [h2.1] at h; cases h
      · exact h
    · rcases h2.2 with h | h
      · rw [h1.1] at h; cases h
      · exact h
theorem ltL_tr : ∀ {xs ys zs : List α}, ltL xs ys = true → ltL ys zs = true → ltL xs zs = true
  | [], [], _, h, _ => by cases h
  | [], _ :: _, [], _, h => by cases h
  | [], _ :: _, _ :: _, _, _ => rfl
  | _ :: _, [], _, h, _ => by cases h
  | _ :: _, _ :: _, [], _, h => by cases h
  | x :: xs, y :: ys, z :: zs, h1, h2 => by
    rw [ltL] at h1 h2 ⊢
    simp only [Bool.or_eq_true, Bool.and_eq_true, Bool.not_eq_true'] at h1 h2 ⊢
    rcases h1 with h1 | ⟨h1, h1'⟩
    · rcases h2 with h2 | ⟨h2, h2'⟩
      · exact .inl (EncL.tr h1 h2)
      · cases e : lt y z with
        | true => exact .inl (EncL.tr h1 e)
        | false => rw [← EncL.tot e h2]; exact .inl h1
    · cases e : lt x y with
      | false =>
        have := EncL.tot e h1
        subst this
        rcases h2 with h2 | ⟨h2, h2'⟩
        · exact .inl h2
        · exact .inr ⟨h2, ltL_tr h1' h2'⟩
      | true =>
        rcases h2 with h2 | ⟨h2, h2'⟩
        · exact .inl (EncL.tr e h2)
        · cases e' : lt y z with
          | true => exact .inl (EncL.tr e e')
          | false => rw [← EncL.tot e' h2]; exact .inl e
instance : EncL (Tu α) where
  lt a b := ltL a.l b.l
  alk a b := by
    show PySem.W.alike (.tuple _) (.tuple _) = true
    rw [PySem.W.alike]; exact alikeAll_enc _ _
  dlt a b := by
    show PySem.W.dataLt (.tuple _) (.tuple _) = _
    rw [PySem.W.dataLt_tuple, lex_enc]
  nn a := rfl
  irr a := ltL_irr _
  tr := ltL_tr
  tot h1 h2 := Tu.ext' (ltL_tot h1 h2)
instance : EncL (List α) where
  lt a b := ltL a b
  alk a b := by
    show PySem.W.alike (.list _) (.list _) = true
    rw [PySem.W.alike]; exact alikeAll_enc _ _
  dlt a b := by
    show PySem.W.dataLt (.list _) (.list _) = _
    rw [PySem.W.dataLt_list, lex_enc]
  nn a := rfl
  irr a := ltL_irr _
  tr := ltL_tr
  tot h1 h2 := ltL_tot h1 h2
instance : EncL (α × β) where
  lt a b := lt a.1 b.1 || (!lt b.1 a.1 && lt a.2 b.2)
  alk a b := by
    show PySem.W.alike (.tuple _) (.tuple _) = true
    simp only [PySem.W.alike, PySem.W.alikeAll, EncL.alk, Bool.and_self]
  dlt a b := by
    show PySem.W.dataLt (.tuple _) (.tuple _) = _
    rw [PySem.W.dataLt_pair (EncL.alk _ _) (EncL.alk _ _), eqv_lt, eqv_lt, EncL.dlt, EncL.dlt]
    cases h1 : lt a.1 b.1 <;> cases h2 : lt b.1 a.1 <;> cases h3 : lt a.2 b.2 <;> cases h4 : lt b.2 a.2 <;> simp
  nn a := rfl
  irr a := by simp [EncL.irr]
  tr {a b c} h1 h2 := by
    simp only [Bool.or_eq_true, Bool.and_eq_true, Bool.not_eq_true'] at h1 h2 ⊢
    rcases h1 with h1 | ⟨h1, h1'⟩
    · rcases h2 with h2 | ⟨h2, h2'⟩
      · exact .inl (EncL.tr h1 h2)
      · cases e : lt b.1 c.1 with
        | true => exact .inl (EncL.tr h1 e)
        | false => rw [← EncL.tot e h2]; exact .inl h1
    · cases e : lt a.1 b.1 with
      | false =>
        rw [EncL.tot e h1]
        rcases h2 with h2 | ⟨h2, h2'⟩
        · exact .inl h2
        · exact .inr ⟨h2, EncL.tr h1' h2'⟩
      | true =>
        rcases h2 with h2 | ⟨h2, h2'⟩
        · exact .inl (EncL.tr e h2)
        · cases e' : lt b.1 c.1 with
          | true => exact .inl (EncL.tr e e')
          | false => rw [← EncL.tot e' h2]; exact .inl e
  tot {a b} h1 h2 := by
    simp only [Bool.or_eq_false_iff, Bool.and_eq_false_iff, Bool.not_eq_false'] at h1 h2
    refine Prod.ext (EncL.tot h1.1 h2.1) (EncL.tot ?_ ?_)
    · rcases h1.2 with h | h
      · rw [h2.1] at h; cases h
      · exact h
    · rcases h2.2 with h | h
      · rw [h1.1] at h; cases h
      · exact h
/-! ### the operations on encoded data -/
theorem ordOk_enc (a b : α) (h : Enc.dep α ≤ 60) : ordOk (enc a) (enc b) = true := by
  unfold ordOk
  have := Enc.dep_le a
  rw [EncL.alk, EncL.nn]
  simp; omega
theorem ltD_ord {a b : PyData} (h : ordOk a b = true) : ltD a b = some (PySem.W.dataLt a b) := by
  unfold ltD
  split
  · rw [PySem.W.dataLt_int]
  · rw [if_pos h]
theorem leD_ord {a b : PyData} (h : ordOk a b = true) : leD a b = some (!PySem.W.dataLt b a) := by
  unfold leD
  split
  · rw [PySem.W.dataLt_int]; congr 1; rw [Bool.eq_iff_iff]; simp
  · rw [if_pos h]
theorem gtD_ord {a b : PyData} (h : ordOk a b = true) : gtD a b = some (PySem.W.dataLt b a) := by
  unfold gtD
  split
  · rw [PySem.W.dataLt_int]
  · rw [if_pos h]
theorem geD_ord {a b : PyData} (h : ordOk a b = true) : geD a b = some (!PySem.W.dataLt a b) := by
  unfold geD
  split
  · rw [PySem.W.dataLt_int]; congr 1; rw [Bool.eq_iff_iff]; simp
  · rw [if_pos h]
theorem ltD_enc (a b : α) (h : Enc.dep α ≤ 60) : ltD (enc a) (enc b) = some (lt a b) := by rw [ltD_ord (ordOk_enc a b h), EncL.dlt]
theorem leD_enc (a b : α) (h : Enc.dep α ≤ 60) : leD (enc a) (enc b) = some (!lt b a) := by rw [leD_ord (ordOk_enc a b h), EncL.dlt]
theorem gtD_enc (a b : α) (h : Enc.dep α ≤ 60) : gtD (enc a) (enc b) = some (lt b a) := by rw [gtD_ord (ordOk_enc a b h), EncL.dlt]
theorem geD_enc (a b : α) (h : Enc.dep α ≤ 60) : geD (enc a) (enc b) = some (!lt a b) := by rw [geD_ord (ordOk_enc a b h), EncL.dlt]
theorem allAlike_enc (xs : List α) (h : Enc.dep α ≤ 60) : allAlike (xs.map enc) = true := by
  unfold allAlike
  have := depAll_enc xs
  simp only [List.all_map, Bool.and_eq_true, List.all_eq_true, Function.comp_def, decide_eq_true_eq]
  exact ⟨⟨fun a _ b _ => EncL.alk a b, fun a _ => EncL.nn a⟩, by omega⟩
/-- the least, the first of such -/
def minE (x : α) (xs : List α) : α := xs.foldl (fun a y => if lt y a then y else a) x
def maxE (x : α) (xs : List α) : α := xs.foldl (fun a y => if lt a y then y else a) x
theorem minD_enc : ∀ (xs : List α) (x : α), PySem.W.minD (enc x) (xs.map enc) = enc (minE x xs)
  | [], x => rfl
  | y :: ys, x => by
    have k := minD_enc ys (if lt y x then y else x)
    unfold PySem.W.minD minE at k ⊢
    rw [List.map_cons, List.foldl_cons, List.foldl_cons, ← k, EncL.dlt]
    congr 1
    split <;> rfl
theorem maxD_enc : ∀ (xs : List α) (x : α), PySem.W.maxD (enc x) (xs.map enc) = enc (maxE x xs)
  | [], x => rfl
  | y :: ys, x => by
    have k := maxD_enc ys (if lt x y then y else x)
    unfold PySem.W.maxD maxE at k ⊢
    rw [List.map_cons, List.foldl_cons, List.foldl_cons, ← k, EncL.dlt]
    congr 1
    split <;> rfl
theorem minO_enc (x : α) (xs : List α) (h : Enc.dep α ≤ 60) : minO [.list (enc x :: xs.map enc)] = some (.d (enc (minE x xs))) := by
  show (if allAlike (enc x :: xs.map enc) = true then some (O.d (PySem.W.minD (enc x) (xs.map enc))) else none) = _
  rw [show enc x :: xs.map enc = (x :: xs).map enc from rfl, allAlike_enc _ h, if_pos rfl, minD_enc]
theorem maxO_enc (x : α) (xs : List α) (h : Enc.dep α ≤ 60) : maxO [.list (enc x :: xs.map enc)] = some (.d (enc (maxE x xs))) := by
  show (if allAlike (enc x :: xs.map enc) = true then some (O.d (PySem.W.maxD (enc x) (xs.map enc))) else none) = _
  rw [show enc x :: xs.map enc = (x :: xs).map enc from rfl, allAlike_enc _ h, if_pos rfl, maxD_enc]
theorem lt_neg_tr {a b c : α} (h1 : lt b a = false) (h2 : lt c b = false) : lt c a = false := by
  cases e : lt c a with
  | false => rfl
  | true =>
    cases e2 : lt a b with
    | true => rw [EncL.tr e e2] at h2; cases h2
    | false => rw [EncL.tot e2 h1, h2] at e; cases e
theorem minE_spec : ∀ (xs : List α) (x : α), minE x xs ∈ x :: xs ∧ ∀ y ∈ x :: xs, lt y (minE x xs) = false
  | [], x => ⟨by simp [minE], fun y hy => by rw [List.mem_singleton.mp hy]; exact EncL.irr x⟩
  | z :: zs, x => by
    have e : minE x (z :: zs) = minE (if lt z x then z else x) zs := rfl
    obtain ⟨k1, k2⟩ := minE_spec zs (if lt z x then z else x)
    rw [e]
    have k3 := k2 _ List.mem_cons_self
    constructor
    · rcases List.mem_cons.mp k1 with k | k
      · rw [k]; split <;> simp
      · exact List.mem_cons_of_mem _ (List.mem_cons_of_mem _ k)
    · intro y hy
      rcases List.mem_cons.mp hy with rfl | hy
      · cases h : lt z y with
        | false => rw [h] at k3; exact k3
        | true => rw [h] at k3; exact lt_neg_tr k3 (lt_asymm h)
      · rcases List.mem_cons.mp hy with rfl | hy
        · cases h : lt y x with
          | true => rw [h] at k3; exact k3
          | false => rw [h] at k3; exact lt_neg_tr k3 h
        · exact k2 y (List.mem_cons_of_mem _ hy)
theorem minE_eq {x m : α} {xs : List α} (h1 : m ∈ x :: xs) (h2 : ∀ y ∈ x :: xs, lt y m = false) : minE x xs = m :=
  EncL.tot (h2 _ (minE_spec xs x).1) ((minE_spec xs x).2 _ h1)
theorem maxE_spec : ∀ (xs : List α) (x : α), maxE x xs ∈ x :: xs ∧ ∀ y ∈ x :: xs, lt (maxE x xs) y = false
  | [], x => ⟨by simp [maxE], fun y hy => by rw [List.mem_singleton.mp hy]; exact EncL.irr x⟩
  | z :: zs, x => by
    have e : maxE x (z :: zs) = maxE (if lt x z then z else x) zs := rfl
    obtain ⟨k1, k2⟩ := maxE_spec zs (if lt x z then z else x)
    rw [e]
    have k3 := k2 _ List.mem_cons_self
    constructor
    · rcases List.mem_cons.mp k1 with k | k
      · rw [k]; split <;> simp
      · exact List.mem_cons_of_mem _ (List.mem_cons_of_mem _ k)
    · intro y hy
      rcases List.mem_cons.mp hy with rfl | hy
      · cases h : lt y z with
        | false => rw [h] at k3; exact k3
        | true => rw [h] at k3; exact lt_neg_tr (lt_asymm h) k3
      · rcases List.mem_cons.mp hy with rfl | hy
        · cases h : lt x y with
          | true => rw [h] at k3; exact k3
          | false => rw [h] at k3; exact lt_neg_tr h k3
        · exact k2 y (List.mem_cons_of_mem _ hy)
theorem maxE_eq {x m : α} {xs : List α} (h1 : m ∈ x :: xs) (h2 : ∀ y ∈ x :: xs, lt m y = false) : maxE x xs = m :=
  EncL.tot ((maxE_spec xs x).2 _ h1) (h2 _ (maxE_spec xs x).1)
/-! sorting -/
def insE (x : α) : List α → List α
  | [] => [x]
  | y :: ys => if lt y x then y :: insE x ys else x :: y :: ys
def isort : List α → List α
  | [] => []
  | x :: xs => insE x (isort xs)
theorem insD_enc (x : α) : ∀ xs : List α, insD (enc x) (xs.map enc) = (insE x xs).map enc
  | [] => rfl
  | y :: ys => by
    rw [List.map_cons, insD, EncL.dlt, insE, insD_enc x ys]
    split <;> rfl
theorem insSort_enc : ∀ xs : List α, insSort (xs.map enc) = (isort xs).map enc
  | [] => rfl
  | x :: xs => by rw [List.map_cons, insSort, insSort_enc xs, insD_enc]; rfl
theorem sortD_enc (xs : List α) (h : Enc.dep α ≤ 60) (hs : (∀ a : α, fullTup (enc a) = true) ∨ (∀ a : α, notTup (enc a) = true)) (hl : xs.length ≤ 16777216) : sortD (xs.map enc) = some ((isort xs).map enc) := by
  unfold sortD
  rw [allAlike_enc xs h, List.length_map, lenOk_of hl, insSort_enc]
  rcases hs with hs | hs
  · rw [show (xs.map enc).all fullTup = true from by simp [hs]]; rfl
  · rw [show (xs.map enc).all notTup = true from by simp [hs]]; simp
theorem insE_mem {x y : α} : ∀ {xs : List α}, y ∈ insE x xs ↔ y = x ∨ y ∈ xs
  | [] => by simp [insE]
  | z :: zs => by
    rw [insE]
    split
    · rw [List.mem_cons, insE_mem, List.mem_cons]; constructor <;> (rintro (h | h | h) <;> simp [h])
    · simp
theorem isort_mem {y : α} : ∀ {xs : List α}, y ∈ isort xs ↔ y ∈ xs
  | [] => Iff.rfl
  | x :: xs => by rw [isort, insE_mem, isort_mem, List.mem_cons]
theorem insE_len (x : α) : ∀ xs : List α, (insE x xs).length = xs.length + 1
  | [] => rfl
  | y :: ys => by
    rw [insE]
    split
    · rw [List.length_cons, insE_len x ys]; rfl
    · rfl
theorem isort_len : ∀ xs : List α, (isort xs).length = xs.length
  | [] => rfl
  | x :: xs => by rw [isort, insE_len, isort_len xs]; rfl
theorem insE_perm (x : α) : ∀ xs : List α, (insE x xs).Perm (x :: xs)
  | [] => List.Perm.refl _
  | y :: ys => by
    rw [insE]
    split
    · exact ((insE_perm x ys).cons y).trans (List.Perm.swap x y ys)
    · exact List.Perm.refl _
theorem isort_perm : ∀ xs : List α, (isort xs).Perm xs
  | [] => List.Perm.refl _
  | x :: xs => (insE_perm x _).trans ((isort_perm xs).cons x)
/-- ascending, nothing greater ahead -/
def Asc (xs : List α) : Prop := xs.Pairwise fun a b => lt b a = false
/-- strictly ascending -/
def SAsc (xs : List α) : Prop := xs.Pairwise fun a b => lt a b = true
theorem insE_asc {x : α} : ∀ {xs : List α}, Asc xs → Asc (insE x xs)
  | [], _ => by simp [insE, Asc]
  | y :: ys, h => by
    have h' := List.pairwise_cons.mp h
    rw [insE]
    split
    · rename_i e
      refine List.pairwise_cons.mpr ⟨fun z hz => ?_, insE_asc h'.2⟩
      rcases insE_mem.mp hz with rfl | hz
      · exact lt_asymm e
      · exact h'.1 z hz
    · rename_i e
      have e : lt y x = false := by simpa using e
      refine List.pairwise_cons.mpr ⟨fun z hz => ?_, h⟩
      rcases List.mem_cons.mp hz with rfl | hz
      · exact e
      · exact lt_neg_tr e (h'.1 z hz)
theorem isort_asc : ∀ xs : List α, Asc (isort xs)
  | [] => List.Pairwise.nil
  | x :: xs => insE_asc (isort_asc xs)
theorem Asc.strict {xs : List α} (h : Asc xs) (hn : xs.Nodup) : SAsc xs := by
  unfold Asc at h; unfold SAsc
  induction xs with
  | nil => exact List.Pairwise.nil
  | cons x xs ih =>
    have h' := List.pairwise_cons.mp h
    have n' := List.nodup_cons.mp hn
    refine List.pairwise_cons.mpr ⟨fun y hy => ?_, ih h'.2 n'.2⟩
    cases e : lt x y with
    | true => rfl
    | false => exact absurd (EncL.tot e (h'.1 y hy) ▸ hy) n'.1
theorem isort_sasc {xs : List α} (hn : xs.Nodup) : SAsc (isort xs) := (isort_asc xs).strict ((isort_perm xs).nodup_iff.mpr hn)
theorem SAsc.nodup {xs : List α} (h : SAsc xs) : xs.Nodup := List.Pairwise.imp (fun h => lt_ne h) h
theorem SAsc.asc {xs : List α} (h : SAsc xs) : Asc xs := List.Pairwise.imp (fun h => lt_asymm h) h
theorem asc_perm_eq : ∀ {xs ys : List α}, Asc xs → Asc ys → xs.Perm ys → xs = ys
  | [], ys, _, _, p => (List.nil_perm.mp p).symm
  | x :: xs, [], _, _, p => by cases List.perm_nil.mp p
  | x :: xs, y :: ys, h1, h2, p => by
    have a1 := List.pairwise_cons.mp h1
    have a2 := List.pairwise_cons.mp h2
    have e : x = y := by
      refine EncL.tot ?_ ?_
      · rcases List.mem_cons.mp (p.mem_iff.mp List.mem_cons_self) with rfl | h
        · exact EncL.irr _
        · exact a2.1 x h
      · rcases List.mem_cons.mp (p.mem_iff.mpr List.mem_cons_self) with rfl | h
        · exact EncL.irr _
        · exact a1.1 y h
    subst e
    rw [asc_perm_eq a1.2 a2.2 (List.Perm.cons_inv p)]
theorem isort_id {xs : List α} (h : Asc xs) : isort xs = xs := asc_perm_eq (isort_asc xs) h (isort_perm xs)
theorem isort_perm_eq {xs ys : List α} (p : xs.Perm ys) : isort xs = isort ys := asc_perm_eq (isort_asc xs) (isort_asc ys) ((isort_perm xs).trans (p.trans (isort_perm ys).symm))
/-- a map that keeps the order -/
theorem insE_map {f : α → β} (hf : ∀ a b, lt (f a) (f b) = lt a b) (x : α) : ∀ xs : List α, (insE x xs).map f = insE (f x) (xs.map f)
  | [] => rfl
  | y :: ys => by
    rw [List.map_cons, insE, insE, hf, ← insE_map hf x ys]
    split <;> rfl
theorem isort_map {f : α → β} (hf : ∀ a b, lt (f a) (f b) = lt a b) : ∀ xs : List α, (isort xs).map f = isort (xs.map f)
  | [] => rfl
  | x :: xs => by rw [isort, insE_map hf, isort_map hf xs]; rfl
/-- strictly ascending, by neighbours -/
theorem sasc_step : ∀ {xs : List α}, (xs.zip xs.tail).all (fun p => lt p.1 p.2) = true → SAsc xs
  | [], _ => List.Pairwise.nil
  | [x], _ => by simp [SAsc]
  | x :: y :: ys, h => by
    simp only [List.tail_cons, List.zip_cons_cons, List.all_cons, Bool.and_eq_true] at h
    have ih : SAsc (y :: ys) := sasc_step (by simpa using h.2)
    refine List.pairwise_cons.mpr ⟨fun z hz => ?_, ih⟩
    rcases List.mem_cons.mp hz with rfl | hz
    · exact h.1
    · exact EncL.tr h.1 ((List.pairwise_cons.mp ih).1 z hz)
theorem step_sasc : ∀ {xs : List α}, SAsc xs → (xs.zip xs.tail).all (fun p => lt p.1 p.2) = true
  | [], _ => rfl
  | [x], _ => rfl
  | x :: y :: ys, h => by
    have h' := List.pairwise_cons.mp h
    simp only [List.tail_cons, List.zip_cons_cons, List.all_cons, Bool.and_eq_true]
    exact ⟨h'.1 y List.mem_cons_self, by simpa using step_sasc h'.2⟩
/-! membership -/
theorem any_enc [DecidableEq α] (x : α) (ys : List α) : ((ys.map enc).any fun z => PyData.eqv z (enc x)) = decide (x ∈ ys) := by
  rw [Bool.eq_iff_iff, List.any_eq_true, decide_eq_true_eq]
  constructor
  · rintro ⟨z, hz, e⟩
    obtain ⟨y, hy, rfl⟩ := List.mem_map.mp hz
    rwa [← (Enc.eqv y x).mp e]
  · intro h
    exact ⟨enc x, List.mem_map_of_mem h, (Enc.eqv x x).mpr rfl⟩
theorem inD_enc [DecidableEq α] (x : α) (ys : List α) (h : Enc.dep α ≤ 60) : inD (enc x) (.list (ys.map enc)) = some (decide (x ∈ ys)) := by
  show (if (SeqAt.shaped (enc x) && SeqAt.shaped (.list (ys.map enc))) = true then _ else none) = _
  rw [shaped_enc x (by omega), show PyData.list (ys.map enc) = enc ys from rfl, shaped_enc ys (by show Enc.dep α + 1 ≤ 64; omega), any_enc]
  rfl
theorem inD_encT [DecidableEq α] (x : α) (ys : List α) (h : Enc.dep α ≤ 60) : inD (enc x) (.tuple (ys.map enc)) = some (decide (x ∈ ys)) := by
  show (if (SeqAt.shaped (enc x) && SeqAt.shaped (.tuple (ys.map enc))) = true then _ else none) = _
  rw [shaped_enc x (by omega), show PyData.tuple (ys.map enc) = enc (Tu.mk ys) from rfl, shaped_enc (Tu.mk ys) (by show Enc.dep α + 1 ≤ 64; omega), any_enc]
  rfl
end
end Lw
namespace Lw
open EncL (lt)
section
variable {α : Type} [EncL α]
theorem sasc_ext {xs ys : List α} (h1 : SAsc xs) (h2 : SAsc ys) (h : ∀ a, a ∈ xs ↔ a ∈ ys) : xs = ys :=
  asc_perm_eq h1.asc h2.asc ((List.perm_ext_iff_of_nodup h1.nodup h2.nodup).mpr h)
variable [DecidableEq α]
/-- each once -/
def once : List α → List α
  | [] => []
  | x :: xs => if x ∈ xs then once xs else x :: once xs
theorem once_mem {a : α} : ∀ {xs : List α}, a ∈ once xs ↔ a ∈ xs
  | [] => Iff.rfl
  | x :: xs => by
    rw [once]
    split
    · rename_i h
      rw [once_mem, List.mem_cons]
      exact ⟨.inr, fun z => z.elim (fun e => e ▸ h) id⟩
    · rw [List.mem_cons, List.mem_cons, once_mem]
theorem once_nodup : ∀ xs : List α, (once xs).Nodup
  | [] => List.nodup_nil
  | x :: xs => by
    rw [once]
    split
    · exact once_nodup xs
    · rename_i h
      exact List.nodup_cons.mpr ⟨fun z => h (once_mem.mp z), once_nodup xs⟩
theorem once_len : ∀ xs : List α, (once xs).length ≤ xs.length
  | [] => Nat.le_refl _
  | x :: xs => by
    rw [once]
    have := once_len xs
    split <;> simp <;> omega
end
end Lw

set_option maxRecDepth 100000
/-! Pl8: dicts with encoded keys; enumerate. -/
namespace Lw
open PySem L2
open EncL (lt)
/-- data that may be a key -/
class EncK (α : Type) extends EncL α where
  key : α → List NestedKey
  isKey : ∀ a, toKey (enc a) = some (.tup (key a))
  dpt : ∀ a, (NestedKey.tup (key a)).depth ≤ 8
section
variable {α : Type} [EncK α] [DecidableEq α]
open Enc (enc)
theorem keyT_enc (a : α) : keyT (enc a) = some (.tup (EncK.key a)) := by
  unfold keyT
  rw [EncK.isKey]
  simp only
  rw [if_pos (EncK.dpt a)]
theorem enc_inj {a b : α} (h : enc a = enc b) : a = b := (Enc.eqv a b).mp (by rw [h]; exact (Enc.eqv b b).mpr rfl)
theorem key_iff (a b : α) : toKey (enc a) = some (.tup (EncK.key b)) ↔ a = b := by
  constructor
  · intro h
    have h1 := toKey_data _ _ h
    have h2 := toKey_data _ _ (EncK.isKey b)
    exact enc_inj (h1.symm.trans h2)
  · intro h; subst h; exact EncK.isKey a
/-- a dict -/
def dcE (xs : List (α × O)) : O := .dct (xs.map fun p => enc p.1) (xs.map (·.2))
def getA (a : α) : List (α × O) → Option O
  | [] => none
  | p :: xs => if p.1 = a then some p.2 else getA a xs
def putA (a : α) (v : O) : List (α × O) → List (α × O)
  | [] => [(a, v)]
  | p :: xs => if p.1 = a then (p.1, v) :: xs else p :: putA a v xs
theorem dGet_enc (a : α) : ∀ xs : List (α × O), dGet (xs.map fun p => enc p.1) (xs.map (·.2)) (.tup (EncK.key a)) = getA a xs
  | [] => rfl
  | p :: xs => by
    rw [List.map_cons, List.map_cons, dGet, getA, dGet_enc a xs]
    simp only [key_iff]
theorem dPut_enc (a : α) (v : O) : ∀ xs : List (α × O), dPut (xs.map fun p => enc p.1) (xs.map (·.2)) (enc a) (.tup (EncK.key a)) v = ((putA a v xs).map (fun p => enc p.1), (putA a v xs).map (·.2))
  | [] => rfl
  | p :: xs => by
    rw [List.map_cons, List.map_cons, dPut, putA, dPut_enc a v xs]
    simp only [key_iff]
    split <;> simp
theorem putA_keys (a : α) (v : O) : ∀ xs : List (α × O), (putA a v xs).map (·.1) = if a ∈ xs.map (·.1) then xs.map (·.1) else xs.map (·.1) ++ [a]
  | [] => rfl
  | p :: xs => by
    rw [putA]
    by_cases h : p.1 = a
    · rw [if_pos h]; simp [h]
    · rw [if_neg h, List.map_cons, putA_keys a v xs]
      by_cases h2 : a ∈ xs.map (·.1)
      · rw [if_pos h2, if_pos (by rw [List.map_cons]; exact List.mem_cons_of_mem _ h2)]; rfl
      · rw [if_neg h2, if_neg (by rw [List.map_cons, List.mem_cons]; rintro (z | z); exact h z.symm; exact h2 z)]; rfl
theorem getA_some (a : α) : ∀ xs : List (α × O), (getA a xs).isSome = decide (a ∈ xs.map (·.1))
  | [] => rfl
  | p :: xs => by
    rw [getA]
    by_cases h : p.1 = a
    · rw [if_pos h]; simp [h]
    · rw [if_neg h, getA_some a xs, List.map_cons]
      rw [decide_eq_decide, List.mem_cons]
      exact ⟨.inr, fun z => z.resolve_left fun e => h e.symm⟩
theorem getA_put (a b : α) (v : O) : ∀ xs : List (α × O), getA b (putA a v xs) = if a = b then some v else getA b xs
  | [] => by rw [putA, getA]; rfl
  | p :: xs => by
    rw [putA]
    by_cases h : p.1 = a
    · rw [if_pos h, getA, getA]
      by_cases e : a = b
      · rw [if_pos e, if_pos (h.trans e)]
      · rw [if_neg e, if_neg (fun z => e (h ▸ z)), if_neg (fun z => e (h ▸ z))]
    · rw [if_neg h, getA, getA, getA_put a b v xs]
      by_cases e : a = b
      · subst e; rw [if_neg h, if_pos rfl, if_pos rfl]
      · rw [if_neg e, if_neg e]
section
variable {G : GE} {ro : Ro}
theorem dct_nil : O.dct [] [] = dcE ([] : List (α × O)) := rfl
theorem dgetS_dcE (xs : List (α × O)) (a : α) : dgetS (dcE xs) (enc a) ro = osel ((getA a xs).bind datO) (fun z => Out.ok (Hd.tm (.d z)) ro) Out.stuck := by
  show osel (keyT (enc a)) (fun k => osel ((dGet (xs.map fun p => enc p.1) (xs.map (·.2)) k).bind datO) (fun z => Out.ok (Hd.tm (.d z)) ro) Out.stuck) Out.stuck = _
  rw [keyT_enc, osel_some, dGet_enc]
theorem dinS_dcE (n : Bool) (xs : List (α × O)) (a : α) : dinS n (dcE xs) (enc a) ro = .ok (.tm (.d (.bool (xor n (decide (a ∈ xs.map (·.1))))))) ro := by
  show osel (keyT (enc a)) (fun k => Out.ok (Hd.tm (.d (.bool (xor n (dGet (xs.map fun p => enc p.1) (xs.map (·.2)) k).isSome)))) ro) Out.stuck = _
  rw [keyT_enc, osel_some, dGet_enc, getA_some]
def stdS (q : Option (Option O)) (i : Nat) (x : PyData) (y : O) (ro : Ro) : SOut := match q with
  | some (some (.dct ks os)) => osel (keyT x) (fun k => if lenOk (ks.length + 1) = true then SOut.nx (ro.set i (some (.dct (dPut ks os x k y).1 (dPut ks os x k y).2))) else .stuck) .stuck
  | _ => .stuck
theorem stdS_dcE (i : Nat) (xs : List (α × O)) (a : α) (y : O) (h : xs.length < 1000000) : stdS (some (some (dcE xs))) i (enc a) y ro = .nx (ro.set i (some (dcE (putA a y xs)))) := by
  show osel (keyT (enc a)) (fun k => if lenOk ((xs.map fun p => enc p.1).length + 1) = true then SOut.nx (ro.set i (some (.dct (dPut (xs.map fun p => enc p.1) (xs.map (·.2)) (enc a) k y).1 (dPut (xs.map fun p => enc p.1) (xs.map (·.2)) (enc a) k y).2))) else .stuck) .stuck = _
  rw [keyT_enc, osel_some, dPut_enc, List.length_map, if_pos (lenOk_of (by omega))]; rfl
end
end
section
variable {G : GE} {ro : Ro}
theorem stD_sl (i : Nat) (x : PyData) (y : O) : stD (.sl i []) x y ro = stdS ro[i]? i x y ro := by
  unfold stD stdS
  simp only
  cases h : ro[i]? with
  | none => rfl
  | some q =>
    cases q with
    | none => rfl
    | some t =>
      simp only [O.walk]
      cases t <;> try rfl
      rename_i ks os
      simp only [osel, O.put]
      cases keyT x <;> rfl
theorem s_std' (d i e : CE) : ex G (.std d i e) ro = (ev G e ro).then fun h ro => if okD h d = true then (ev G d ro).then fun ho ro => if okD h i = true ∧ okD ho i = true then (ev G i ro).then fun hi ro => osel ((hi.look ro).bind datO) (fun x => (h.sto ro).then fun y ro => stD ho x y ro) .stuck else .stuck else .stuck := by
  rw [ex]
  congr 1; funext h ro
  split <;> try rfl
  congr 1; funext ho ro
  split <;> try rfl
  congr 1; funext hi ro
  cases hi.look ro with
  | none => rfl
  | some o => cases o <;> rfl
theorem q_dsort' (a : CE) : ev G (.dsort a) ro = (ev G a ro).bind fun h ro => osel ((h.look ro).bind fun o => match o with | .dct ks _ => sortD ks | _ => none) (fun ys => .ok (.tm (ol ys)) ro) .stuck := by
  rw [ev]
  congr 1; funext h ro
  cases h.look ro with
  | none => rfl
  | some o =>
    cases o <;> try rfl
    rename_i ks os
    simp only [Option.bind_some]
    cases h : sortD ks <;> rfl
end
theorem enumD_map {α : Type} (f : α → PyData) (xs : List α) : enumD (xs.map f) = xs.zipIdx.map fun p => .tuple [.int (p.2 : Int), f p.1] := by
  unfold enumD
  apply List.ext_getElem?
  intro i
  simp only [List.getElem?_zipWith, List.getElem?_map, List.getElem?_zipIdx, List.length_map]
  by_cases h : i < xs.length
  · rw [List.getElem?_range h, List.getElem?_eq_getElem h]; simp
  · rw [List.getElem?_eq_none (Nat.le_of_not_lt h)]
    simp
/-- a list with its places, parted -/
theorem zipIdx_split {α : Type} {xs : List α} {pre post : List (α × Nat)} {a : α × Nat} (h : xs.zipIdx = pre ++ a :: post) : a.2 = pre.length ∧ xs = pre.map (·.1) ++ a.1 :: post.map (·.1) ∧ xs.drop (a.2 + 1) = post.map (·.1) ∧ xs.take a.2 = pre.map (·.1) := by
  have e1 : xs = pre.map (·.1) ++ a.1 :: post.map (·.1) := by
    have := congrArg (List.map (·.1)) h
    simpa [List.zipIdx_map_fst] using this
  have e2 : a.2 = pre.length := by
    have := congrArg (fun l => l[pre.length]?) h
    simp only [List.getElem?_zipIdx] at this
    rw [List.getElem?_append_right (Nat.le_refl _), Nat.sub_self, List.getElem?_cons_zero] at this
    cases q : xs[pre.length]? with
    | none => rw [q] at this; cases this
    | some x => rw [q] at this; simp at this; rw [← this]
  refine ⟨e2, e1, ?_, ?_⟩
  · rw [e2, e1]
    have : (pre.map (·.1) : List α).length = pre.length := List.length_map _
    rw [← this, List.drop_append]
    simp
  · rw [e2, e1]
    have : (pre.map (·.1) : List α).length = pre.length := List.length_map _
    rw [← this, List.take_left']
    rfl
end Lw

set_option maxRecDepth 100000
/-! Pl9: closed calls by evaluation. -/
namespace Lw
open PySem L2
open EncL (lt)
mutual
def deq : PyData → PyData → Bool
  | .none, .none => true
  | .bool a, .bool b => a == b
  | .int a, .int b => decide (a = b)
  | .str a, .str b => decide (a = b)
  | .list a, .list b => deqs a b
  | .tuple a, .tuple b => deqs a b
  | _, _ => false
def deqs : List PyData → List PyData → Bool
  | [], [] => true
  | x :: xs, y :: ys => deq x y && deqs xs ys
  | _, _ => false
end
mutual
theorem deq_eq : ∀ x y : PyData, deq x y = true → x = y
  | .none, y, h => by cases y <;> simp_all [deq]
  | .bool a, y, h => by cases y <;> simp_all [deq]
  | .int a, y, h => by cases y <;> simp_all [deq]
  | .str a, y, h => by cases y <;> simp_all [deq]
  | .list a, y, h => by
    cases y <;> simp only [deq] at h <;> try cases h
    rename_i b
    rw [deqs_eq a b h]
  | .tuple a, y, h => by
    cases y <;> simp only [deq] at h <;> try cases h
    rename_i b
    rw [deqs_eq a b h]
  | .dict a, y, h => by cases y <;> simp_all [deq]
theorem deqs_eq : ∀ x y : List PyData, deqs x y = true → x = y
  | [], y, h => by cases y <;> simp_all [deqs]
  | x :: xs, y, h => by
    cases y with
    | nil => simp [deqs] at h
    | cons y ys =>
      simp only [deqs, Bool.and_eq_true] at h
      rw [deq_eq x y h.1, deqs_eq xs ys h.2]
end
def okIs (r : FOut) (x : PyData) : Bool := match r with
  | .ok (.d y) [] => deq y x
  | _ => false
theorem okIs_eq {r : FOut} {x : PyData} (h : okIs r x = true) : r = .ok (.d x) [] := by
  unfold okIs at h
  split at h
  · rw [deq_eq _ _ h]
  · cases h
def excIs (r : FOut) (c : Str) : Bool := match r with
  | .exc ⟨d⟩ [] => decide (d = c)
  | _ => false
theorem excIs_eq {r : FOut} {c : Str} (h : excIs r c = true) : r = .exc ⟨c⟩ [] := by
  unfold excIs at h
  split at h
  · rw [of_decide_eq_true h]
  · cases h
section
variable {α : Type} [Enc α]
theorem eqD_self (a : α) (h : Enc.dep α ≤ 64) : eqD (Enc.enc a) (Enc.enc a) = some true := by
  rw [eqD_shaped (shaped_enc a h) (shaped_enc a h), (Enc.eqv a a).mpr rfl]
end
end Lw

set_option maxRecDepth 100000
/-! PlA: equations of instances. -/
namespace Lw
open PySem L2
section
variable {G : GE} {ro : Ro}
def insOf (x : Option O) : Option (Str × List Str × List O) := match x with
  | some (.ins c ns os) => some (c, ns, os)
  | _ => none
theorem insOf_i (c : Str) (ns : List Str) (os : List O) : insOf (some (.ins c ns os)) = some (c, ns, os) := Eq.trans rfl rfl
/-- a field's value on the way -/
def fldT (i : Nat) (p : List Sel) (f : Str) (o : O) (ro : Ro) : Out Hd := match o with
  | .d x => .ok (.tm (.d x)) ro
  | _ => .ok (.sl i (p ++ [.f f])) ro
theorem fldT_d (i : Nat) (p : List Sel) (f : Str) (x : PyData) : fldT i p f (.d x) ro = .ok (.tm (.d x)) ro := Eq.trans rfl rfl
theorem fldT_dct (i : Nat) (f : Str) (ks : List PyData) (os : List O) : fldT i [] f (.dct ks os) ro = .ok (.sl i [.f f]) ro := Eq.trans rfl rfl
theorem fldT_ol (i : Nat) (f : Str) (xs : List PyData) : fldT i [] f (ol xs) ro = .ok (.sl i [.f f]) ro := Eq.trans rfl rfl
theorem fldT_ins (i : Nat) (f : Str) (c : Str) (ns : List Str) (os : List O) : fldT i [] f (.ins c ns os) ro = .ok (.sl i [.f f]) ro := Eq.trans rfl rfl
/-- the class is the one -/
def onC {α : Type} (d : Str) (x : Option (Str × List Str × List O)) (f : List Str → List O → α) (z : α) : α := match x with
  | some (c, ns, os) => if c = d then f ns os else z
  | none => z
theorem onC_yes {α : Type} (d : Str) (ns : List Str) (os : List O) (f : List Str → List O → α) (z : α) : onC d (some (d, ns, os)) f z = f ns os := by
  unfold onC; simp
theorem q_attrV (d f : Str) (i : Nat) : ev G (.attr d (.var i) f) ro = onC d (insOf ro[i]?.join) (fun ns os => osel (getN ns os f) (fun o => fldT i [] f o ro) .stuck) .stuck := by
  rw [ev, ev]
  cases h : ro[i]? with
  | none => rfl
  | some q =>
    cases q with
    | none => rfl
    | some t =>
      simp only [Out.bind_ok, atR]
      have e : Hd.look ro (.sl i []) = some t := look_sl ro i t h
      rw [e]
      cases t <;> try rfl
      rename_i c ns os
      show _ = onC d (some (c, ns, os)) _ _
      unfold onC
      simp only
      split <;> try rfl
      cases getN ns os f with
      | none => rfl
      | some o => cases o <;> rfl
/-- a method's outcome, by name -/
def meS (i : Nat) (r : FOut) (ro : Ro) : Out Hd := match r with
  | .ok o (some t' :: _) => .ok (.tm o) (ro.set i (some t'))
  | _ => .stuck
theorem meS_ok (i : Nat) (o t' : O) (bs : List (Option O)) : meS i (.ok o (some t' :: bs)) ro = .ok (.tm o) (ro.set i (some t')) := Eq.trans rfl rfl
def meV (d m : Str) (f : List O → FOut) (i : Nat) (xs : List O) (ro : Ro) : Out Hd := onC d (insOf ro[i]?.join) (fun ns os => meS i (f (.ins d ns os :: xs)) ro) .stuck
theorem meR_sl (d m : Str) (f : List O → FOut) (i : Nat) (xs : List O) (h : ∃ ns os, ro[i]? = some (some (.ins d ns os))) : meR f d m (.sl i []) xs ro = meV d m f i xs ro := by
  obtain ⟨ns, os, h⟩ := h
  unfold meV
  simp only [meR, h, O.walk, Option.join_some, insOf_i, onC_yes]
  cases f (.ins d ns os :: xs) with
  | ok o bs =>
    rcases bs with _ | ⟨_ | t, bs⟩ <;> rfl
  | exc _ _ => rfl
  | stuck => rfl
end
end Lw

set_option maxRecDepth 100000
/-! PlB: more equations of instances; pop; lists within lists. -/
namespace Lw
open PySem L2
section
variable {G : GE} {ro : Ro}
def meT (r : FOut) (ro : Ro) : Out Hd := match r with
  | .ok o _ => .ok (.tm o) ro
  | _ => .stuck
theorem meT_ok (o : O) (bs : List (Option O)) : meT (.ok o bs) ro = .ok (.tm o) ro := Eq.trans rfl rfl
def insM (q : Option O) (f : O → Out Hd) : Out Hd := match q with
  | some (.ins c ns os) => f (.ins c ns os)
  | _ => .stuck
def meG (G : GE) (d m : Str) (f : Nat) (as : CE) (h : Hd) (ro : Ro) : Out Hd := if isIns d m (Hd.look ro h) && okD h as then (evs G as ro).bind fun hs ro => (argsO hs ro).bind fun xs ro => meR (G.call f) d m h xs ro else .stuck
theorem q_meth (d m : Str) (f : Nat) (o as : CE) : ev G (.meth d m f o as) ro = (ev G o ro).bind fun h ro => meG G d m f as h ro := by rw [ev]; rfl
theorem meG_sl (d m : Str) (f : Nat) (as : CE) (i : Nat) : meG G d m f as (.sl i []) ro = if isIns d m ro[i]?.join = true then (evs G as ro).bind fun hs ro => (argsO hs ro).bind fun xs ro => insM ro[i]?.join (fun o => meS i (G.call f (o :: xs)) ro) else .stuck := by
  unfold meG
  have e : Hd.look ro (.sl i []) = ro[i]?.join := look_sl2 ro i
  have k : okD (.sl i []) as = true := by rw [okD_eq, deep_sl]; rfl
  rw [e, k, Bool.and_true]
  split
  · congr 1; funext hs ro; congr 1; funext xs ro
    unfold meR insM
    simp only
    cases h : ro[i]? with
    | none => rfl
    | some q =>
      cases q with
      | none => rfl
      | some t =>
        simp only [O.walk, Option.join_some]
        cases t <;> try rfl
  · rfl
theorem meG_tm (d m : Str) (f : Nat) (as : CE) (o : O) : meG G d m f as (.tm o) ro = if isIns d m (some o) = true then (evs G as ro).bind fun hs ro => (argsO hs ro).bind fun xs ro => meT (G.call f (o :: xs)) ro else .stuck := by
  unfold meG
  have k : okD (.tm o) as = true := by rw [okD_eq, deep_tm]; rfl
  rw [look_tm, k, Bool.and_true]
  split
  · congr 1
  · rfl
theorem q_attrC (d f : Str) (g : Nat) (bs : CE) : ev G (.attr d (.call g bs) f) ro = (ev G (.call g bs) ro).bind fun h ro => atR d f h ro := by conv => lhs; rw [ev]
theorem atR_tm (d f : Str) (o : O) : atR d f (.tm o) ro = onC d (insOf (some o)) (fun ns os => osel (getN ns os f) (fun o => .ok (.tm o) ro) .stuck) .stuck := by
  unfold atR onC insOf
  cases o <;> try rfl
  simp only
  split
  · rename_i c ns os h
    cases getN ns os f <;> rfl
  · rfl
/-! statements at an instance in a slot -/
def staS (d f : Str) (q : Option O) (i : Nat) (y : O) (ro : Ro) : SOut := match q with
  | some (.ins c ns os) => if c = d ∧ ns.length < 1000 then .nx (ro.set i (some (.ins c (putN ns os f y).1 (putN ns os f y).2))) else .stuck
  | _ => .stuck
theorem stA_sl (d f : Str) (i : Nat) (y : O) : stA d f (.sl i []) y ro = staS d f ro[i]?.join i y ro := by
  unfold stA staS
  simp only
  cases h : ro[i]? with
  | none => rfl
  | some q =>
    cases q with
    | none => rfl
    | some t =>
      simp only [O.walk, Option.join_some]
      cases t <;> rfl
def tupOf : PyData → Option (List PyData)
  | .tuple xs => some xs
  | _ => none
theorem tupOf_t (xs : List PyData) : tupOf (.tuple xs) = some xs := Eq.trans rfl rfl
def nxS (r : SOut) (f : Ro → SOut) : SOut := match r with
  | .nx ro => f ro
  | _ => .stuck
theorem nxS_nx (f : Ro → SOut) : nxS (.nx ro) f = f ro := Eq.trans rfl rfl
theorem unA_nil (d : Str) (i : Nat) : unA d i [] [] ro = .nx ro := Eq.trans rfl rfl
theorem unA_cons (d : Str) (i : Nat) (f : Str) (fs : List Str) (x : PyData) (xs : List PyData) : unA d i (f :: fs) (x :: xs) ro = nxS (staS d f ro[i]?.join i (.d x) ro) (fun ro => unA d i fs xs ro) := by
  rw [unA, stA_sl]
  rfl
theorem s_sta' (d f : Str) (o e : CE) : ex G (.sta d o f e) ro = (ev G e ro).then fun h ro => if okD h o = true then (ev G o ro).then fun ho ro => (h.sto ro).then fun y ro => stA d f ho y ro else .stuck := by rw [ex]
theorem s_una' (d : Str) (i : Nat) (fs : List Str) (e : CE) : ex G (.una d i fs e) ro = (ev G e ro).then fun h ro => (h.esc ro).then fun x ro => osel (tupOf x) (fun xs => unA d i fs xs ro) .stuck := by
  rw [ex]; congr 1; funext h ro; congr 1; funext x ro; cases x <;> rfl
theorem s_auga' (d f : Str) (o : CE) (op : Operator) (e : CE) : ex G (.auga d o f op e) ro = (ev G o ro).then fun ho ro => osel (fldS d f ro ho) (fun x => if okD ho e = true then (ev G e ro).then fun h ro => osel (h.lookD ro) (fun y => osel (augO op x y) (fun z => stA d f ho (.d z) ro) .stuck) .stuck else .stuck) .stuck := by
  rw [ex]; congr 1; funext ho ro
  cases fldS d f ro ho <;> try rfl
  simp only [osel]
  split <;> try rfl
  congr 1; funext h ro
  cases h.lookD ro <;> try rfl
  simp only
  cases augO op _ _ <;> rfl
theorem fldS_sl (d f : Str) (i : Nat) : fldS d f ro (.sl i []) = onC d (insOf ro[i]?.join) (fun ns os => (getN ns os f).bind datO) none := by
  unfold fldS onC insOf
  simp only
  have e : Hd.look ro (.sl i []) = ro[i]?.join := look_sl2 ro i
  rw [e]
  cases ro[i]?.join with
  | none => rfl
  | some t =>
    cases t <;> try rfl
    simp only
    split
    · rename_i c ns os h
      cases getN ns os f with
      | none => rfl
      | some o => cases o <;> rfl
    · rfl
theorem q_mv (i : Nat) : ev G (.mv i) ro = osel ro[i]?.join (fun o => .ok (.tm o) (ro.set i none)) .stuck := by
  rw [ev]
  cases ro[i]? with
  | none => rfl
  | some q => cases q <;> rfl
/-- a new instance -/
def newS (d : Str) (r : FOut) (ro : Ro) : Out Hd := match r with
  | .ok (.d .none) (some (.ins c ns os) :: _) => if c = d then .ok (.tm (.ins c ns os)) ro else .stuck
  | _ => .stuck
theorem q_new (d : Str) (f : Nat) (as : CE) : ev G (.new d f as) ro = (evs G as ro).bind fun hs ro => (argsO hs ro).bind fun xs ro => newS d (G.call f (.ins d [] [] :: xs)) ro := by rw [ev]; rfl
/-! pop -/
def popS (q : Option (Option O)) (i : Nat) (ro : Ro) : Out Hd := match q with
  | some (some (.lst os)) => osel os.getLast? (fun o => .ok (.tm o) (ro.set i (some (.lst os.dropLast)))) .stuck
  | _ => .stuck
theorem mth_pop (i : Nat) : mthR .pop i [] [] ro = popS ro[i]? i ro := by
  rw [mthR_eq]
  cases ro[i]? with
  | none => rfl
  | some q =>
    cases q with
    | none => rfl
    | some t =>
      cases t <;> try rfl
      rename_i os
      show osel (some os) _ _ = osel os.getLast? _ _
      simp only [osel_some, mthL]
      cases os.getLast? <;> rfl
end
end Lw

set_option maxRecDepth 100000
/-! PlC: lists within lists. -/
namespace Lw
open PySem L2
section
variable {G : GE} {ro : Ro}
theorem deep_i (i k : Nat) : (Hd.sl i [.i k]).deep = true := Eq.trans rfl rfl
theorem q_at (a b : CE) : ev G (.at_ a b) ro = (ev G a ro).bind fun h1 ro => if okD h1 b = true then (ev G b ro).bind fun h2 ro => itR h1 (h2.lookD ro) ro else .stuck := by rw [ev]
/-- the item k of the list in slot j, on the way -/
def itT (j k : Nat) (o : O) (ro : Ro) : Out Hd := match o with
  | .d x => .ok (.tm (.d x)) ro
  | _ => .ok (.sl j [.i k]) ro
def itS (q : Option O) (i : Option PyData) (j : Nat) (ro : Ro) : Out Hd := match q, i with
  | some (.lst os), some (.int n) => osel (ixD os.length n) (fun k => osel os[k]? (fun o => itT j k o ro) .stuck) .stuck
  | _, _ => .stuck
theorem itR_sl (i : Option PyData) (j : Nat) : itR (.sl j []) i ro = itS ro[j]?.join i j ro := by
  unfold itR itS
  have e : Hd.look ro (.sl j []) = ro[j]?.join := look_sl2 ro j
  simp only [e]
  cases ro[j]?.join with
  | none => rfl
  | some t =>
    cases t <;> try rfl
    rename_i os
    simp only
    cases i with
    | none => rfl
    | some x =>
      cases x <;> try rfl
      rename_i n
      simp only
      cases ixD os.length n with
      | none => rfl
      | some k =>
        simp only [osel]
        cases os[k]? with
        | none => rfl
        | some o => cases o <;> rfl
theorem itS_last (bs : List O) (xs : List PyData) (j : Nat) (h : bs.length ≤ 1000000) : itS (some (.lst (bs ++ [ol xs]))) (some (.int (-1))) j ro = .ok (.sl j [.i bs.length]) ro := by
  have e : ixD (bs ++ [ol xs]).length (-1) = some bs.length := by
    rw [ix_neg _ _ (by omega) (by rw [List.length_append, List.length_singleton]; omega)]
    rw [List.length_append, List.length_singleton]
    congr 1; omega
  show osel (ixD (bs ++ [ol xs]).length (-1)) _ _ = _
  rw [e, osel_some]
  rw [List.getElem?_concat_length]
  rfl
theorem itS_zero (xs : List PyData) (j : Nat) : itS (some (.lst [ol xs])) (some (.int 0)) j ro = .ok (.sl j [.i 0]) ro := by
  unfold itS
  simp only [List.length_singleton]
  rw [show ixD 1 0 = some 0 from by decide]
  rfl
def lkI (q : Option O) (k : Nat) : Option O := match q with
  | some (.lst os) => os[k]?
  | _ => none
theorem look_i (j k : Nat) : (Hd.sl j [.i k]).look ro = lkI ro[j]?.join k := by
  show (match ro[j]? with | some (some o) => O.walk [.i k] o | _ => none) = lkI ro[j]?.join k
  cases ro[j]? with
  | none => rfl
  | some q =>
    cases q with
    | none => rfl
    | some t =>
      cases t with
      | lst os =>
        show (match os[k]? with | some o => some o | none => none) = os[k]?
        cases os[k]? <;> rfl
      | _ => rfl
theorem lkI_last (bs : List O) (xs : List PyData) : lkI (some (.lst (bs ++ [ol xs]))) bs.length = some (ol xs) := by
  show (bs ++ [ol xs])[bs.length]? = _
  rw [List.getElem?_concat_length]
theorem lkI_zero (xs : List PyData) : lkI (some (.lst [ol xs])) 0 = some (ol xs) := Eq.trans rfl rfl
theorem isLst_ol (xs : List PyData) : isLst (some (ol xs)) = true := Eq.trans rfl rfl
def mthH (G : GE) (m : Mt) (as : CE) (h : Hd) (ro : Ro) : Out Hd := match h with
  | .sl i p => if isLst (Hd.look ro (.sl i p)) && okD (.sl i p) as then (evs G as ro).bind fun hs ro => (stos hs ro).bind fun xs ro => mthR m i p xs ro else .stuck
  | _ => .stuck
theorem q_mthA (m : Mt) (a b as : CE) : ev G (.mth m (.at_ a b) as) ro = (ev G (.at_ a b) ro).bind fun h ro => mthH G m as h ro := by
  conv => lhs; rw [ev]
  rfl
theorem mthH_sl (m : Mt) (as : CE) (i : Nat) (p : List Sel) : mthH G m as (.sl i p) ro = if (isLst (Hd.look ro (.sl i p)) && okD (.sl i p) as) = true then (evs G as ro).bind fun hs ro => (stos hs ro).bind fun xs ro => mthR m i p xs ro else .stuck := Eq.trans rfl rfl
def mthI (q : Option O) (m : Mt) (j k : Nat) (ys : List O) (ro : Ro) : Out Hd := match q with
  | some (.lst os) => osel os[k]? (fun o => match o with
    | .lst xs => osel (mthL m xs ys) (fun r => .ok (.tm r.1) (ro.set j (some (.lst (os.set k (.lst r.2)))))) .stuck
    | _ => .stuck) .stuck
  | _ => .stuck
theorem mthR_i (m : Mt) (j k : Nat) (ys : List O) : mthR m j [.i k] ys ro = mthI ro[j]?.join m j k ys ro := by
  unfold mthR mthI
  cases ro[j]? with
  | none => rfl
  | some q =>
    cases q with
    | none => rfl
    | some t =>
      simp only [Option.join_some, O.walk]
      cases t <;> try rfl
      rename_i os
      simp only [O.sel, O.put]
      cases os[k]? with
      | none => rfl
      | some o =>
        cases o <;> try rfl
        rename_i xs
        simp only [osel]
        cases mthL m xs ys with
        | none => rfl
        | some r => rfl
theorem set_last {α : Type} (bs : List α) (x y : α) : (bs ++ [x]).set bs.length y = bs ++ [y] := by simp
theorem app_last (bs : List O) (xs : List PyData) (j : Nat) (y : PyData) (h : xs.length ≤ 1000000) : mthI (some (.lst (bs ++ [ol xs]))) .append j bs.length [.d y] ro = .ok (.tm (.d .none)) (ro.set j (some (.lst (bs ++ [ol (xs ++ [y])])))) := by
  show osel (bs ++ [ol xs])[bs.length]? _ _ = _
  rw [List.getElem?_concat_length, osel_some]
  have e : mthL .append (xs.map .d) [.d y] = some (.d .none, (xs ++ [y]).map .d) := by
    simp only [mthL, List.length_map]
    rw [if_pos (lenOk_of (by omega))]
    simp
  show osel (mthL .append (xs.map .d) [.d y]) _ _ = _
  rw [e, osel_some, set_last]
  rfl
theorem pop_last (bs : List O) (xs : List PyData) (j : Nat) (y : PyData) : mthI (some (.lst (bs ++ [ol (xs ++ [y])]))) .pop j bs.length [] ro = .ok (.tm (.d y)) (ro.set j (some (.lst (bs ++ [ol xs])))) := by
  show osel (bs ++ [ol (xs ++ [y])])[bs.length]? _ _ = _
  rw [List.getElem?_concat_length, osel_some]
  have e : mthL .pop ((xs ++ [y]).map .d) [] = some (.d y, xs.map .d) := by
    simp [mthL]
  show osel (mthL .pop ((xs ++ [y]).map .d) []) _ _ = _
  rw [e, osel_some, set_last]
  rfl
theorem lsel_lst {α : Type} (os : List O) (f z : α) : lsel (some (some (.lst os))) f z = f := Eq.trans rfl rfl
def pushS (q : Option (Option O)) (i : Nat) (o : O) (ro : Ro) : Out Hd := match q with
  | some (some (.lst os)) => if os.length + 1 ≤ 16777216 then .ok (.tm (.d .none)) (ro.set i (some (.lst (os ++ [o])))) else .stuck
  | _ => .stuck
theorem mth_push (i : Nat) (y : List PyData) : mthR .append i [] [ol y] ro = pushS ro[i]? i (ol y) ro := by
  rw [mthR_eq]
  cases ro[i]? with
  | none => rfl
  | some q =>
    cases q with
    | none => rfl
    | some t =>
      cases t <;> try rfl
      rename_i os
      show osel (some os) _ _ = _
      simp only [osel_some, mthL, pushS, lenOk_eq]
      by_cases h : os.length + 1 ≤ 16777216
      · simp only [h, decide_true, if_true, osel_some]
      · simp only [h, decide_false, if_false, Bool.false_eq_true]; rfl
theorem pushS_ok (os : List O) (i : Nat) (o : O) (h : os.length ≤ 1000000) : pushS (some (some (.lst os))) i o ro = .ok (.tm (.d .none)) (ro.set i (some (.lst (os ++ [o])))) := by
  unfold pushS
  simp only
  rw [if_pos (by omega)]
theorem popS_last (bs : List O) (xs : List PyData) (i : Nat) : popS (some (some (.lst (bs ++ [ol xs])))) i ro = .ok (.tm (ol xs)) (ro.set i (some (.lst bs))) := by
  unfold popS
  simp [osel]
theorem getLast_concat (xs : List PyData) (x : PyData) : (xs ++ [x])[xs.length]? = some x := List.getElem?_concat_length ..
end
end Lw

/-! printed by gen.py: the defs of the linked law in compact form -/
namespace Lw.T
open PySem L2 Lw
def top (i : Nat) : Stmt := PySem.Challenge.pw_leadwright_k27_whole_bounds_of_sheets.main.body.getD i (.Pass ⟨0, 0, 0, 0⟩)
def fns : List Str := ["is_whole", "are_widths", "_check", "fewest_sheets", "in_turn", "_bound", "bound_by", "best_bound", "_law_draws", "_law_bound", "_law_matched", "law"]
def blt : List Str := ["abs", "all", "bool", "enumerate", "int", "isinstance", "len", "max", "min", "range", "sorted", "sum", "tuple"]
def gls : List Str := ["MOST_SIZE", "MOST_WIDTHS"]
def exs : List Str := ["BadLeast", "BadSize", "BadWidths"]
def k_Sheets : ClsD := ⟨"Sheets", 12, [("_rows", 13), ("best", 14)], ["_widths", "_size", "_known"]⟩
def cls : List ClsD := [k_Sheets]
def hds : List Str := []
def cc (N : List Str) (st : Stmt) (fx : List Nat) : CC := ⟨N, defScope st, fns, blt, gls, true, none, exs, fx, cls, hds⟩
/-! is_whole -/
def N0 : List Str := ["value", "least", "most"]
abbrev i_is_whole : Nat := 0
def b0 : CS := (.seq (.ret (.and (.isi (.var 0) .int) (.and (.not (.isi (.var 0) .bool)) (.one (.chain .LtE .LtE (.var 1) (.var 0) (.var 2)))))) .nil)
def r0 : FR := ⟨3, 3, b0, []⟩
theorem c0 : chkSs (cc N0 (top 6) []) b0 (defBody (top 6)) = true := by decide +kernel
theorem s0 : FnScope N0 ["value", "least", "most"] (defScope (top 6)) := ⟨rfl, rfl, rfl, by decide +kernel, rfl, by decide +kernel, by decide +kernel⟩
/-! are_widths -/
def N1 : List Str := ["value", "one"]
abbrev i_are_widths : Nat := 1
def e_are_widths_0 : CE := (.comp true [("one", 1)] (.call 0 (.cons (.var 1) (.cons (.int 1) (.cons (.glob "MOST_SIZE") .nil)))) (.var 1) (.seq (.var 0)) .nil)
def b1 : CS := (.seq (.ife (.or (.not (.isi (.var 0) .tuple)) (.one (.not (.chain .LtE .LtE (.int 1) (.prim .len (.cons (.var 0) .nil)) (.glob "MOST_WIDTHS"))))) (.seq (.ret (.bl false)) .nil) .nil) (.seq (.ret (.prim .all (.cons e_are_widths_0 .nil))) .nil))
def r1 : FR := ⟨1, 2, b1, []⟩
theorem c1 : chkSs (cc N1 (top 10) []) b1 (defBody (top 10)) = true := by decide +kernel
theorem s1 : FnScope N1 ["value"] (defScope (top 10)) := ⟨rfl, rfl, rfl, by decide +kernel, rfl, by decide +kernel, by decide +kernel⟩
/-! _check -/
def N2 : List Str := ["widths", "size"]
abbrev i__check : Nat := 2
def b2 : CS := (.seq (.ife (.not (.call 1 (.cons (.var 0) .nil))) (.seq (.rai "BadWidths") .nil) .nil) (.seq (.ife (.or (.not (.call 0 (.cons (.var 1) (.cons (.int 1) (.cons (.glob "MOST_SIZE") .nil))))) (.one (.cmp .Lt (.var 1) (.prim .max (.cons (.var 0) .nil))))) (.seq (.rai "BadSize") .nil) .nil) .nil))
def r2 : FR := ⟨2, 2, b2, []⟩
theorem c2 : chkSs (cc N2 (top 11) []) b2 (defBody (top 11)) = true := by decide +kernel
theorem s2 : FnScope N2 ["widths", "size"] (defScope (top 11)) := ⟨rfl, rfl, rfl, by decide +kernel, rfl, by decide +kernel, by decide +kernel⟩
/-! fewest_sheets -/
def N3 : List Str := ["widths", "size"]
abbrev i_fewest_sheets : Nat := 3
def b3 : CS := (.seq (.exp (.call 2 (.cons (.var 0) (.cons (.var 1) .nil)))) (.seq (.ret (.meth "Sheets" "best" 14 (.new "Sheets" 12 (.cons (.var 0) (.cons (.var 1) .nil))) (.cons (.rgl true (.prim .len (.cons (.var 0) .nil)) .nil) .nil))) .nil))
def r3 : FR := ⟨2, 2, b3, []⟩
theorem c3 : chkSs (cc N3 (top 13) []) b3 (defBody (top 13)) = true := by decide +kernel
theorem s3 : FnScope N3 ["widths", "size"] (defScope (top 13)) := ⟨rfl, rfl, rfl, by decide +kernel, rfl, by decide +kernel, by decide +kernel⟩
/-! in_turn -/
def N4 : List Str := ["widths", "size", "rows", "number", "width", "good", "row", "at", "one"]
abbrev i_in_turn : Nat := 4
def e_in_turn_0 : CE := (.comp false [("row", 6)] (.prim .tuple (.cons (.var 6) .nil)) (.var 6) (.seq (.var 2)) .nil)
def e_in_turn_1 : CE := (.comp true [("one", 8)] (.idx (.var 0) (.var 8)) (.var 8) (.seq (.var 6)) .nil)
def e_in_turn_2 : CE := (.comp true [("at", 7), ("row", 6)] (.var 7) (.tup (.cons (.var 7) (.cons (.var 6) .nil))) (.enum (.cons (.var 2) .nil)) (.cons (.cmp .LtE (.bin .Add (.prim .sum (.cons (.nox e_in_turn_1) .nil)) (.var 4)) (.var 1)) .nil))
def f_in_turn_0 : CS := (.for_ (.tup (.cons (.var 3) (.cons (.var 4) .nil))) (.enum (.cons (.var 0) .nil)) (.seq (.setc 5 (.share 2 e_in_turn_2)) (.seq (.ife (.cmp .Gt (.prim .len (.cons (.var 5) .nil)) (.int 0)) (.seq (.exp (.mth .append (.at_ (.var 2) (.idx (.var 5) (.int 0))) (.cons (.var 3) .nil))) .nil) (.seq (.exp (.mth .append (.var 2) (.cons (.lst (.cons (.var 3) .nil)) .nil))) .nil)) .nil)))
def b4 : CS := (.seq (.exp (.call 2 (.cons (.var 0) (.cons (.var 1) .nil)))) (.seq (.set 2 (.lst .nil)) (.seq f_in_turn_0 (.seq (.ret (.prim .tuple (.cons e_in_turn_0 .nil))) .nil))))
def r4 : FR := ⟨2, 9, b4, []⟩
theorem c4 : chkSs (cc N4 (top 14) []) b4 (defBody (top 14)) = true := by decide +kernel
theorem s4 : FnScope N4 ["widths", "size"] (defScope (top 14)) := ⟨rfl, rfl, rfl, by decide +kernel, rfl, by decide +kernel, by decide +kernel⟩
/-! _bound -/
def N5 : List Str := ["widths", "size", "least", "alone", "wide", "others", "room", "lack", "width"]
abbrev i__bound : Nat := 5
def e__bound_0 : CE := (.comp true [("width", 8)] (.var 8) (.var 8) (.seq (.var 0)) (.cons (.and (.cmp .LtE (.bin .Mult (.int 2) (.var 8)) (.var 1)) (.one (.cmp .GtE (.var 8) (.var 2)))) .nil))
def e__bound_1 : CE := (.comp true [("width", 8)] (.var 8) (.var 8) (.seq (.var 0)) (.cons (.and (.cmp .Gt (.bin .Mult (.int 2) (.var 8)) (.var 1)) (.one (.cmp .LtE (.var 8) (.bin .Sub (.var 1) (.var 2))))) .nil))
def e__bound_2 : CE := (.comp true [("width", 8)] (.var 8) (.var 8) (.seq (.var 0)) (.cons (.and (.cmp .Gt (.bin .Mult (.int 2) (.var 8)) (.var 1)) (.one (.cmp .Gt (.var 8) (.bin .Sub (.var 1) (.var 2))))) .nil))
def b5 : CS := (.seq (.setc 3 e__bound_2) (.seq (.setc 4 e__bound_1) (.seq (.setc 5 e__bound_0) (.seq (.set 6 (.bin .Sub (.bin .Mult (.prim .len (.cons (.var 4) .nil)) (.var 1)) (.prim .sum (.cons (.var 4) .nil)))) (.seq (.set 7 (.prim .max (.cons (.int 0) (.cons (.bin .Sub (.prim .sum (.cons (.var 5) .nil)) (.var 6)) .nil)))) (.seq (.ret (.bin .Add (.bin .Add (.prim .len (.cons (.var 3) .nil)) (.prim .len (.cons (.var 4) .nil))) (.bin .FloorDiv (.bin .Sub (.bin .Add (.var 7) (.var 1)) (.int 1)) (.var 1)))) .nil))))))
def r5 : FR := ⟨3, 9, b5, []⟩
theorem c5 : chkSs (cc N5 (top 15) []) b5 (defBody (top 15)) = true := by decide +kernel
theorem s5 : FnScope N5 ["widths", "size", "least"] (defScope (top 15)) := ⟨rfl, rfl, rfl, by decide +kernel, rfl, by decide +kernel, by decide +kernel⟩
/-! bound_by -/
def N6 : List Str := ["widths", "size", "least"]
abbrev i_bound_by : Nat := 6
def b6 : CS := (.seq (.exp (.call 2 (.cons (.var 0) (.cons (.var 1) .nil)))) (.seq (.ife (.not (.call 0 (.cons (.var 2) (.cons (.int 0) (.cons (.bin .FloorDiv (.var 1) (.int 2)) .nil))))) (.seq (.rai "BadLeast") .nil) .nil) (.seq (.ret (.call 5 (.cons (.var 0) (.cons (.var 1) (.cons (.var 2) .nil))))) .nil)))
def r6 : FR := ⟨3, 3, b6, []⟩
theorem c6 : chkSs (cc N6 (top 16) []) b6 (defBody (top 16)) = true := by decide +kernel
theorem s6 : FnScope N6 ["widths", "size", "least"] (defScope (top 16)) := ⟨rfl, rfl, rfl, by decide +kernel, rfl, by decide +kernel, by decide +kernel⟩
/-! best_bound -/
def N7 : List Str := ["widths", "size", "rows", "least"]
abbrev i_best_bound : Nat := 7
def e_best_bound_0 : CE := (.comp true [("least", 3)] (.tup (.cons (.bin .Sub (.int 0) (.call 5 (.cons (.var 0) (.cons (.var 1) (.cons (.var 3) .nil))))) (.cons (.var 3) .nil))) (.var 3) (.rng (.cons (.bin .Add (.bin .FloorDiv (.var 1) (.int 2)) (.int 1)) .nil)) .nil)
def b7 : CS := (.seq (.exp (.call 2 (.cons (.var 0) (.cons (.var 1) .nil)))) (.seq (.setc 2 e_best_bound_0) (.seq (.ret (.tup (.cons (.bin .Sub (.int 0) (.idx (.prim .min (.cons (.var 2) .nil)) (.int 0))) (.cons (.idx (.prim .min (.cons (.var 2) .nil)) (.int 1)) .nil)))) .nil)))
def r7 : FR := ⟨2, 4, b7, []⟩
theorem c7 : chkSs (cc N7 (top 17) []) b7 (defBody (top 17)) = true := by decide +kernel
theorem s7 : FnScope N7 ["widths", "size"] (defScope (top 17)) := ⟨rfl, rfl, rfl, by decide +kernel, rfl, by decide +kernel, by decide +kernel⟩
/-! _law_draws -/
def N8 : List Str := ["script", "many", "draws", "seed", "cell", "k", "number"]
abbrev i__law_draws : Nat := 8
def f__law_draws_0 : CS := (.for_ (.var 5) (.rng (.cons (.var 1) .nil)) (.seq (.ife (.cmp .Lt (.prim .len (.cons (.var 2) .nil)) (.var 1)) (.seq (.set 3 (.bin .Mod (.prim .int (.cons (.bin .Add (.bin .Add (.bin .Mult (.var 3) (.int 69621)) (.var 5)) (.int 1)) .nil)) (.int 2147483647))) (.seq (.exp (.mth .append (.var 2) (.cons (.bin .Mod (.bin .FloorDiv (.prim .int (.cons (.var 3) .nil)) (.int 7)) (.int 65521)) .nil))) .nil)) .nil) .nil))
def f__law_draws_1 : CS := (.for_ (.var 5) (.rng (.cons (.int 60) .nil)) (.seq (.ife (.cmp .Gt (.var 6) (.int 0)) (.seq (.exp (.mth .append (.var 2) (.cons (.bin .Mod (.prim .int (.cons (.var 6) .nil)) (.int 1009)) .nil))) (.seq (.set 6 (.bin .FloorDiv (.var 6) (.int 1009))) .nil)) .nil) .nil))
def f__law_draws_2 : CS := (.for_ (.var 4) (.seq (.slc (.var 0) .nil (.cons (.int 63) .nil))) (.seq (.set 6 (.prim .abs (.cons (.var 4) .nil))) (.seq (.set 3 (.bin .Mod (.prim .int (.cons (.bin .Add (.bin .Add (.bin .Mult (.var 3) (.int 48271)) (.var 6)) (.int 11)) .nil)) (.int 2147483647))) (.seq (.ife (.cmp .GtE (.var 6) (.bin .Pow (.int 10) (.int 18))) (.seq f__law_draws_1 .nil) (.seq (.exp (.mth .append (.var 2) (.cons (.bin .Mod (.bin .FloorDiv (.prim .int (.cons (.bin .Add (.bin .Mult (.var 3) (.int 16807)) (.int 5)) .nil)) (.int 3)) (.int 65521)) .nil))) .nil)) .nil))))
def b8 : CS := (.seq (.set 2 (.lst .nil)) (.seq (.set 3 (.int 7)) (.seq f__law_draws_2 (.seq f__law_draws_0 (.seq (.ret (.slc (.var 2) .nil (.cons (.var 1) .nil))) .nil)))))
def r8 : FR := ⟨2, 7, b8, []⟩
theorem c8 : chkSs (cc N8 (top 19) []) b8 (defBody (top 19)) = true := by decide +kernel
theorem s8 : FnScope N8 ["script", "many"] (defScope (top 19)) := ⟨rfl, rfl, rfl, by decide +kernel, rfl, by decide +kernel, by decide +kernel⟩
/-! _law_bound -/
def N9 : List Str := ["widths", "size", "least", "width", "alone", "wide", "rest", "room", "lack"]
abbrev i__law_bound : Nat := 9
def w__law_bound_0 : CS := (.whl (.cmp .Gt (.var 8) (.var 7)) (.seq (.par2 6 7 (.cons (.bin .Add (.var 6) (.int 1)) (.cons (.bin .Add (.var 7) (.var 1)) .nil))) .nil))
def f__law_bound_0 : CS := (.for_ (.var 3) (.seq (.var 0)) (.seq (.ife (.cmp .Gt (.bin .Mult (.int 2) (.var 3)) (.var 1)) (.seq (.ife (.cmp .Gt (.bin .Add (.var 3) (.var 2)) (.var 1)) (.seq (.set 4 (.bin .Add (.var 4) (.int 1))) .nil) (.seq (.par2 5 7 (.cons (.bin .Add (.var 5) (.int 1)) (.cons (.bin .Sub (.bin .Add (.var 7) (.var 1)) (.var 3)) .nil))) .nil)) .nil) (.seq (.ife (.cmp .GtE (.var 3) (.var 2)) (.seq (.set 8 (.bin .Add (.var 8) (.var 3))) .nil) .nil) .nil)) .nil))
def b9 : CS := (.seq (.unp (.tup (.cons (.var 4) (.cons (.var 5) (.cons (.var 6) .nil)))) (.tup (.cons (.int 0) (.cons (.int 0) (.cons (.int 0) .nil))))) (.seq (.unp (.tup (.cons (.var 7) (.cons (.var 8) .nil))) (.tup (.cons (.int 0) (.cons (.int 0) .nil)))) (.seq f__law_bound_0 (.seq w__law_bound_0 (.seq (.ret (.bin .Add (.bin .Add (.var 4) (.var 5)) (.var 6))) .nil)))))
def r9 : FR := ⟨3, 9, b9, []⟩
theorem c9 : chkSs (cc N9 (top 20) []) b9 (defBody (top 20)) = true := by decide +kernel
theorem s9 : FnScope N9 ["widths", "size", "least"] (defScope (top 20)) := ⟨rfl, rfl, rfl, by decide +kernel, rfl, by decide +kernel, by decide +kernel⟩
/-! _law_matched -/
def N10 : List Str := ["widths", "size", "known", "rows", "k", "row", "best", "other", "one"]
abbrev i__law_matched : Nat := 10
def e__law_matched_0 : CE := (.comp true [("one", 8)] (.var 8) (.var 8) (.seq (.slc (.var 5) (.cons (.int 1) .nil) .nil)) (.cons (.cmp .NotEq (.var 8) (.var 7)) .nil))
def f__law_matched_0 : CS := (.for_ (.var 7) (.seq (.slc (.var 5) (.cons (.int 1) .nil) .nil)) (.seq (.ife (.cmp .LtE (.bin .Add (.idx (.var 0) (.idx (.var 5) (.int 0))) (.idx (.var 0) (.var 7))) (.var 1)) (.seq (.set 6 (.prim .min (.cons (.var 6) (.cons (.bin .Add (.int 1) (.dget (.var 2) (.prim .tuple (.cons e__law_matched_0 .nil)))) .nil)))) .nil) .nil) .nil))
def f__law_matched_1 : CS := (.for_ (.var 5) (.seq (.slc (.var 3) (.cons (.int 1) .nil) .nil)) (.seq (.set 6 (.bin .Add (.int 1) (.dget (.var 2) (.slc (.var 5) (.cons (.int 1) .nil) .nil)))) (.seq f__law_matched_0 (.seq (.std (.var 2) (.var 5) (.var 6)) .nil))))
def e__law_matched_1 : CE := (.comp true [("row", 5)] (.bin .Add (.var 5) (.tup (.cons (.var 4) .nil))) (.var 5) (.seq (.var 3)) .nil)
def f__law_matched_2 : CS := (.for_ (.var 4) (.rng (.cons (.prim .len (.cons (.var 0) .nil)) .nil)) (.seq (.set 3 (.bin .Add (.var 3) e__law_matched_1)) .nil))
def b10 : CS := (.seq (.set 2 .dnew) (.seq (.std (.var 2) (.tup .nil) (.int 0)) (.seq (.set 3 (.lst (.cons (.tup .nil) .nil))) (.seq f__law_matched_2 (.seq f__law_matched_1 (.seq (.ret (.dget (.var 2) (.rgl true (.prim .len (.cons (.var 0) .nil)) .nil))) .nil))))))
def r10 : FR := ⟨2, 9, b10, []⟩
theorem c10 : chkSs (cc N10 (top 21) []) b10 (defBody (top 21)) = true := by decide +kernel
theorem s10 : FnScope N10 ["widths", "size"] (defScope (top 21)) := ⟨rfl, rfl, rfl, by decide +kernel, rfl, by decide +kernel, by decide +kernel⟩
/-! law -/
def N11 : List Str := ["script", "draws", "turn", "most", "widths", "size", "least", "great", "few", "rows", "due", "told", "k"]
abbrev i_law : Nat := 11
def e_law_0 : CE := (.comp true [("k", 12)] (.bin .Add (.bin .Add (.bin .FloorDiv (.var 5) (.int 3)) (.int 1)) (.bin .Mod (.prim .int (.cons (.idx (.var 1) (.bin .Add (.int 30) (.var 12))) .nil)) (.bin .Sub (.var 5) (.bin .FloorDiv (.var 5) (.int 3))))) (.var 12) (.rng (.cons (.bin .Add (.int 1) (.bin .Mod (.prim .int (.cons (.idx (.var 1) (.bin .Add (.int 40) (.var 2))) .nil)) (.int 8))) .nil)) .nil)
def f_law_0 : CS := (.for_ (.var 6) (.rng (.cons (.bin .Add (.bin .FloorDiv (.var 5) (.int 2)) (.int 1)) .nil)) (.seq (.par2 10 11 (.cons (.call 9 (.cons (.var 4) (.cons (.var 5) (.cons (.var 6) .nil)))) (.cons (.call 6 (.cons (.var 4) (.cons (.var 5) (.cons (.var 6) .nil)))) .nil))) (.seq (.ife (.or (.cmp .NotEq (.var 11) (.var 10)) (.or (.isi (.var 11) .bool) (.one (.cmp .Gt (.var 11) (.var 8))))) (.seq (.ret (.bl false)) .nil) .nil) (.seq (.exp (.mth .append (.var 9) (.cons (.tup (.cons (.bin .Sub (.int 0) (.var 10)) (.cons (.var 6) .nil))) .nil))) .nil))))
def e_law_1 : CE := (.comp true [("k", 12)] (.bin .Add (.int 1) (.bin .Mod (.prim .int (.cons (.idx (.var 1) (.bin .Add (.bin .Mult (.int 8) (.var 2)) (.var 12))) .nil)) (.var 3))) (.var 12) (.rng (.cons (.bin .Add (.int 1) (.bin .Mod (.prim .int (.cons (.idx (.var 1) (.bin .Add (.int 45) (.var 2))) .nil)) (.int 9))) .nil)) .nil)
def f_law_1 : CS := (.for_ (.var 2) (.rng (.cons (.int 6) .nil)) (.seq (.set 3 (.idx (.lst (.cons (.int 10) (.cons (.int 30) (.cons (.int 100) (.cons (.int 12) (.cons (.int 7) (.cons (.int 60) .nil))))))) (.var 2))) (.seq (.set 4 (.prim .tuple (.cons e_law_1 .nil))) (.seq (.set 5 (.prim .min (.cons (.int 100) (.cons (.bin .Add (.prim .max (.cons (.var 4) .nil)) (.bin .Mod (.prim .int (.cons (.idx (.var 1) (.bin .Add (.int 50) (.var 2))) .nil)) (.var 3))) .nil)))) (.seq (.par2 8 9 (.cons (.prim .len (.cons (.call 3 (.cons (.var 4) (.cons (.var 5) .nil))) .nil)) (.cons (.lst .nil) .nil))) (.seq f_law_0 (.seq (.ife (.or (.cmp .NotEq (.call 7 (.cons (.var 4) (.cons (.var 5) .nil))) (.tup (.cons (.bin .Sub (.int 0) (.idx (.prim .min (.cons (.var 9) .nil)) (.int 0))) (.cons (.idx (.prim .min (.cons (.var 9) .nil)) (.int 1)) .nil)))) (.one (.cmp .Lt (.call 6 (.cons (.var 4) (.cons (.var 5) (.cons (.int 0) .nil)))) (.bin .FloorDiv (.bin .Sub (.bin .Add (.prim .sum (.cons (.var 4) .nil)) (.var 5)) (.int 1)) (.var 5))))) (.seq (.ret (.bl false)) .nil) .nil) (.seq (.ife (.or (.cmp .Lt (.prim .len (.cons (.call 4 (.cons (.var 4) (.cons (.var 5) .nil))) .nil)) (.var 8)) (.one (.cmp .Lt (.bin .Mult (.int 2) (.prim .sum (.cons (.var 4) .nil))) (.bin .Mult (.var 5) (.bin .Sub (.prim .len (.cons (.call 4 (.cons (.var 4) (.cons (.var 5) .nil))) .nil)) (.int 1)))))) (.seq (.ret (.bl false)) .nil) .nil) (.seq (.set 7 (.prim .tuple (.cons e_law_0 .nil))) (.seq (.ife (.and (.cmp .LtE (.prim .max (.cons (.var 7) .nil)) (.var 5)) (.one (.cmp .NotEq (.prim .len (.cons (.call 3 (.cons (.var 7) (.cons (.var 5) .nil))) .nil)) (.call 10 (.cons (.var 7) (.cons (.var 5) .nil)))))) (.seq (.ret (.bl false)) .nil) .nil) .nil))))))))))
def b11 : CS := (.seq (.set 1 (.call 8 (.cons (.var 0) (.cons (.int 60) .nil)))) (.seq f_law_1 (.seq (.ret (.and (.cmp .Eq (.call 6 (.cons (.tup (.cons (.int 6) (.cons (.int 5) (.cons (.int 4) (.cons (.int 3) (.cons (.int 2) .nil)))))) (.cons (.int 10) (.cons (.int 0) .nil)))) (.int 2)) (.and (.cmp .Eq (.call 7 (.cons (.tup (.cons (.int 6) (.cons (.int 6) (.cons (.int 6) .nil)))) (.cons (.int 10) .nil))) (.tup (.cons (.int 3) (.cons (.int 0) .nil)))) (.and (.cmp .Eq (.call 7 (.cons (.tup (.cons (.int 5) (.cons (.int 5) (.cons (.int 5) .nil)))) (.cons (.int 10) .nil))) (.tup (.cons (.int 2) (.cons (.int 0) .nil)))) (.one (.cmp .Eq (.call 7 (.cons (.tup (.cons (.int 7) (.cons (.int 4) (.cons (.int 4) .nil)))) (.cons (.int 10) .nil))) (.tup (.cons (.int 2) (.cons (.int 0) .nil))))))))) .nil)))
def r11 : FR := ⟨1, 13, b11, []⟩
theorem c11 : chkSs (cc N11 (top 22) []) b11 (defBody (top 22)) = true := by decide +kernel
theorem s11 : FnScope N11 ["script"] (defScope (top 22)) := ⟨rfl, rfl, rfl, by decide +kernel, rfl, by decide +kernel, by decide +kernel⟩
/-! Sheets___init__ -/
def N12 : List Str := ["self", "widths", "size"]
abbrev i_Sheets___init__ : Nat := 12
def b12 : CS := (.seq (.sta "Sheets" (.var 0) "_widths" (.var 1)) (.seq (.sta "Sheets" (.var 0) "_size" (.var 2)) (.seq (.sta "Sheets" (.var 0) "_known" (.done (.tup .nil) (.tup .nil))) .nil)))
def r12 : FR := ⟨3, 3, b12, [0]⟩
theorem c12 : chkSs (cc N12 (inClass (top 12) 0) [0]) b12 (defBody (inClass (top 12) 0)) = true := by decide +kernel
theorem s12 : FnScope N12 ["self", "widths", "size"] (defScope (inClass (top 12) 0)) := ⟨rfl, rfl, rfl, by decide +kernel, rfl, by decide +kernel, by decide +kernel⟩
/-! Sheets__rows -/
def N13 : List Str := ["self", "left", "rows", "number", "longer", "row", "one"]
abbrev i_Sheets__rows : Nat := 13
def e_Sheets__rows_0 : CE := (.comp true [("one", 6)] (.idx (.attr "Sheets" (.var 0) "_widths") (.var 6)) (.var 6) (.seq (.var 5)) .nil)
def e_Sheets__rows_1 : CE := (.comp true [("row", 5)] (.var 5) (.var 5) (.seq (.var 4)) (.cons (.cmp .LtE (.prim .sum (.cons (.nox e_Sheets__rows_0) .nil)) (.attr "Sheets" (.var 0) "_size")) .nil))
def e_Sheets__rows_2 : CE := (.comp true [("row", 5)] (.bin .Add (.var 5) (.tup (.cons (.var 3) .nil))) (.var 5) (.seq (.var 2)) .nil)
def f_Sheets__rows_0 : CS := (.for_ (.var 3) (.seq (.slc (.var 1) (.cons (.int 1) .nil) .nil)) (.seq (.setc 4 e_Sheets__rows_2) (.seq (.exp (.mth .extend (.var 2) (.cons e_Sheets__rows_1 .nil))) .nil)))
def b13 : CS := (.seq (.set 2 (.lst (.cons (.tup (.cons (.idx (.var 1) (.int 0)) .nil)) .nil))) (.seq f_Sheets__rows_0 (.seq (.ret (.prim .sorted (.cons (.var 2) .nil))) .nil)))
def r13 : FR := ⟨2, 7, b13, [0]⟩
theorem c13 : chkSs (cc N13 (inClass (top 12) 1) [0]) b13 (defBody (inClass (top 12) 1)) = true := by decide +kernel
theorem s13 : FnScope N13 ["self", "left"] (defScope (inClass (top 12) 1)) := ⟨rfl, rfl, rfl, by decide +kernel, rfl, by decide +kernel, by decide +kernel⟩
/-! Sheets_best -/
def N14 : List Str := ["self", "left", "found", "row", "rest", "one"]
abbrev i_Sheets_best : Nat := 14
def e_Sheets_best_0 : CE := (.comp true [("one", 5)] (.var 5) (.var 5) (.seq (.var 1)) (.cons (.cmp .NotIn (.var 5) (.var 3)) .nil))
def f_Sheets_best_0 : CS := (.for_ (.var 3) (.seq (.meth "Sheets" "_rows" 13 (.var 0) (.cons (.var 1) .nil))) (.seq (.set 4 (.meth "Sheets" "best" 14 (.var 0) (.cons (.prim .tuple (.cons e_Sheets_best_0 .nil)) .nil))) (.seq (.ife (.or (.cmp .Is (.var 2) .non) (.one (.cmp .Lt (.bin .Add (.int 1) (.prim .len (.cons (.var 4) .nil))) (.prim .len (.cons (.var 2) .nil))))) (.seq (.set 2 (.bin .Add (.tup (.cons (.var 3) .nil)) (.var 4))) .nil) .nil) .nil)))
def b14 : CS := (.seq (.ife (.din true (.var 1) (.attr "Sheets" (.var 0) "_known")) (.seq (.set 2 .non) (.seq f_Sheets_best_0 (.seq (.std (.attr "Sheets" (.var 0) "_known") (.var 1) (.var 2)) .nil))) .nil) (.seq (.ret (.dget (.attr "Sheets" (.var 0) "_known") (.var 1))) .nil))
def r14 : FR := ⟨2, 6, b14, [0]⟩
theorem c14 : chkSs (cc N14 (inClass (top 12) 2) [0]) b14 (defBody (inClass (top 12) 2)) = true := by decide +kernel
theorem s14 : FnScope N14 ["self", "left"] (defScope (inClass (top 12) 2)) := ⟨rfl, rfl, rfl, by decide +kernel, rfl, by decide +kernel, by decide +kernel⟩
def glob (x : Str) : Option PyData := if x = "MOST_SIZE" then some (.int 100) else if x = "MOST_WIDTHS" then some (.int 9) else none
def exm (x y : Str) : Option Bool := if exs.contains x && (exs.contains y || hds.contains y) then some (x == y) else none
theorem exm_of {x y : Str} {b : Bool} (h : exm x y = some b) : x ∈ exs ∧ (y ∈ exs ∨ y ∈ hds) ∧ b = (x == y) := by
  unfold exm at h
  split at h
  · rename_i c
    rw [Bool.and_eq_true, Bool.or_eq_true] at c
    exact ⟨by simpa using c.1, by simpa using c.2, (Option.some.inj h).symm⟩
  · cases h
def base : Base := ⟨[r0, r1, r2, r3, r4, r5, r6, r7, r8, r9, r10, r11, r12, r13, r14], glob, 2 ^ 4096, exm⟩
theorem t_is_whole : base.tbl[0]? = some r0 := rfl
theorem t_are_widths : base.tbl[1]? = some r1 := rfl
theorem t__check : base.tbl[2]? = some r2 := rfl
theorem t_fewest_sheets : base.tbl[3]? = some r3 := rfl
theorem t_in_turn : base.tbl[4]? = some r4 := rfl
theorem t__bound : base.tbl[5]? = some r5 := rfl
theorem t_bound_by : base.tbl[6]? = some r6 := rfl
theorem t_best_bound : base.tbl[7]? = some r7 := rfl
theorem t__law_draws : base.tbl[8]? = some r8 := rfl
theorem t__law_bound : base.tbl[9]? = some r9 := rfl
theorem t__law_matched : base.tbl[10]? = some r10 := rfl
theorem t_law : base.tbl[11]? = some r11 := rfl
theorem t_Sheets___init__ : base.tbl[12]? = some r12 := rfl
theorem t_Sheets__rows : base.tbl[13]? = some r13 := rfl
theorem t_Sheets_best : base.tbl[14]? = some r14 := rfl
theorem base_wf : base.wf = 2 ^ 4096 := rfl
theorem exm_BadLeast_BadLeast : base.exm "BadLeast" "BadLeast" = some true := by decide +kernel
theorem exm_BadLeast_BadSize : base.exm "BadLeast" "BadSize" = some false := by decide +kernel
theorem exm_BadLeast_BadWidths : base.exm "BadLeast" "BadWidths" = some false := by decide +kernel
theorem exm_BadSize_BadLeast : base.exm "BadSize" "BadLeast" = some false := by decide +kernel
theorem exm_BadSize_BadSize : base.exm "BadSize" "BadSize" = some true := by decide +kernel
theorem exm_BadSize_BadWidths : base.exm "BadSize" "BadWidths" = some false := by decide +kernel
theorem exm_BadWidths_BadLeast : base.exm "BadWidths" "BadLeast" = some false := by decide +kernel
theorem exm_BadWidths_BadSize : base.exm "BadWidths" "BadSize" = some false := by decide +kernel
theorem exm_BadWidths_BadWidths : base.exm "BadWidths" "BadWidths" = some true := by decide +kernel
theorem gl_MOST_SIZE : base.glob "MOST_SIZE" = some (.int 100) := by first | rfl | simp [base, glob]
theorem gl_MOST_WIDTHS : base.glob "MOST_WIDTHS" = some (.int 9) := by first | rfl | simp [base, glob]
end Lw.T

namespace Lw.T
open PySem L2 Lw
open Lw.EncL (lt)
/-! sheets: the first of the fewest -/
abbrev Bk := Tu Int
def wt (L : List Int) (i : Int) : Int := L.getD i.toNat 0
def bsum (L : List Int) (b : Bk) : Int := (b.l.map (wt L)).sum
def rowsF (L : List Int) (s : Int) : List Bk → List Int → List Bk
  | rows, [] => rows
  | rows, x :: xs => rowsF L s (rows ++ ((rows.map fun r => (⟨r.l ++ [x]⟩ : Bk)).filter fun r => decide (bsum L r ≤ s))) xs
def rows0 (L : List Int) (s a : Int) (rest : List Int) : List Bk := rowsF L s [⟨[a]⟩] rest
def outB (left : List Int) (r : Bk) : List Int := left.filter fun x => decide (x ∉ r.l)
def bstep (B : List Int → List Bk) (left : List Int) (found : Option (List Bk)) (r : Bk) : Option (List Bk) := match found with
  | none => some (r :: B (outB left r))
  | some q => if (B (outB left r)).length + 1 < q.length then some (r :: B (outB left r)) else some q
def bst (L : List Int) (s : Int) : Nat → List Int → List Bk
  | 0, _ => []
  | _ + 1, [] => []
  | f + 1, a :: rest => ((isort (rows0 L s a rest)).foldl (bstep (bst L s f) (a :: rest)) none).getD []
abbrev Up (xs : List Int) : Prop := xs.Pairwise (· < ·)
def hd (b : Bk) : Int := b.l.headD 0
def fl (P : List Bk) : List Int := (P.map fun b => b.l).flatten
structure CP (L : List Int) (s : Int) (left : List Int) (P : List Bk) : Prop where
  asc : ∀ b ∈ P, b.l ≠ [] ∧ Up b.l
  fst : Up (P.map hd)
  nd : (fl P).Nodup
  mem : ∀ x, x ∈ fl P ↔ x ∈ left
  sum : ∀ b ∈ P, bsum L b ≤ s
theorem fl_cons (b : Bk) (P : List Bk) : fl (b :: P) = b.l ++ fl P := by unfold fl; simp
theorem fl_app (P Q : List Bk) : fl (P ++ Q) = fl P ++ fl Q := by unfold fl; simp
theorem mem_fl {x : Int} {P : List Bk} : x ∈ fl P ↔ ∃ b ∈ P, x ∈ b.l := by
  unfold fl
  simp only [List.mem_flatten, List.mem_map]
  constructor
  · rintro ⟨l, ⟨b, hb, rfl⟩, hx⟩; exact ⟨b, hb, hx⟩
  · rintro ⟨b, hb, hx⟩; exact ⟨_, ⟨b, hb, rfl⟩, hx⟩
theorem up_sublist : ∀ {ys xs : List Int}, Up xs → Up ys → (∀ x ∈ xs, x ∈ ys) → xs.Sublist ys
  | [], xs, h1, h2, h => by
    cases xs with
    | nil => exact .slnil
    | cons a as => exact absurd (h a List.mem_cons_self) (by simp)
  | y :: ys, xs, h1, h2, h => by
    cases xs with
    | nil => exact List.nil_sublist _
    | cons a as =>
      have q1 := List.pairwise_cons.mp h1
      have q2 := List.pairwise_cons.mp h2
      by_cases e : a = y
      · subst e
        refine (up_sublist q1.2 q2.2 fun x hx => ?_).cons₂ a
        have := q1.1 x hx
        rcases List.mem_cons.mp (h x (List.mem_cons_of_mem _ hx)) with z | z
        · omega
        · exact z
      · refine (up_sublist h1 q2.2 fun x hx => ?_).cons y
        rcases List.mem_cons.mp (h x hx) with z | z
        · subst z
          exfalso
          rcases List.mem_cons.mp (h a List.mem_cons_self) with w | w
          · exact e w
          · have := q2.1 a w
            rcases List.mem_cons.mp hx with v | v
            · exact e v.symm
            · have := q1.1 x v; omega
        · exact z
theorem wsum_nonneg {L : List Int} : ∀ {t : List Int}, (∀ i ∈ t, 0 ≤ wt L i) → 0 ≤ (t.map (wt L)).sum
  | [], _ => by simp
  | a :: t, h => by
    have h1 := h a List.mem_cons_self
    have h2 := wsum_nonneg (t := t) fun i hi => h i (List.mem_cons_of_mem _ hi)
    rw [List.map_cons, List.sum_cons]; omega
theorem rowsF_sound {L : List Int} {s : Int} : ∀ {xs : List Int} {rows : List Bk} {r : Bk}, r ∈ rowsF L s rows xs → ∃ r0 ∈ rows, ∃ t, t.Sublist xs ∧ r.l = r0.l ++ t ∧ (t = [] ∨ bsum L r ≤ s)
  | [], rows, r, h => ⟨r, h, [], .slnil, by simp, .inl rfl⟩
  | x :: xs, rows, r, h => by
    obtain ⟨r0, h0, t, ht, e, hs⟩ := rowsF_sound (xs := xs) h
    rcases List.mem_append.mp h0 with h0 | h0
    · exact ⟨r0, h0, t, ht.cons x, e, hs⟩
    · obtain ⟨h1, h2⟩ := List.mem_filter.mp h0
      obtain ⟨r1, k1, rfl⟩ := List.mem_map.mp h1
      refine ⟨r1, k1, x :: t, ht.cons₂ x, by rw [e]; simp, .inr ?_⟩
      rcases hs with rfl | hs
      · have er : r = (⟨r1.l ++ [x]⟩ : Bk) := Tu.ext' (by rw [e]; simp)
        rw [er]
        simpa using h2
      · exact hs
theorem rowsF_keep {L : List Int} {s : Int} : ∀ {xs : List Int} {rows : List Bk} {r : Bk}, r ∈ rows → r ∈ rowsF L s rows xs
  | [], _, _, h => h
  | x :: xs, rows, r, h => rowsF_keep (xs := xs) (List.mem_append_left _ h)
theorem rowsF_full {L : List Int} {s : Int} : ∀ {xs : List Int} {rows : List Bk} {r0 : Bk} {t : List Int}, r0 ∈ rows → t.Sublist xs → (∀ i ∈ xs, 0 ≤ wt L i) → (t = [] ∨ bsum L ⟨r0.l ++ t⟩ ≤ s) → (⟨r0.l ++ t⟩ : Bk) ∈ rowsF L s rows xs
  | [], rows, r0, t, h0, ht, hw, hs => by
    cases ht
    rw [List.append_nil]
    exact h0
  | x :: xs, rows, r0, t, h0, ht, hw, hs => by
    cases ht with
    | cons _ ht => exact rowsF_full (xs := xs) (List.mem_append_left _ h0) ht (fun i hi => hw i (List.mem_cons_of_mem _ hi)) hs
    | @cons_cons t' _ _ ht =>
      have hs : bsum L ⟨r0.l ++ x :: t'⟩ ≤ s := hs.resolve_left (by simp)
      have nn : 0 ≤ (t'.map (wt L)).sum := wsum_nonneg fun i hi => hw i (List.mem_cons_of_mem _ (ht.subset hi))
      have e1 : bsum L ⟨r0.l ++ x :: t'⟩ = bsum L ⟨r0.l ++ [x]⟩ + (t'.map (wt L)).sum := by
        unfold bsum
        simp only [List.map_append, List.map_cons, List.map_nil, List.sum_append, List.sum_cons, List.sum_nil]
        omega
      have k : (⟨r0.l ++ [x]⟩ : Bk) ∈ rows ++ ((rows.map fun r => (⟨r.l ++ [x]⟩ : Bk)).filter fun r => decide (bsum L r ≤ s)) :=
        List.mem_append_right _ (List.mem_filter.mpr ⟨List.mem_map.mpr ⟨r0, h0, rfl⟩, by simp; omega⟩)
      have e2 : (⟨r0.l ++ x :: t'⟩ : Bk) = ⟨(⟨r0.l ++ [x]⟩ : Bk).l ++ t'⟩ := by simp
      rw [e2]
      exact rowsF_full (xs := xs) k ht (fun i hi => hw i (List.mem_cons_of_mem _ hi)) (.inr (by rw [← e2]; exact hs))
/-- the first block has the least number -/
theorem CP.first {L : List Int} {s a : Int} {rest : List Int} {P : List Bk} (hu : Up (a :: rest)) (h : CP L s (a :: rest) P) :
    ∃ t P', P = ⟨a :: t⟩ :: P' ∧ t.Sublist rest ∧ bsum L ⟨a :: t⟩ ≤ s ∧ CP L s (outB (a :: rest) ⟨a :: t⟩) P' := by
  have q := List.pairwise_cons.mp hu
  cases P with
  | nil => exact absurd ((h.mem a).mpr List.mem_cons_self) (by simp [fl])
  | cons b P' =>
    obtain ⟨bn, bu⟩ := h.asc b List.mem_cons_self
    obtain ⟨bl⟩ := b
    cases bl with
    | nil => exact absurd rfl bn
    | cons x t =>
      have hx : x ∈ a :: rest := (h.mem x).mp (by rw [fl_cons]; simp)
      have ax : a ≤ x := by
        rcases List.mem_cons.mp hx with z | z
        · omega
        · have := q.1 x z; omega
      have fq := List.pairwise_cons.mp (show Up (hd (⟨x :: t⟩ : Bk) :: P'.map hd) from h.fst)
      obtain ⟨b', hb', hab⟩ := mem_fl.mp ((h.mem a).mpr List.mem_cons_self)
      obtain ⟨bn', bu'⟩ := h.asc b' hb'
      have xa : x ≤ a := by
        obtain ⟨bl'⟩ := b'
        cases bl' with
        | nil => exact absurd rfl bn'
        | cons y t' =>
          have ya : y ≤ a := by
            rcases List.mem_cons.mp hab with z | z
            · omega
            · have := (List.pairwise_cons.mp bu').1 a z; omega
          rcases List.mem_cons.mp hb' with z | z
          · cases z; exact ya
          · have := fq.1 y (List.mem_map.mpr ⟨_, z, rfl⟩)
            change x < y at this
            omega
      have e : x = a := by omega
      subst e
      have nd := h.nd
      rw [fl_cons] at nd
      have nd' := List.nodup_append.mp nd
      have bt := List.pairwise_cons.mp bu
      refine ⟨t, P', rfl, up_sublist bt.2 q.2 fun y hy => ?_, h.sum _ List.mem_cons_self, fun b hb => h.asc b (List.mem_cons_of_mem _ hb), fq.2, nd'.2.1, fun y => ?_, fun b hb => h.sum b (List.mem_cons_of_mem _ hb)⟩
      · have := (h.mem y).mp (by rw [fl_cons]; exact List.mem_append_left _ (List.mem_cons_of_mem _ hy))
        rcases List.mem_cons.mp this with z | z
        · have := bt.1 y hy; omega
        · exact z
      · unfold outB
        rw [List.mem_filter, ← h.mem y, fl_cons, List.mem_append, decide_eq_true_eq]
        constructor
        · intro hy
          exact ⟨.inr hy, fun z => nd'.2.2 y z y hy rfl⟩
        · rintro ⟨z | z, n⟩
          · exact absurd z n
          · exact z
theorem CP.build {L : List Int} {s a : Int} {rest t : List Int} {P' : List Bk} (hu : Up (a :: rest)) (ht : t.Sublist rest) (hs : bsum L ⟨a :: t⟩ ≤ s) (h : CP L s (outB (a :: rest) ⟨a :: t⟩) P') : CP L s (a :: rest) (⟨a :: t⟩ :: P') := by
  have q := List.pairwise_cons.mp hu
  have ut : Up (a :: t) := List.Pairwise.sublist (ht.cons₂ a) hu
  have out : ∀ y ∈ fl P', y ∈ a :: rest ∧ y ∉ a :: t := fun y hy => by
    have := (h.mem y).mp hy
    unfold outB at this
    simpa using List.mem_filter.mp this
  refine ⟨fun b hb => ?_, ?_, ?_, fun y => ?_, fun b hb => ?_⟩
  · rcases List.mem_cons.mp hb with rfl | hb
    · exact ⟨by simp, ut⟩
    · exact h.asc b hb
  · rw [List.map_cons]
    refine List.pairwise_cons.mpr ⟨fun y hy => ?_, h.fst⟩
    obtain ⟨b, hb, rfl⟩ := List.mem_map.mp hy
    obtain ⟨bn, bu⟩ := h.asc b hb
    obtain ⟨bl⟩ := b
    cases bl with
    | nil => exact absurd rfl bn
    | cons z zs =>
      have := out z (mem_fl.mpr ⟨_, hb, List.mem_cons_self⟩)
      show a < z
      rcases List.mem_cons.mp this.1 with w | w
      · exact absurd (w ▸ List.mem_cons_self) this.2
      · exact q.1 z w
  · rw [fl_cons]
    refine List.nodup_append.mpr ⟨ut.imp fun h => by omega, h.nd, fun x hx y hy e => ?_⟩
    subst e
    exact (out x hy).2 hx
  · rw [fl_cons, List.mem_append]
    constructor
    · rintro (z | z)
      · exact (ht.cons₂ a).subset z
      · exact (out y z).1
    · intro z
      by_cases e : y ∈ a :: t
      · exact .inl e
      · refine .inr ((h.mem y).mpr ?_)
        unfold outB
        rw [List.mem_filter]
        exact ⟨z, by simpa using e⟩
  · rcases List.mem_cons.mp hb with rfl | hb
    · exact hs
    · exact h.sum b hb
theorem up_out {left : List Int} (h : Up left) (r : Bk) : Up (outB left r) := List.Pairwise.sublist List.filter_sublist h
theorem out_lt {left : List Int} {r : Bk} {a : Int} (h1 : a ∈ left) (h2 : a ∈ r.l) : (outB left r).length < left.length := by
  unfold outB
  rcases Nat.lt_or_ge (left.filter fun x => decide (x ∉ r.l)).length left.length with h | h
  · exact h
  · exfalso
    have e := List.length_filter_eq_length_iff.mp (Nat.le_antisymm (List.length_filter_le _ _) h) a h1
    simp [h2] at e
/-- the first of the shortest, over sorted rows -/
theorem bstep_fold (B : List Int → List Bk) (left : List Int) : ∀ (post pre : List Bk) (st : Option (List Bk)), Asc (pre ++ post) →
    (pre = [] ∧ st = none ∨ ∃ r0 ∈ pre, st = some (r0 :: B (outB left r0)) ∧ ∀ r ∈ pre, (B (outB left r0)).length ≤ (B (outB left r)).length ∧ ((B (outB left r)).length = (B (outB left r0)).length → lt r r0 = false)) →
    (pre ++ post = [] ∧ post.foldl (bstep B left) st = none ∨ ∃ r0 ∈ pre ++ post, post.foldl (bstep B left) st = some (r0 :: B (outB left r0)) ∧ ∀ r ∈ pre ++ post, (B (outB left r0)).length ≤ (B (outB left r)).length ∧ ((B (outB left r)).length = (B (outB left r0)).length → lt r r0 = false)) := by
  intro post
  induction post with
  | nil =>
    intro pre st _ h
    rw [List.append_nil]
    exact h
  | cons x post ih =>
    intro pre st ha h
    rw [List.foldl_cons]
    have e : pre ++ x :: post = (pre ++ [x]) ++ post := by simp
    rw [e] at ha ⊢
    refine ih (pre ++ [x]) _ ha (.inr ?_)
    have ax : ∀ p ∈ pre, lt x p = false := fun p hp => by
      have := (List.pairwise_append.mp (List.pairwise_append.mp ha).1).2.2 p hp x (by simp)
      exact this
    have irr : lt x x = false := Lw.EncL.irr x
    rcases h with ⟨rfl, rfl⟩ | ⟨r0, h0, rfl, hr⟩
    · refine ⟨x, by simp, rfl, fun r hr => ?_⟩
      have : r = x := by simpa using hr
      subst this
      exact ⟨Nat.le_refl _, fun _ => irr⟩
    · unfold bstep
      simp only [List.length_cons]
      split
      · rename_i k
        refine ⟨x, by simp, rfl, fun r hr' => ?_⟩
        rcases List.mem_append.mp hr' with z | z
        · have := (hr r z).1
          exact ⟨by omega, fun e => by omega⟩
        · have : r = x := by simpa using z
          subst this
          exact ⟨Nat.le_refl _, fun _ => irr⟩
      · rename_i k
        refine ⟨r0, List.mem_append_left _ h0, rfl, fun r hr' => ?_⟩
        rcases List.mem_append.mp hr' with z | z
        · exact hr r z
        · have : r = x := by simpa using z
          subst this
          exact ⟨by omega, fun _ => ax r0 h0⟩
theorem bst_best (L : List Int) (s : Int) : ∀ (f : Nat) (left : List Int), left.length ≤ f → Up left → (∀ i ∈ left, 0 ≤ wt L i ∧ wt L i ≤ s) →
    CP L s left (bst L s f left) ∧ ∀ P, CP L s left P → (bst L s f left).length ≤ P.length ∧ (P.length = (bst L s f left).length → ltL P (bst L s f left) = false) := by
  intro f
  induction f with
  | zero =>
    intro left hl hu hw
    have : left = [] := List.eq_nil_of_length_eq_zero (by omega)
    subst this
    refine ⟨⟨fun _ z => (nomatch z), List.Pairwise.nil, List.nodup_nil, fun x => (by simp [fl, bst]), fun _ z => (nomatch z)⟩, fun P hP => ?_⟩
    cases P with
    | nil => exact ⟨Nat.le_refl _, fun _ => rfl⟩
    | cons b P =>
      obtain ⟨bn, _⟩ := hP.asc b List.mem_cons_self
      obtain ⟨x, hx⟩ := List.exists_mem_of_ne_nil _ bn
      exact absurd ((hP.mem x).mp (mem_fl.mpr ⟨b, List.mem_cons_self, hx⟩)) (by simp)
  | succ f ih =>
    intro left hl hu hw
    cases left with
    | nil =>
      refine ⟨⟨fun _ z => (nomatch z), List.Pairwise.nil, List.nodup_nil, fun x => (by simp [fl, bst]), fun _ z => (nomatch z)⟩, fun P hP => ?_⟩
      cases P with
      | nil => exact ⟨Nat.le_refl _, fun _ => rfl⟩
      | cons b P =>
        obtain ⟨bn, _⟩ := hP.asc b List.mem_cons_self
        obtain ⟨x, hx⟩ := List.exists_mem_of_ne_nil _ bn
        exact absurd ((hP.mem x).mp (mem_fl.mpr ⟨b, List.mem_cons_self, hx⟩)) (by simp)
    | cons a rest =>
      have wa := hw a List.mem_cons_self
      have inr : ∀ r ∈ isort (rows0 L s a rest), ∃ t, r = ⟨a :: t⟩ ∧ t.Sublist rest ∧ bsum L ⟨a :: t⟩ ≤ s := fun r hr => by
        obtain ⟨r0, h0, t, ht, e, hs⟩ := rowsF_sound (isort_mem.mp hr)
        have : r0 = ⟨[a]⟩ := by simpa using h0
        subst this
        have er : r = ⟨a :: t⟩ := Tu.ext' (by rw [e]; rfl)
        subst er
        refine ⟨t, rfl, ht, ?_⟩
        rcases hs with rfl | hs
        · show (([a] : List Int).map (wt L)).sum ≤ s
          simp; omega
        · exact hs
      have ofr : ∀ t, t.Sublist rest → bsum L ⟨a :: t⟩ ≤ s → (⟨a :: t⟩ : Bk) ∈ isort (rows0 L s a rest) := fun t ht hs =>
        isort_mem.mpr (rowsF_full (r0 := ⟨[a]⟩) (t := t) (by simp) ht (fun i hi => (hw i (List.mem_cons_of_mem _ hi)).1) (.inr hs))
      have ne : (⟨[a]⟩ : Bk) ∈ isort (rows0 L s a rest) := isort_mem.mpr (rowsF_keep (by simp))
      have F := bstep_fold (bst L s f) (a :: rest) (isort (rows0 L s a rest)) [] none (isort_asc _) (.inl ⟨rfl, rfl⟩)
      rcases F with ⟨e, _⟩ | ⟨r0, h0, e, hr⟩
      · rw [List.nil_append] at e
        rw [e] at ne
        cases ne
      · rw [List.nil_append] at h0 hr
        have eb : bst L s (f + 1) (a :: rest) = r0 :: bst L s f (outB (a :: rest) r0) := by
          show (List.foldl _ none (isort (rows0 L s a rest))).getD [] = _
          rw [e]; rfl
        rw [eb]
        have sub : ∀ t, t.Sublist rest → (outB (a :: rest) ⟨a :: t⟩).length ≤ f ∧ Up (outB (a :: rest) ⟨a :: t⟩) ∧ ∀ i ∈ outB (a :: rest) ⟨a :: t⟩, 0 ≤ wt L i ∧ wt L i ≤ s := fun t ht => by
          have := out_lt (left := a :: rest) (r := ⟨a :: t⟩) (a := a) List.mem_cons_self List.mem_cons_self
          exact ⟨by simp only [List.length_cons] at hl this; omega, up_out hu _, fun i hi => hw i (List.mem_filter.mp hi).1⟩
        obtain ⟨t0, rfl, ht0, hs0⟩ := inr r0 h0
        obtain ⟨c1, c2, c3⟩ := sub t0 ht0
        have I0 := ih _ c1 c2 c3
        refine ⟨I0.1.build hu ht0 hs0, fun P hP => ?_⟩
        obtain ⟨t, P', rfl, ht, hs, hP'⟩ := hP.first hu
        obtain ⟨d1, d2, d3⟩ := sub t ht
        have I1 := (ih _ d1 d2 d3).2 P' hP'
        have R := hr _ (ofr t ht hs)
        simp only [List.length_cons]
        refine ⟨by omega, fun el => ?_⟩
        have l1 := R.2 (by omega)
        by_cases eq : t = t0
        · subst eq
          rw [ltL]
          have := I1.2 (by omega)
          rw [this, l1]
          simp
        · rw [ltL]
          have l2 : lt (⟨a :: t0⟩ : Bk) ⟨a :: t⟩ = true := by
            cases k : lt (⟨a :: t0⟩ : Bk) ⟨a :: t⟩ with
            | true => rfl
            | false =>
              have := Lw.EncL.tot l1 k
              injection this with this
              injection this with _ this
              exact absurd this eq
          rw [l1, l2]
          rfl

/-! all ways; laying in turn; the bound -/
def idx (k : Nat) : List Int := (List.range k).map fun (i : Nat) => (i : Int)
theorem mem_idx {x : Int} {k : Nat} : x ∈ idx k ↔ 0 ≤ x ∧ x < k := by
  unfold idx
  simp only [List.mem_map, List.mem_range]
  constructor
  · rintro ⟨i, hi, rfl⟩; omega
  · rintro ⟨h1, h2⟩; exact ⟨x.toNat, by omega, by omega⟩
theorem idx_succ (k : Nat) : idx (k + 1) = idx k ++ [(k : Int)] := by unfold idx; rw [List.range_succ, List.map_append]; rfl
def bk0 : Bk := ⟨[]⟩
def insW (k : Nat) (row : List Bk) (n : Nat) : List Bk := row.take n ++ [(⟨(row.getD n bk0).l ++ [(k : Int)]⟩ : Bk)] ++ row.drop (n + 1)
def okW (L : List Int) (s : Int) (k : Nat) (row : List Bk) (n : Nat) : Bool := decide (bsum L (row.getD n bk0) + wt L k ≤ s)
def stepW (L : List Int) (s : Int) (k : Nat) (row : List Bk) : List (List Bk) := (row ++ [(⟨[(k : Int)]⟩ : Bk)]) :: ((List.range row.length).filter (okW L s k row)).map (insW k row)
def ways (L : List Int) (s : Int) : Nat → List (List Bk)
  | 0 => [[]]
  | k + 1 => (ways L s k).flatMap (stepW L s k)
theorem insW_eq (k : Nat) (A C : List Bk) (b : Bk) : insW k (A ++ b :: C) A.length = A ++ ⟨b.l ++ [(k : Int)]⟩ :: C := by
  unfold insW
  simp
theorem split_at (row : List Bk) {n : Nat} (h : n < row.length) : ∃ A b C, row = A ++ b :: C ∧ A.length = n :=
  ⟨row.take n, row[n], row.drop (n + 1), by simp, by simp; omega⟩
theorem hd_mem {b : Bk} (h : b.l ≠ []) : hd b ∈ b.l := by
  obtain ⟨l⟩ := b
  cases l with
  | nil => exact absurd rfl h
  | cons x xs => exact List.mem_cons_self
theorem hd_snoc {b : Bk} (h : b.l ≠ []) (x : Int) : hd ⟨b.l ++ [x]⟩ = hd b := by
  obtain ⟨l⟩ := b
  cases l with
  | nil => exact absurd rfl h
  | cons y ys => rfl
theorem bsum_snoc (L : List Int) (b : Bk) (x : Int) : bsum L ⟨b.l ++ [x]⟩ = bsum L b + wt L x := by
  unfold bsum; simp
section
variable {L : List Int} {s : Int} {k : Nat}
theorem CP.lt {row : List Bk} (h : CP L s (idx k) row) {b : Bk} (hb : b ∈ row) {x : Int} (hx : x ∈ b.l) : x < k := (mem_idx.mp ((h.mem x).mp (mem_fl.mpr ⟨b, hb, hx⟩))).2
theorem CP.new {row : List Bk} (h : CP L s (idx k) row) (hw : wt L k ≤ s) : CP L s (idx (k + 1)) (row ++ [(⟨[(k : Int)]⟩ : Bk)]) := by
  have nk : (k : Int) ∉ fl row := fun z => by have := mem_idx.mp ((h.mem _).mp z); omega
  have ef : fl (row ++ [(⟨[(k : Int)]⟩ : Bk)]) = fl row ++ [(k : Int)] := by rw [fl_app]; rfl
  refine ⟨fun b hb => ?_, ?_, ?_, fun x => ?_, fun b hb => ?_⟩
  · rcases List.mem_append.mp hb with hb | hb
    · exact h.asc b hb
    · rw [List.mem_singleton.mp hb]; exact ⟨by simp, by simp⟩
  · rw [List.map_append]
    refine List.pairwise_append.mpr ⟨h.fst, by simp, fun x hx y hy => ?_⟩
    obtain ⟨b, hb, rfl⟩ := List.mem_map.mp hx
    have : y = k := by simpa [hd] using hy
    subst this
    exact h.lt hb (hd_mem (h.asc b hb).1)
  · rw [ef]
    exact List.nodup_append.mpr ⟨h.nd, by simp, fun x hx y hy e => by rw [List.mem_singleton.mp hy] at e; subst e; exact nk hx⟩
  · rw [ef, idx_succ, List.mem_append, List.mem_append, h.mem x]
  · rcases List.mem_append.mp hb with hb | hb
    · exact h.sum b hb
    · rw [List.mem_singleton.mp hb]; simp [bsum]; exact hw
theorem fl_perm (A C : List Bk) (b : Bk) (x : Int) : (fl (A ++ ⟨b.l ++ [x]⟩ :: C)).Perm (x :: fl (A ++ b :: C)) := by
  rw [fl_app, fl_app, fl_cons, fl_cons]
  have e : fl A ++ (b.l ++ [x] ++ fl C) = (fl A ++ b.l) ++ x :: fl C := by simp
  have e2 : fl A ++ (b.l ++ fl C) = (fl A ++ b.l) ++ fl C := by simp
  rw [show fl A ++ ((⟨b.l ++ [x]⟩ : Bk).l ++ fl C) = (fl A ++ b.l) ++ x :: fl C from e, e2]
  exact List.perm_middle
theorem CP.ins {A C : List Bk} {b : Bk} (h : CP L s (idx k) (A ++ b :: C)) (hw : bsum L b + wt L k ≤ s) : CP L s (idx (k + 1)) (A ++ ⟨b.l ++ [(k : Int)]⟩ :: C) := by
  have bb : b ∈ A ++ b :: C := by simp
  have hb0 := h.asc b bb
  have p := fl_perm A C b k
  have nk : (k : Int) ∉ fl (A ++ b :: C) := fun z => by have := mem_idx.mp ((h.mem _).mp z); omega
  refine ⟨fun b' hb => ?_, ?_, ?_, fun x => ?_, fun b' hb => ?_⟩
  · rcases List.mem_append.mp hb with hb | hb
    · exact h.asc b' (List.mem_append_left _ hb)
    · rcases List.mem_cons.mp hb with rfl | hb
      · refine ⟨by simp, List.pairwise_append.mpr ⟨hb0.2, by simp, fun x hx y hy => ?_⟩⟩
        rw [List.mem_singleton.mp hy]
        exact h.lt bb hx
      · exact h.asc b' (List.mem_append_right _ (List.mem_cons_of_mem _ hb))
  · have := h.fst
    rw [List.map_append, List.map_cons] at this ⊢
    rw [hd_snoc hb0.1]
    exact this
  · exact p.nodup_iff.mpr (List.nodup_cons.mpr ⟨nk, h.nd⟩)
  · rw [p.mem_iff, List.mem_cons, h.mem x, mem_idx, mem_idx]
    push_cast
    omega
  · rcases List.mem_append.mp hb with hb | hb
    · exact h.sum b' (List.mem_append_left _ hb)
    · rcases List.mem_cons.mp hb with rfl | hb
      · rw [bsum_snoc]; exact hw
      · exact h.sum b' (List.mem_append_right _ (List.mem_cons_of_mem _ hb))
theorem step_mem {row P : List Bk} (h : P ∈ stepW L s k row) : P = row ++ [(⟨[(k : Int)]⟩ : Bk)] ∨ ∃ A b C, row = A ++ b :: C ∧ P = A ++ ⟨b.l ++ [(k : Int)]⟩ :: C ∧ bsum L b + wt L k ≤ s := by
  unfold stepW at h
  rcases List.mem_cons.mp h with h | h
  · exact .inl h
  · obtain ⟨n, hn, rfl⟩ := List.mem_map.mp h
    obtain ⟨h1, h2⟩ := List.mem_filter.mp hn
    obtain ⟨A, b, C, rfl, e⟩ := split_at row (List.mem_range.mp h1)
    subst e
    refine .inr ⟨A, b, C, rfl, insW_eq k A C b, ?_⟩
    unfold okW at h2
    simpa using h2
theorem step_ins {A C : List Bk} {b : Bk} (h : bsum L b + wt L k ≤ s) : A ++ ⟨b.l ++ [(k : Int)]⟩ :: C ∈ stepW L s k (A ++ b :: C) := by
  unfold stepW
  refine List.mem_cons_of_mem _ (List.mem_map.mpr ⟨A.length, List.mem_filter.mpr ⟨by simp, ?_⟩, insW_eq k A C b⟩)
  unfold okW
  simpa using h
theorem ways_CP : ∀ {k : Nat} {row : List Bk}, (∀ i : Nat, i < k → wt L i ≤ s) → row ∈ ways L s k → CP L s (idx k) row
  | 0, row, _, h => by
    have : row = [] := by simpa [ways] using h
    subst this
    exact ⟨fun _ z => (nomatch z), List.Pairwise.nil, List.nodup_nil, fun x => (by simp [fl, idx]), fun _ z => (nomatch z)⟩
  | k + 1, row, hw, h => by
    obtain ⟨r, hr, h⟩ := List.mem_flatMap.mp h
    have c := ways_CP (fun i hi => hw i (by omega)) hr
    rcases step_mem h with rfl | ⟨A, b, C, rfl, rfl, e⟩
    · exact c.new (hw k (by omega))
    · exact c.ins e
theorem CP_ways : ∀ {k : Nat} {P : List Bk}, (∀ i : Nat, i < k → 0 ≤ wt L i) → CP L s (idx k) P → P ∈ ways L s k
  | 0, P, _, h => by
    cases P with
    | nil => simp [ways]
    | cons b P =>
      obtain ⟨bn, _⟩ := h.asc b List.mem_cons_self
      obtain ⟨x, hx⟩ := List.exists_mem_of_ne_nil _ bn
      exact absurd ((h.mem x).mp (mem_fl.mpr ⟨b, List.mem_cons_self, hx⟩)) (by simp [idx])
  | k + 1, P, hw, h => by
    have kP : (k : Int) ∈ fl P := (h.mem _).mpr (mem_idx.mpr (by omega))
    obtain ⟨b, hb, kb⟩ := mem_fl.mp kP
    obtain ⟨A, C, rfl⟩ := List.append_of_mem hb
    have hb0 := h.asc b hb
    obtain ⟨l1, l2, e⟩ := List.append_of_mem kb
    have le : ∀ b' ∈ A ++ b :: C, ∀ x ∈ b'.l, x ≤ k := fun b' hb' x hx => by
      have := mem_idx.mp ((h.mem x).mp (mem_fl.mpr ⟨b', hb', hx⟩)); omega
    have l2n : l2 = [] := by
      cases l2 with
      | nil => rfl
      | cons y ys =>
        have u := hb0.2
        rw [e] at u
        have := (List.pairwise_cons.mp (List.pairwise_append.mp u).2.1).1 y List.mem_cons_self
        have := le b hb y (by rw [e]; simp)
        omega
    subst l2n
    have be : b = ⟨(⟨l1⟩ : Bk).l ++ [(k : Int)]⟩ := Tu.ext' e
    by_cases z : l1 = []
    · subst z
      have Cn : C = [] := by
        cases C with
        | nil => rfl
        | cons c C =>
          have f := h.fst
          rw [List.map_append, List.map_cons, List.map_cons] at f
          have := (List.pairwise_cons.mp (List.pairwise_append.mp f).2.1).1 (hd c) List.mem_cons_self
          have cm : c ∈ A ++ b :: c :: C := by simp
          have := le c cm _ (hd_mem (h.asc c cm).1)
          have : hd b = k := by rw [be]; rfl
          omega
      subst Cn
      rw [be] at h ⊢
      have ef : fl (A ++ [(⟨(⟨[]⟩ : Bk).l ++ [(k : Int)]⟩ : Bk)]) = fl A ++ [(k : Int)] := by rw [fl_app]; rfl
      have nd := h.nd
      rw [ef] at nd
      have nd' := List.nodup_append.mp nd
      have c : CP L s (idx k) A := by
        refine ⟨fun b' hb' => h.asc b' (List.mem_append_left _ hb'), ?_, nd'.1, fun x => ?_, fun b' hb' => h.sum b' (List.mem_append_left _ hb')⟩
        · have f := h.fst
          rw [List.map_append] at f
          exact (List.pairwise_append.mp f).1
        · have m := h.mem x
          rw [ef, List.mem_append, List.mem_singleton, mem_idx] at m
          rw [mem_idx]
          constructor
          · intro hx
            have := m.mp (.inl hx)
            have : x ≠ k := fun e => nd'.2.2 x hx k (by simp) e
            omega
          · intro hx
            exact (m.mpr (by omega)).resolve_right (by omega)
      refine List.mem_flatMap.mpr ⟨A, CP_ways (fun i hi => hw i (by omega)) c, ?_⟩
      unfold stepW
      exact List.mem_cons_self
    · have p := fl_perm A C ⟨l1⟩ (k : Int)
      rw [← be] at p
      have nd := p.nodup_iff.mp h.nd
      have nd' := List.nodup_cons.mp nd
      have bs : bsum L (⟨l1⟩ : Bk) + wt L k ≤ s := by
        rw [← bsum_snoc, ← be]
        exact h.sum b hb
      have wpos : True := trivial
      have u := hb0.2
      rw [e] at u
      have sub : ∀ b' ∈ A ++ (⟨l1⟩ : Bk) :: C, b' = ⟨l1⟩ ∨ b' ∈ A ++ b :: C := fun b' hb' => by
        rcases List.mem_append.mp hb' with h' | h'
        · exact .inr (List.mem_append_left _ h')
        · rcases List.mem_cons.mp h' with h' | h'
          · exact .inl h'
          · exact .inr (List.mem_append_right _ (List.mem_cons_of_mem _ h'))
      rw [be]
      refine List.mem_flatMap.mpr ⟨A ++ ⟨l1⟩ :: C, ?_, step_ins bs⟩
      · have wk := hw k (by omega)
        refine CP_ways (fun i hi => hw i (by omega)) ⟨fun b' hb' => ?_, ?_, nd'.2, fun x => ?_, fun b' hb' => ?_⟩
        · rcases sub b' hb' with rfl | h'
          · exact ⟨z, (List.pairwise_append.mp u).1⟩
          · exact h.asc b' h'
        · have f := h.fst
          rw [List.map_append, List.map_cons] at f ⊢
          rw [be, hd_snoc (b := ⟨l1⟩) z] at f
          exact f
        · have m := h.mem x
          rw [p.mem_iff, List.mem_cons, mem_idx] at m
          rw [mem_idx]
          constructor
          · intro hx
            have := m.mp (.inr hx)
            have : x ≠ k := fun e => nd'.1 (e ▸ hx)
            omega
          · intro hx
            exact (m.mpr (by omega)).resolve_left (by omega)
        · rcases sub b' hb' with rfl | h'
          · omega
          · exact h.sum b' h'
end

/-! laying in turn; the bound -/
def putT (L : List Int) (s : Int) (k : Nat) (row : List Bk) : List Bk := match (List.range row.length).find? (okW L s k row) with
  | some n => insW k row n
  | none => row ++ [(⟨[(k : Int)]⟩ : Bk)]
def itn (L : List Int) (s : Int) : Nat → List Bk
  | 0 => []
  | k + 1 => putT L s k (itn L s k)
theorem itn_ways (L : List Int) (s : Int) : ∀ k, itn L s k ∈ ways L s k
  | 0 => by simp [itn, ways]
  | k + 1 => by
    refine List.mem_flatMap.mpr ⟨_, itn_ways L s k, ?_⟩
    show putT L s k (itn L s k) ∈ _
    unfold putT stepW
    split
    · rename_i n h
      have h1 := List.find?_some h
      have h2 := List.mem_of_find?_eq_some h
      exact List.mem_cons_of_mem _ (List.mem_map.mpr ⟨n, List.mem_filter.mpr ⟨h2, h1⟩, rfl⟩)
    · exact List.mem_cons_self
/-! sums over blocks -/
def tot (f : Int → Int) (row : List Bk) : Int := (row.map fun b => (b.l.map f).sum).sum
theorem ways_tot (L : List Int) (s : Int) (f : Int → Int) : ∀ {k : Nat} {row : List Bk}, row ∈ ways L s k → tot f row = ((idx k).map f).sum
  | 0, row, h => by
    have : row = [] := by simpa [ways] using h
    subst this
    rfl
  | k + 1, row, h => by
    obtain ⟨r, hr, h⟩ := List.mem_flatMap.mp h
    have c := ways_tot L s f hr
    rw [idx_succ, List.map_append, List.sum_append, ← c]
    rcases step_mem h with rfl | ⟨A, b, C, rfl, rfl, e⟩
    · unfold tot; simp
    · unfold tot; simp; omega
theorem idx_wt (L : List Int) : (idx L.length).map (wt L) = L := by
  refine List.ext_getElem (by simp [idx]) fun i h1 h2 => ?_
  simp [idx, wt, h2]
theorem tot_wt (L : List Int) (s : Int) (g : Int → Int) {row : List Bk} (h : row ∈ ways L s L.length) : tot (fun i => g (wt L i)) row = (L.map g).sum := by
  rw [ways_tot L s _ h]
  have : (idx L.length).map (fun i => g (wt L i)) = ((idx L.length).map (wt L)).map g := by rw [List.map_map]; rfl
  rw [this, idx_wt]
def isA (s m w : Int) : Bool := decide (2 * w > s) && decide (w > s - m)
def isD (s m w : Int) : Bool := decide (2 * w > s) && decide (w ≤ s - m)
def isT (s m w : Int) : Bool := decide (2 * w ≤ s) && decide (w ≥ m)
def bnd (L : List Int) (s m : Int) : Int :=
  ((L.filter (isA s m)).length : Int) + ((L.filter (isD s m)).length : Int) + (max 0 ((L.filter (isT s m)).sum - (((L.filter (isD s m)).length : Int) * s - (L.filter (isD s m)).sum)) + s - 1) / s
def f3 (s m w : Int) : Int := (if isA s m w then s else 0) + (if isD s m w then w else 0) + (if isT s m w then w else 0)
def f4 (s m w : Int) : Int := (if isA s m w then 1 else 0) + (if isD s m w then 1 else 0)
theorem le_sum : ∀ {l : List Int} {y : Int}, (∀ x ∈ l, 0 ≤ x) → y ∈ l → y ≤ l.sum
  | x :: l, y, h, hy => by
    have h0 := h x List.mem_cons_self
    have nn : ∀ l : List Int, (∀ x ∈ l, 0 ≤ x) → 0 ≤ l.sum := by
      intro l
      induction l with
      | nil => intro _; simp
      | cons a as ih =>
        intro h
        have := h a List.mem_cons_self
        have := ih fun x hx => h x (List.mem_cons_of_mem _ hx)
        rw [List.sum_cons]; omega
    have h1 := nn l fun x hx => h x (List.mem_cons_of_mem _ hx)
    rw [List.sum_cons]
    rcases List.mem_cons.mp hy with rfl | hy
    · omega
    · have := le_sum (fun x hx => h x (List.mem_cons_of_mem _ hx)) hy; omega
theorem two_sum {l1 l2 : List Int} {x y : Int} (h : ∀ z ∈ l1 ++ x :: l2, 0 ≤ z) (hy : y ∈ l1 ++ l2) : y + x ≤ (l1 ++ x :: l2).sum := by
  have := le_sum (l := l1 ++ l2) (y := y) (fun z hz => h z (by rcases List.mem_append.mp hz with z' | z' <;> simp [z'])) hy
  simp at this ⊢
  omega
theorem one_left (f : Int → Int) {l1 l2 : List Int} {x : Int} (h : ∀ y ∈ l1 ++ l2, f y = 0) : ((l1 ++ x :: l2).map f).sum = f x := by
  have z : ∀ l : List Int, (∀ y ∈ l, f y = 0) → (l.map f).sum = 0 := by
    intro l
    induction l with
    | nil => intro _; rfl
    | cons a as ih =>
      intro h
      rw [List.map_cons, List.sum_cons, h a List.mem_cons_self, ih fun y hy => h y (List.mem_cons_of_mem _ hy)]
      rfl
  have h1 := z l1 fun y hy => h y (List.mem_append_left _ hy)
  have h2 := z l2 fun y hy => h y (List.mem_append_right _ hy)
  simp only [List.map_append, List.map_cons, List.sum_append, List.sum_cons, h1, h2]
  omega
theorem block3 {s m : Int} {l : List Int} (h : ∀ w ∈ l, 1 ≤ w) (hs : l.sum ≤ s) : (l.map (f3 s m)).sum ≤ s := by
  by_cases a : ∃ x ∈ l, isA s m x = true
  · obtain ⟨x, hx, ax⟩ := a
    obtain ⟨l1, l2, rfl⟩ := List.append_of_mem hx
    have ax' := ax
    unfold isA at ax'
    simp only [Bool.and_eq_true, decide_eq_true_eq] at ax'
    rw [one_left (f3 s m) (fun y hy => ?_)]
    · unfold f3 isD isT
      have n1 : ¬ (x ≤ s - m) := by omega
      have n2 : ¬ (2 * x ≤ s) := by omega
      simp [ax, n1, n2]
    · have t := two_sum (x := x) (fun z hz => by have := h z hz; omega) hy
      have y1 := h y (by rcases List.mem_append.mp hy with z | z <;> simp [z])
      unfold f3 isA isD isT
      have n1 : ¬ (2 * y > s) := by omega
      have n2 : ¬ (y ≥ m) := by omega
      simp [n1, n2]
  · have : ∀ l : List Int, (∀ w ∈ l, 1 ≤ w ∧ isA s m w = false) → (l.map (f3 s m)).sum ≤ l.sum := by
      intro l
      induction l with
      | nil => intro _; simp
      | cons w ws ih =>
        intro h
        have h0 := h w List.mem_cons_self
        have h1 := ih fun x hx => h x (List.mem_cons_of_mem _ hx)
        rw [List.map_cons, List.sum_cons, List.sum_cons]
        have : f3 s m w ≤ w := by
          unfold f3
          rw [h0.2]
          unfold isD isT
          by_cases c1 : 2 * w > s
          · have c2 : ¬ 2 * w ≤ s := by omega
            by_cases c3 : w ≤ s - m <;> simp [c1, c2, c3] <;> omega
          · by_cases c3 : 2 * w ≤ s <;> by_cases c4 : w ≥ m <;> simp [c1, c3, c4] <;> omega
        omega
    have := this l fun w hw => ⟨h w hw, by
      cases e : isA s m w with
      | false => rfl
      | true => exact absurd ⟨w, hw, e⟩ a⟩
    omega
theorem block4 {s m : Int} {l : List Int} (h : ∀ w ∈ l, 1 ≤ w) (hs : l.sum ≤ s) : (l.map (f4 s m)).sum ≤ 1 := by
  have f4le : ∀ w, f4 s m w ≤ 1 := fun w => by
    unfold f4 isA isD
    by_cases c1 : 2 * w > s <;> by_cases c2 : w ≤ s - m
    · have : ¬ w > s - m := by omega
      simp [c1, c2, this]
    · have : w > s - m := by omega
      simp [c1, c2, this]
    · simp [c1]
    · simp [c1]
  by_cases a : ∃ x ∈ l, 2 * x > s
  · obtain ⟨x, hx, ax⟩ := a
    obtain ⟨l1, l2, rfl⟩ := List.append_of_mem hx
    rw [one_left (f4 s m) (fun y hy => ?_)]
    · exact f4le x
    · have t := two_sum (x := x) (fun z hz => by have := h z hz; omega) hy
      unfold f4 isA isD
      have n1 : ¬ (2 * y > s) := by omega
      simp [n1]
  · have : ∀ l : List Int, (∀ w ∈ l, ¬ 2 * w > s) → (l.map (f4 s m)).sum = 0 := by
      intro l
      induction l with
      | nil => intro _; rfl
      | cons w ws ih =>
        intro h
        have h0 := h w List.mem_cons_self
        rw [List.map_cons, List.sum_cons, ih fun x hx => h x (List.mem_cons_of_mem _ hx)]
        unfold f4 isA isD
        simp [h0]
    rw [this l fun w hw c => a ⟨w, hw, c⟩]
    omega
theorem tot_le {f : Int → Int} {M : Int} : ∀ {row : List Bk}, (∀ b ∈ row, (b.l.map f).sum ≤ M) → tot f row ≤ (row.length : Int) * M
  | [], _ => by simp [tot]
  | b :: row, h => by
    have h1 := h b List.mem_cons_self
    have h2 := tot_le (row := row) fun x hx => h x (List.mem_cons_of_mem _ hx)
    unfold tot at h2 ⊢
    rw [List.map_cons, List.sum_cons, List.length_cons]
    have : ((row.length + 1 : Nat) : Int) * M = row.length * M + M := by push_cast; rw [Int.add_mul]; omega
    omega
theorem sum_len (p : Int → Bool) (c : Int) : ∀ l : List Int, (l.map fun w => if p w then c else 0).sum = ((l.filter p).length : Int) * c
  | [] => by simp
  | w :: l => by
    rw [List.map_cons, List.sum_cons, sum_len p c l, List.filter_cons]
    by_cases h : p w = true
    · simp only [h, if_true, List.length_cons]; push_cast; rw [Int.add_mul]; omega
    · simp only [h, if_false, Bool.false_eq_true]; omega
theorem sum_flt (p : Int → Bool) : ∀ l : List Int, (l.map fun w => if p w then w else 0).sum = (l.filter p).sum
  | [] => by simp
  | w :: l => by
    rw [List.map_cons, List.sum_cons, sum_flt p l, List.filter_cons]
    by_cases h : p w = true
    · simp only [h, if_true, List.sum_cons]
    · simp only [h, if_false, Bool.false_eq_true]; omega
theorem sum_add3 (f g h : Int → Int) : ∀ l : List Int, (l.map fun w => f w + g w + h w).sum = (l.map f).sum + (l.map g).sum + (l.map h).sum
  | [] => by simp
  | w :: l => by simp only [List.map_cons, List.sum_cons, sum_add3 f g h l]; omega
theorem sum_add2 (f g : Int → Int) : ∀ l : List Int, (l.map fun w => f w + g w).sum = (l.map f).sum + (l.map g).sum
  | [] => by simp
  | w :: l => by simp only [List.map_cons, List.sum_cons, sum_add2 f g l]; omega
theorem bnd_le {L : List Int} {s m : Int} (hs : 1 ≤ s) (hw : ∀ w ∈ L, 1 ≤ w ∧ w ≤ s) {row : List Bk} (h : row ∈ ways L s L.length) : bnd L s m ≤ row.length := by
  have wti : ∀ i : Int, 0 ≤ i → i < L.length → wt L i ∈ L := fun i h0 h1 => by
    unfold wt
    have : i.toNat < L.length := by omega
    rw [List.getD_eq_getElem?_getD, List.getElem?_eq_getElem this]
    exact List.getElem_mem this
  have c := ways_CP (L := L) (s := s) (fun i hi => (hw _ (wti i (by omega) (by omega))).2) h
  have blk : ∀ b ∈ row, (∀ w ∈ b.l.map (wt L), 1 ≤ w) ∧ (b.l.map (wt L)).sum ≤ s := fun b hb => by
    refine ⟨fun w hw' => ?_, c.sum b hb⟩
    obtain ⟨i, hi, rfl⟩ := List.mem_map.mp hw'
    have := mem_idx.mp ((c.mem i).mp (mem_fl.mpr ⟨b, hb, hi⟩))
    exact (hw _ (wti i this.1 this.2)).1
  have t3 := tot_le (row := row) (f := fun i => f3 s m (wt L i)) (M := s) fun b hb => by
    have := block3 (m := m) (blk b hb).1 (blk b hb).2
    rw [List.map_map] at this
    exact this
  have t4 := tot_le (row := row) (f := fun i => f4 s m (wt L i)) (M := 1) fun b hb => by
    have := block4 (m := m) (blk b hb).1 (blk b hb).2
    rw [List.map_map] at this
    exact this
  rw [tot_wt L s _ h] at t3 t4
  have e3 : (L.map (f3 s m)).sum = ((L.filter (isA s m)).length : Int) * s + (L.filter (isD s m)).sum + (L.filter (isT s m)).sum := by
    rw [← sum_len (isA s m) s L, ← sum_flt (isD s m) L, ← sum_flt (isT s m) L, ← sum_add3]
    rfl
  have e4 : (L.map (f4 s m)).sum = ((L.filter (isA s m)).length : Int) + ((L.filter (isD s m)).length : Int) := by
    have h1 := sum_len (isA s m) 1 L
    have h2 := sum_len (isD s m) 1 L
    rw [Int.mul_one] at h1 h2
    rw [← h1, ← h2, ← sum_add2]
    rfl
  rw [e3] at t3
  rw [e4] at t4
  unfold bnd
  generalize ((L.filter (isA s m)).length : Int) = a at *
  generalize ((L.filter (isD s m)).length : Int) = d at *
  generalize (L.filter (isD s m)).sum = o at *
  generalize (L.filter (isT s m)).sum = t at *
  generalize (row.length : Int) = M at *
  have q0 : 0 ≤ M - a - d := by omega
  have ex : (M - a - d) * s = M * s - a * s - d * s := by rw [Int.sub_mul, Int.sub_mul]
  have p0 : 0 ≤ (M - a - d) * s := Int.mul_nonneg q0 (by omega)
  have lk : max 0 (t - (d * s - o)) ≤ (M - a - d) * s := by
    rw [ex] at p0 ⊢
    omega
  have dv : (max 0 (t - (d * s - o)) + s - 1) / s < M - a - d + 1 := by
    refine Int.ediv_lt_of_lt_mul (by omega) ?_
    rw [Int.add_mul]
    omega
  omega

/-! the program's checks and bounds -/
local macro_rules | `(tactic| walk_at "ev") => `(tactic| try simp (disch := first | assumption | omega | (simp only [List.length_cons, List.length_nil, List.length_append, List.length_map, List.length_zip] <;> omega)) only [seval, Lw.ol_toD, Lw.ol_flat, Lw.ol_slice, Lw.ge_call, Lw.ge_glob, Lw.ge_wf, Lw.ge_exm, Lw.bsel_some, Lw.osel_some, Lw.osel_none, Lw.q_var, Lw.q_int, Lw.q_bl, Lw.q_non, Lw.q_str, Lw.q_glob, Lw.q_bin, Lw.q_not, Lw.q_and, Lw.q_or, Lw.q_one, Lw.q_cmp, Lw.q_chain, Lw.q_ifx, Lw.q_tup, Lw.q_lst, Lw.q_idx, Lw.q_slc, Lw.fsel_ok, Lw.fsel_exc, Lw.q_call, Lw.q_prim, Lw.q_isi, Lw.q_nox, Lw.noxE_ok, Lw.q_nil, Lw.q_cons, Lw.qB_nil, Lw.qB_one, Lw.qI_seqT, Lw.qI_seqF, Lw.qI_enumT, Lw.qI_enumF, Lw.qI_zipT, Lw.qI_zipF, Lw.ssel_nx, Lw.ssel_ret, Lw.ssel_exc, Lw.ssel_brk, Lw.ssel_ct, Lw.s_nil', Lw.s_seq', Lw.s_ret', Lw.s_retN', Lw.s_set', Lw.s_setc', Lw.s_unp', Lw.s_par2', Lw.s_par3', Lw.dsel_d, Lw.s_aug', Lw.s_exp', Lw.s_ife', Lw.s_rai', Lw.s_pass', Lw.s_doc', Lw.s_brk', Lw.s_cnt', Lw.xsel_exc, Lw.xsel_nx, Lw.xsel_ret, Lw.s_try', Lw.nox_nx, Lw.nox_ret, Lw.s_hd', Lw.s_hnil', Lw.tst_eq, Lw.cBody_eq, Lw.bind_ok2, Lw.bind_exc2, Lw.bind_stuck2, Lw.then_ok2, Lw.then_exc2, Lw.then_stuck2, Lw.ofOpt_some2, Lw.ofOpt_none2, Lw.ite_okh, Lw.ite_tm, Lw.ite_od, Lw.ite_bool, Lw.ite_int, Lw.isiD_eq, Lw.flat_lst, Lw.whole_int, Lw.ite_else_false, Lw.ite_then_true, Lw.ite_not_false, Lw.flat_d, Lw.eqD_int, Lw.eqD_str, Lw.boolsD_map, Lw.look_tm2, Lw.look_sl2, Lw.join_some2, Lw.lookD_eq, Lw.lookF_eq, Lw.opd_tm, Lw.opd_sl, Lw.boolOf_bool, Lw.bool_eq, Lw.sto_tm, Lw.sto_sl, Lw.esc_tm, Lw.esc_sl, Lw.esel_d, Lw.esel_ol, Lw.arg_eq, Lw.asel_scr, Lw.asel_d, Lw.asel_ol, Lw.asel_lst, Lw.argsO_nil, Lw.argsO_cons, Lw.escs_nil, Lw.escs_cons, Lw.stos_nil, Lw.stos_cons, Lw.looksD_nil, Lw.looksD_cons, Lw.looksF_nil, Lw.looksF_cons, Lw.partD_nil, Lw.intOf_int, Lw.partD_one, Lw.okD_eq, Lw.deep_tm, Lw.deep_sl, Lw.isB_int_none, Lw.isB_int_bool, Lw.isB_int_int, Lw.isB_int_str, Lw.isB_int_list, Lw.isB_int_tuple, Lw.isB_bool_none, Lw.isB_bool_bool, Lw.isB_bool_int, Lw.isB_bool_str, Lw.isB_bool_list, Lw.isB_bool_tuple, Lw.isB_str_none, Lw.isB_str_bool, Lw.isB_str_int, Lw.isB_str_str, Lw.isB_str_list, Lw.isB_str_tuple, Lw.isB_tuple_none, Lw.isB_tuple_bool, Lw.isB_tuple_int, Lw.isB_tuple_str, Lw.isB_tuple_list, Lw.isB_tuple_tuple, Lw.isB_list_none, Lw.isB_list_bool, Lw.isB_list_int, Lw.isB_list_str, Lw.isB_list_list, Lw.isB_list_tuple, Lw.whole_none, Lw.whole_bool, Lw.whole_str, Lw.whole_list, Lw.whole_tuple, Lw.primO_len, Lw.primO_int, Lw.primO_abs, Lw.primO_max, Lw.primO_min, Lw.primO_sum, Lw.primO_all, Lw.primO_any, Lw.primO_tuple, Lw.primO_list, Lw.primO_sorted, Lw.lenO_l, Lw.lenO_t, Lw.intO_i, Lw.absO_i, Lw.maxO_2, Lw.minO_2, Lw.sumO_l, Lw.sumO_t, Lw.allO_l, Lw.anyO_l, Lw.tupleO_l, Lw.tupleO_t, Lw.listO_l, Lw.listO_t, Lw.sortedO_l, Lw.bin_add, Lw.bin_sub, Lw.cmp_Eq, Lw.cmp_NotEq, Lw.cmp_Lt, Lw.cmp_LtE, Lw.cmp_Gt, Lw.cmp_GtE, Lw.cmp_In, Lw.cmp_NotIn, Lw.cmp_Is, Lw.cmp_IsNot, Lw.notNone_none, Lw.notNone_bool, Lw.notNone_int, Lw.notNone_str, Lw.notNone_list, Lw.notNone_tuple, Lw.ltD_int, Lw.leD_int, Lw.gtD_int, Lw.geD_int, Lw.idx_t, Lw.idx_l, Lw.items_l, Lw.items_t, Lw.slice_t, Lw.slice_dl, Lw.slice_scr, Lw.zsel_l, Lw.zsel_t, Lw.zsel_lt, Lw.zsel_tl, Lw.outF_ret, Lw.outF_nx, Lw.outF_exc, Lw.outM_ret1, Lw.outM_ret2, Lw.outM_ret3, Lw.outM_ret4, Lw.outM_nx1, Lw.outM_nx2, Lw.outM_nx3, Lw.outM_nx4, Lw.outM_exc, Lw.asgT_var, Lw.asgT_tup, Lw.asgTs_nil, Lw.asgTs_cons, Lw.wipe_nil, Lw.wipe_cons, Lw.quiet_nil, Lw.quiet_cons, Lw.quiet_none, Lw.quiet_d, Lw.quiet_jd, Lw.aug_add2, Lw.aug_sub2, Lw.q_neg2, Lw.revO_t, Lw.revO_l, Lw.q_rev2, Lw.listOf_l, Lw.q_sset2, Lw.qI_rng1', Lw.rgsel_2, Lw.qI_rng2', Lw.bin_mul1, Lw.bin_mul3, Lw.bin_fdiv1, Lw.bin_fdiv2, Lw.bin_mod1, Lw.aug_mul1, Lw.bin_addT1, Lw.bin_addL1, Lw.bin_mulL1, Lw.bin_mulT1, Lw.ix_pos, Lw.ix_neg, Lw.lenOk_ok, Lw.rgD_ok', Lw.eqD_ints, Lw.eqD_tints, Lw.sliceD_from, Lw.sliceD_to, Lw.ltD_tints, Lw.leD_tints, Lw.ol_nil', Lw.ol_one', Lw.ol_two', Lw.ol_three', Lw.ol_four', Lw.ol_five', Lw.bin_pow1, Lw.lsel_ol, Lw.q_mth, Lw.appS_ok, Lw.mth_app, Lw.mth_ext, Lw.mth_extd, Lw.q_dnew, Lw.datO_d, Lw.dgetS_dct, Lw.q_dget, Lw.dinS_dct, Lw.q_din, Lw.bin_subB, Lw.lOf_ol, Lw.stI_sl, Lw.s_sti', Lw.stD_sl, Lw.s_std', Lw.q_dsort', Lw.insOf_i, Lw.fldT_d, Lw.fldT_dct, Lw.fldT_ol, Lw.fldT_ins, Lw.onC_yes, Lw.q_attrV, Lw.meS_ok, Lw.meT_ok, Lw.q_meth, Lw.meG_sl, Lw.meG_tm, Lw.q_attrC, Lw.atR_tm, Lw.stA_sl, Lw.tupOf_t, Lw.nxS_nx, Lw.unA_nil, Lw.unA_cons, Lw.s_sta', Lw.s_una', Lw.s_auga', Lw.fldS_sl, Lw.q_mv, Lw.q_new, Lw.mth_pop, Lw.deep_i, Lw.q_at, Lw.itR_sl, Lw.itS_last, Lw.itS_zero, Lw.look_i, Lw.lkI_last, Lw.lkI_zero, Lw.isLst_ol, Lw.q_mthA, Lw.mthH_sl, Lw.mthR_i, Lw.app_last, Lw.pop_last, Lw.lsel_lst, Lw.mth_push, Lw.pushS_ok, Lw.popS_last, Lw.getLast_concat, Lw.T.exm_BadLeast_BadLeast, Lw.T.exm_BadLeast_BadSize, Lw.T.exm_BadLeast_BadWidths, Lw.T.exm_BadSize_BadLeast, Lw.T.exm_BadSize_BadSize, Lw.T.exm_BadSize_BadWidths, Lw.T.exm_BadWidths_BadLeast, Lw.T.exm_BadWidths_BadSize, Lw.T.exm_BadWidths_BadWidths, Lw.T.gl_MOST_SIZE, Lw.T.gl_MOST_WIDTHS, O.walk, O.toD, O.toDs, O.flats, qt, List.getElem?_cons_zero, List.getElem?_cons_succ, List.set_cons_zero, List.set_cons_succ, List.map_cons, List.map_nil, List.cons_append, List.nil_append, List.append_nil, List.length_cons, List.length_nil, List.length_append, List.length_map, List.length_zip,  List.replicate, Option.bind_some, Option.bind_none, Option.map_some, Option.map_none, if_true, if_false, Bool.not_true, Bool.not_false, Bool.true_and, Bool.and_true, Bool.false_and, Bool.and_false, Bool.true_or, Bool.or_true, Bool.false_or, Bool.or_false, Bool.false_eq_true, Bool.and_self, and_self, true_and, and_true, decide_true, decide_false, Nat.zero_add, Nat.reduceAdd, Nat.reduceSub, Nat.reduceLeDiff, reduceCtorEq, Int.natCast_zero, Int.natCast_one, Int.cast_ofNat_Int, Int.reduceLT, Int.reduceLE, Int.reduceToNat, Int.reduceNeg, Int.reduceAdd, Int.reduceSub, Int.reducePow, Nat.reducePow, Int.reduceMul, Nat.reduceMul, List.reduceReplicate, List.flatten_cons, List.flatten_nil, ne_eq, not_false_eq_true, not_true_eq_false, List.cons_ne_nil])
theorem sp_is_whole (l : Nat) (x : PyData) (a b : Int) : callN base (l + 1) 0 [.d x, .d (.int a), .d (.int b)] = .ok (.d (.bool (whole x a b))) [] := by
  rw [callN_eq t_is_whole rfl]
  cases x <;> (unfold r0 b0; walk_at "ev"; try rfl)
abbrev eL (L : List Int) : PyData := .tuple (L.map .int)
structure WOk (L : List Int) (s : Int) : Prop where
  n0 : 1 ≤ L.length
  n9 : L.length ≤ 9
  w : ∀ x ∈ L, 1 ≤ x ∧ x ≤ s
  s1 : s ≤ 100
theorem WOk.s0 {L : List Int} {s : Int} (h : WOk L s) : 1 ≤ s := by
  cases L with
  | nil => have := h.n0; simp at this
  | cons x xs => have := h.w x List.mem_cons_self; omega
def mxL : List Int → Int
  | [] => 0
  | x :: xs => maxE x xs
theorem mxL_spec {L : List Int} (h : 1 ≤ L.length) : mxL L ∈ L ∧ ∀ y ∈ L, y ≤ mxL L := by
  cases L with
  | nil => simp at h
  | cons x xs =>
    have := maxE_spec xs x
    refine ⟨this.1, fun y hy => ?_⟩
    have := this.2 y hy
    change decide (maxE x xs < y) = false at this
    simp only [decide_eq_false_iff_not] at this
    show y ≤ maxE x xs
    omega
theorem maxO_T {L : List Int} (h : 1 ≤ L.length) : maxO [.tuple (L.map .int)] = some (.d (.int (mxL L))) := by
  cases L with
  | nil => simp at h
  | cons x xs =>
    have h1 := allAlike_enc (x :: xs) (by decide)
    have h2 := maxD_enc xs x
    show (if allAlike (.int x :: xs.map .int) = true then some (O.d (PySem.W.maxD (.int x) (xs.map .int))) else none) = _
    have h1 : allAlike (.int x :: xs.map .int) = true := h1
    have h2 : PySem.W.maxD (.int x) (xs.map .int) = .int (maxE x xs) := h2
    rw [if_pos h1, h2]
    rfl
local macro_rules | `(tactic| walk_at "ev") => `(tactic| try simp (disch := first | assumption | omega | (simp only [List.length_cons, List.length_nil, List.length_append, List.length_map, List.length_zip] <;> omega)) only [seval, Lw.ol_toD, Lw.ol_flat, Lw.ol_slice, Lw.ge_call, Lw.ge_glob, Lw.ge_wf, Lw.ge_exm, Lw.bsel_some, Lw.osel_some, Lw.osel_none, Lw.q_var, Lw.q_int, Lw.q_bl, Lw.q_non, Lw.q_str, Lw.q_glob, Lw.q_bin, Lw.q_not, Lw.q_and, Lw.q_or, Lw.q_one, Lw.q_cmp, Lw.q_chain, Lw.q_ifx, Lw.q_tup, Lw.q_lst, Lw.q_idx, Lw.q_slc, Lw.fsel_ok, Lw.fsel_exc, Lw.q_call, Lw.q_prim, Lw.q_isi, Lw.q_nox, Lw.noxE_ok, Lw.q_nil, Lw.q_cons, Lw.qB_nil, Lw.qB_one, Lw.qI_seqT, Lw.qI_seqF, Lw.qI_enumT, Lw.qI_enumF, Lw.qI_zipT, Lw.qI_zipF, Lw.ssel_nx, Lw.ssel_ret, Lw.ssel_exc, Lw.ssel_brk, Lw.ssel_ct, Lw.s_nil', Lw.s_seq', Lw.s_ret', Lw.s_retN', Lw.s_set', Lw.s_setc', Lw.s_unp', Lw.s_par2', Lw.s_par3', Lw.dsel_d, Lw.s_aug', Lw.s_exp', Lw.s_ife', Lw.s_rai', Lw.s_pass', Lw.s_doc', Lw.s_brk', Lw.s_cnt', Lw.xsel_exc, Lw.xsel_nx, Lw.xsel_ret, Lw.s_try', Lw.nox_nx, Lw.nox_ret, Lw.s_hd', Lw.s_hnil', Lw.tst_eq, Lw.cBody_eq, Lw.bind_ok2, Lw.bind_exc2, Lw.bind_stuck2, Lw.then_ok2, Lw.then_exc2, Lw.then_stuck2, Lw.ofOpt_some2, Lw.ofOpt_none2, Lw.ite_okh, Lw.ite_tm, Lw.ite_od, Lw.ite_bool, Lw.ite_int, Lw.isiD_eq, Lw.flat_lst, Lw.whole_int, Lw.ite_else_false, Lw.ite_then_true, Lw.ite_not_false, Lw.flat_d, Lw.eqD_int, Lw.eqD_str, Lw.boolsD_map, Lw.look_tm2, Lw.look_sl2, Lw.join_some2, Lw.lookD_eq, Lw.lookF_eq, Lw.opd_tm, Lw.opd_sl, Lw.boolOf_bool, Lw.bool_eq, Lw.sto_tm, Lw.sto_sl, Lw.esc_tm, Lw.esc_sl, Lw.esel_d, Lw.esel_ol, Lw.arg_eq, Lw.asel_scr, Lw.asel_d, Lw.asel_ol, Lw.asel_lst, Lw.argsO_nil, Lw.argsO_cons, Lw.escs_nil, Lw.escs_cons, Lw.stos_nil, Lw.stos_cons, Lw.looksD_nil, Lw.looksD_cons, Lw.looksF_nil, Lw.looksF_cons, Lw.partD_nil, Lw.intOf_int, Lw.partD_one, Lw.okD_eq, Lw.deep_tm, Lw.deep_sl, Lw.isB_int_none, Lw.isB_int_bool, Lw.isB_int_int, Lw.isB_int_str, Lw.isB_int_list, Lw.isB_int_tuple, Lw.isB_bool_none, Lw.isB_bool_bool, Lw.isB_bool_int, Lw.isB_bool_str, Lw.isB_bool_list, Lw.isB_bool_tuple, Lw.isB_str_none, Lw.isB_str_bool, Lw.isB_str_int, Lw.isB_str_str, Lw.isB_str_list, Lw.isB_str_tuple, Lw.isB_tuple_none, Lw.isB_tuple_bool, Lw.isB_tuple_int, Lw.isB_tuple_str, Lw.isB_tuple_list, Lw.isB_tuple_tuple, Lw.isB_list_none, Lw.isB_list_bool, Lw.isB_list_int, Lw.isB_list_str, Lw.isB_list_list, Lw.isB_list_tuple, Lw.whole_none, Lw.whole_bool, Lw.whole_str, Lw.whole_list, Lw.whole_tuple, Lw.primO_len, Lw.primO_int, Lw.primO_abs, Lw.primO_max, Lw.primO_min, Lw.primO_sum, Lw.primO_all, Lw.primO_any, Lw.primO_tuple, Lw.primO_list, Lw.primO_sorted, Lw.lenO_l, Lw.lenO_t, Lw.intO_i, Lw.absO_i, Lw.maxO_2, Lw.minO_2, Lw.sumO_l, Lw.sumO_t, Lw.allO_l, Lw.anyO_l, Lw.tupleO_l, Lw.tupleO_t, Lw.listO_l, Lw.listO_t, Lw.sortedO_l, Lw.bin_add, Lw.bin_sub, Lw.cmp_Eq, Lw.cmp_NotEq, Lw.cmp_Lt, Lw.cmp_LtE, Lw.cmp_Gt, Lw.cmp_GtE, Lw.cmp_In, Lw.cmp_NotIn, Lw.cmp_Is, Lw.cmp_IsNot, Lw.notNone_none, Lw.notNone_bool, Lw.notNone_int, Lw.notNone_str, Lw.notNone_list, Lw.notNone_tuple, Lw.ltD_int, Lw.leD_int, Lw.gtD_int, Lw.geD_int, Lw.idx_t, Lw.idx_l, Lw.items_l, Lw.items_t, Lw.slice_t, Lw.slice_dl, Lw.slice_scr, Lw.zsel_l, Lw.zsel_t, Lw.zsel_lt, Lw.zsel_tl, Lw.outF_ret, Lw.outF_nx, Lw.outF_exc, Lw.outM_ret1, Lw.outM_ret2, Lw.outM_ret3, Lw.outM_ret4, Lw.outM_nx1, Lw.outM_nx2, Lw.outM_nx3, Lw.outM_nx4, Lw.outM_exc, Lw.asgT_var, Lw.asgT_tup, Lw.asgTs_nil, Lw.asgTs_cons, Lw.wipe_nil, Lw.wipe_cons, Lw.quiet_nil, Lw.quiet_cons, Lw.quiet_none, Lw.quiet_d, Lw.quiet_jd, Lw.aug_add2, Lw.aug_sub2, Lw.q_neg2, Lw.revO_t, Lw.revO_l, Lw.q_rev2, Lw.listOf_l, Lw.q_sset2, Lw.qI_rng1', Lw.rgsel_2, Lw.qI_rng2', Lw.bin_mul1, Lw.bin_mul3, Lw.bin_fdiv1, Lw.bin_fdiv2, Lw.bin_mod1, Lw.aug_mul1, Lw.bin_addT1, Lw.bin_addL1, Lw.bin_mulL1, Lw.bin_mulT1, Lw.ix_pos, Lw.ix_neg, Lw.lenOk_ok, Lw.rgD_ok', Lw.eqD_ints, Lw.eqD_tints, Lw.sliceD_from, Lw.sliceD_to, Lw.ltD_tints, Lw.leD_tints, Lw.ol_nil', Lw.ol_one', Lw.ol_two', Lw.ol_three', Lw.ol_four', Lw.ol_five', Lw.bin_pow1, Lw.lsel_ol, Lw.q_mth, Lw.appS_ok, Lw.mth_app, Lw.mth_ext, Lw.mth_extd, Lw.q_dnew, Lw.datO_d, Lw.dgetS_dct, Lw.q_dget, Lw.dinS_dct, Lw.q_din, Lw.bin_subB, Lw.lOf_ol, Lw.stI_sl, Lw.s_sti', Lw.stD_sl, Lw.s_std', Lw.q_dsort', Lw.insOf_i, Lw.fldT_d, Lw.fldT_dct, Lw.fldT_ol, Lw.fldT_ins, Lw.onC_yes, Lw.q_attrV, Lw.meS_ok, Lw.meT_ok, Lw.q_meth, Lw.meG_sl, Lw.meG_tm, Lw.q_attrC, Lw.atR_tm, Lw.stA_sl, Lw.tupOf_t, Lw.nxS_nx, Lw.unA_nil, Lw.unA_cons, Lw.s_sta', Lw.s_una', Lw.s_auga', Lw.fldS_sl, Lw.q_mv, Lw.q_new, Lw.mth_pop, Lw.deep_i, Lw.q_at, Lw.itR_sl, Lw.itS_last, Lw.itS_zero, Lw.look_i, Lw.lkI_last, Lw.lkI_zero, Lw.isLst_ol, Lw.q_mthA, Lw.mthH_sl, Lw.mthR_i, Lw.app_last, Lw.pop_last, Lw.lsel_lst, Lw.mth_push, Lw.pushS_ok, Lw.popS_last, Lw.getLast_concat, Lw.T.exm_BadLeast_BadLeast, Lw.T.exm_BadLeast_BadSize, Lw.T.exm_BadLeast_BadWidths, Lw.T.exm_BadSize_BadLeast, Lw.T.exm_BadSize_BadSize, Lw.T.exm_BadSize_BadWidths, Lw.T.exm_BadWidths_BadLeast, Lw.T.exm_BadWidths_BadSize, Lw.T.exm_BadWidths_BadWidths, Lw.T.gl_MOST_SIZE, Lw.T.gl_MOST_WIDTHS, Lw.T.sp_is_whole, O.walk, O.toD, O.toDs, O.flats, qt, List.getElem?_cons_zero, List.getElem?_cons_succ, List.set_cons_zero, List.set_cons_succ, List.map_cons, List.map_nil, List.cons_append, List.nil_append, List.append_nil, List.length_cons, List.length_nil, List.length_append, List.length_map, List.length_zip,  List.replicate, Option.bind_some, Option.bind_none, Option.map_some, Option.map_none, if_true, if_false, Bool.not_true, Bool.not_false, Bool.true_and, Bool.and_true, Bool.false_and, Bool.and_false, Bool.true_or, Bool.or_true, Bool.false_or, Bool.or_false, Bool.false_eq_true, Bool.and_self, and_self, true_and, and_true, decide_true, decide_false, Nat.zero_add, Nat.reduceAdd, Nat.reduceSub, Nat.reduceLeDiff, reduceCtorEq, Int.natCast_zero, Int.natCast_one, Int.cast_ofNat_Int, Int.reduceLT, Int.reduceLE, Int.reduceToNat, Int.reduceNeg, Int.reduceAdd, Int.reduceSub, Int.reducePow, Nat.reducePow, Int.reduceMul, Nat.reduceMul, List.reduceReplicate, List.flatten_cons, List.flatten_nil, ne_eq, not_false_eq_true, not_true_eq_false, List.cons_ne_nil])
theorem whole_all (L : List Int) (s : Int) (h : WOk L s) (l : Nat) : callN base (l + 2) 1 [.d (eL L)] = .ok (.d (.bool true)) [] := by
  rw [callN_eq t_are_widths rfl]
  have hc : ev (base.ge (l + 1)) e_are_widths_0 [some (.d (eL L)), none] = .ok (.tm (ol (L.map fun _ => .bool true))) [some (.d (eL L)), none] := by
    refine ev_map PyData.int L _ ?_ rfl rfl (by have := h.n9; omega) fun a ha => ?_
    · walk_at "ev"
    · have := h.w a ha
      have s1 := h.s1
      have k : whole (.int a) 1 100 = true := by simp [whole]; omega
      walk_at "ev"
      simp; omega
  have n0 := h.n0
  have n9 := h.n9
  have p1 : (1 : Int) ≤ (L.length : Int) := by omega
  have p2 : (L.length : Int) ≤ 9 := by omega
  unfold r1 b1; walk_at "ev"
  simp only [p1, p2]; walk_at "ev"
  simp only [hc]; walk_at "ev"
  simp [boolsD_map]
theorem check_ok {L : List Int} {s : Int} (h : WOk L s) (l : Nat) : callN base (l + 3) 2 [.d (eL L), .d (.int s)] = .ok (.d .none) [] := by
  have h1 := whole_all L s h l
  have h2 := maxO_T h.n0
  have h3 := mxL_spec h.n0
  have s0 := h.s0
  have s1 := h.s1
  have q : ¬ s < mxL L := by have := (h.w _ h3.1).2; omega
  rw [callN_eq t__check rfl]
  unfold r2 b2; walk_at "ev"
  simp only [h1]; walk_at "ev"
  simp only [s0, s1]; walk_at "ev"
  simp only [h2]; walk_at "ev"
  simp only [q]; walk_at "ev"
theorem bound_ev {L : List Int} {s m : Int} (h : WOk L s) (hm : 0 ≤ m ∧ m ≤ 1000) (l : Nat) : callN base (l + 1) 5 [.d (eL L), .d (.int s), .d (.int m)] = .ok (.d (.int (bnd L s m))) [] := by
  have s0 := h.s0
  have s1 := h.s1
  have n9 := h.n9
  have hl : L.length ≤ 16777216 := by omega
  have hA : ∀ j4 j5 j6 j7 : Option O, ev (base.ge l) e__bound_2 [some (.d (eL L)), some (.d (.int s)), some (.d (.int m)), none, j4, j5, j6, j7, none] = .ok (.tm (ol ((L.filter (isA s m)).map .int))) [some (.d (eL L)), some (.d (.int s)), some (.d (.int m)), none, j4, j5, j6, j7, none] := fun j4 j5 j6 j7 => by
    refine ev_filt PyData.int L (isA s m) PyData.int ?_ rfl rfl hl fun a ha => ?_
    · walk_at "ev"
    · have := h.w a ha
      unfold isA
      walk_at "ev"
  have hD : ∀ j3 j5 j6 j7 : Option O, ev (base.ge l) e__bound_1 [some (.d (eL L)), some (.d (.int s)), some (.d (.int m)), j3, none, j5, j6, j7, none] = .ok (.tm (ol ((L.filter (isD s m)).map .int))) [some (.d (eL L)), some (.d (.int s)), some (.d (.int m)), j3, none, j5, j6, j7, none] := fun j3 j5 j6 j7 => by
    refine ev_filt PyData.int L (isD s m) PyData.int ?_ rfl rfl hl fun a ha => ?_
    · walk_at "ev"
    · have := h.w a ha
      unfold isD
      walk_at "ev"
  have hT : ∀ j3 j4 j6 j7 : Option O, ev (base.ge l) e__bound_0 [some (.d (eL L)), some (.d (.int s)), some (.d (.int m)), j3, j4, none, j6, j7, none] = .ok (.tm (ol ((L.filter (isT s m)).map .int))) [some (.d (eL L)), some (.d (.int s)), some (.d (.int m)), j3, j4, none, j6, j7, none] := fun j3 j4 j6 j7 => by
    refine ev_filt PyData.int L (isT s m) PyData.int ?_ rfl rfl hl fun a ha => ?_
    · walk_at "ev"
    · have := h.w a ha
      unfold isT
      walk_at "ev"
  have lD : ((L.filter (isD s m)).length : Int) ≤ 9 := by
    have := List.length_filter_le (isD s m) L; omega
  have hmx : ∀ x : Int, (if x > 0 then x else 0) = max 0 x := fun x => by split <;> omega
  rw [callN_eq t__bound rfl]
  unfold r5 b5; walk_at "ev"
  simp only [hA]; walk_at "ev"
  simp only [hD]; walk_at "ev"
  simp only [hT]; walk_at "ev"
  simp only [intsD_int]; walk_at "ev"
  unfold bnd
  simp only [intsD_int]; walk_at "ev"
  simp only [hmx]
  walk_at "ev"
theorem boundby_ev {L : List Int} {s m : Int} (h : WOk L s) (hm : 0 ≤ m ∧ m ≤ s / 2) (l : Nat) : callN base (l + 4) 6 [.d (eL L), .d (.int s), .d (.int m)] = .ok (.d (.int (bnd L s m))) [] := by
  have h1 := check_ok h l
  have s1 := h.s1
  have s0 := h.s0
  have h2 := bound_ev h (m := m) ⟨hm.1, by omega⟩ (l + 2)
  rw [callN_eq t_bound_by rfl]
  unfold r6 b6; walk_at "ev"
  simp only [h1]; walk_at "ev"
  simp only [hm.1, hm.2]; walk_at "ev"
  simp only [h2]; walk_at "ev"
/-- pairs of a bound, below 0, and a least width -/
def bpr (L : List Int) (s : Int) (m : Int) : Int × Int := (0 - bnd L s m, m)
def bbs (L : List Int) (s : Int) : Int × Int := minE (bpr L s 0) ((idx (s / 2).toNat).map fun m => bpr L s (m + 1))
theorem minO_pairs (p : Int × Int) (ps : List (Int × Int)) : minO [.list ((p :: ps).map Enc.enc)] = some (.d (Enc.enc (minE p ps))) := minO_enc p ps (by decide)
theorem best_bound_ev {L : List Int} {s : Int} (h : WOk L s) (l : Nat) : ∃ v, (∃ m : Int, 0 ≤ m ∧ v = (bnd L s m, m)) ∧ callN base (l + 4) 7 [.d (eL L), .d (.int s)] = .ok (.d (.tuple [.int v.1, .int v.2])) [] := by
  have h1 := check_ok h l
  have s1 := h.s1
  have s0 := h.s0
  obtain ⟨n, hn⟩ := Int.eq_ofNat_of_zero_le (show 0 ≤ s / 2 from by omega)
  have n1 : n ≤ 100 := by omega
  have hc : ev (base.ge (l + 3)) e_best_bound_0 [some (.d (eL L)), some (.d (.int s)), none, none] = .ok (.tm (ol ((List.range (n + 1)).map fun (k : Nat) => Enc.enc (bpr L s k)))) [some (.d (eL L)), some (.d (.int s)), none, none] := by
    refine ev_map (fun (k : Nat) => PyData.int (k : Int)) (List.range (n + 1)) _ ?_ rfl rfl (by rw [List.length_range]; omega) fun a ha => ?_
    · walk_at "ev"
      rw [hn]
      walk_at "ev"
      rw [rangeD_nat (n + 1) _ (by push_cast; rfl)]
    · have ha := List.mem_range.mp ha
      have h2 := bound_ev h (m := (a : Int)) ⟨by omega, by omega⟩ (l + 2)
      walk_at "ev"
      simp only [h2]; walk_at "ev"
      rfl
  have hr : ((List.range (n + 1)).map fun (k : Nat) => bpr L s k) = bpr L s 0 :: ((List.range n).map fun (k : Nat) => bpr L s ((k : Int) + 1)) := by
    rw [List.range_succ_eq_map, List.map_cons, List.map_map]
    rfl
  have hm := minO_pairs (bpr L s 0) ((List.range n).map fun (k : Nat) => bpr L s ((k : Int) + 1))
  rw [← hr, List.map_map] at hm
  have sp := (minE_spec ((List.range n).map fun (k : Nat) => bpr L s ((k : Int) + 1)) (bpr L s 0)).1
  generalize minE (bpr L s 0) ((List.range n).map fun (k : Nat) => bpr L s ((k : Int) + 1)) = v at hm sp
  have hv : ∃ m : Int, 0 ≤ m ∧ v = bpr L s m := by
    rw [← hr] at sp
    obtain ⟨k, _, e⟩ := List.mem_map.mp sp
    exact ⟨k, by omega, e.symm⟩
  obtain ⟨m, m0, rfl⟩ := hv
  refine ⟨(bnd L s m, m), ⟨m, m0, rfl⟩, ?_⟩
  have hm : minO [.list ((List.range (n + 1)).map fun (k : Nat) => Enc.enc (bpr L s k))] = some (.d (.tuple [.int (0 - bnd L s m), .int m])) := hm
  rw [callN_eq t_best_bound rfl]
  unfold r7 b7; walk_at "ev"
  simp only [h1]; walk_at "ev"
  simp only [hc]; walk_at "ev"
  simp only [hm]; walk_at "ev"
  simp only [hm]; walk_at "ev"
  rw [show (0 : Int) - (0 - bnd L s m) = bnd L s m from by omega]

/-! all ways, as the law makes them -/
abbrev eB (b : Bk) : PyData := Enc.enc b
theorem eB_l (b : Bk) : eB b = .tuple (b.l.map .int) := rfl
def eR (r : List Bk) : PyData := .tuple (r.map eB)
theorem wt_get {L : List Int} {i : Int} (h0 : 0 ≤ i) (h1 : i < L.length) : (L.map PyData.int)[i.toNat]? = some (.int (wt L i)) := by
  have : i.toNat < L.length := by omega
  unfold wt
  rw [List.getElem?_map, List.getD_eq_getElem?_getD, List.getElem?_eq_getElem this]
  rfl
/-- the numbers of a row lie below k -/
def Lo (k : Nat) (row : List Bk) : Prop := (∀ b ∈ row, ∀ x ∈ b.l, 0 ≤ x ∧ x < (k : Int)) ∧ row.length ≤ k ∧ ∀ b ∈ row, b.l.length ≤ k
theorem CP.lo {L : List Int} {s : Int} {k : Nat} {row : List Bk} (h : CP L s (idx k) row) : Lo k row := by
  have blen : ∀ b ∈ row, b.l.length ≤ k := fun b hb => by
    have u := (h.asc b hb).2
    have sub := up_sublist u (show Up (idx k) from by unfold idx; exact List.pairwise_map.mpr (List.pairwise_lt_range.imp fun h => by omega)) fun x hx => (h.mem x).mp (mem_fl.mpr ⟨b, hb, hx⟩)
    have := sub.length_le
    simpa [idx] using this
  refine ⟨fun b hb x hx => mem_idx.mp ((h.mem x).mp (mem_fl.mpr ⟨b, hb, hx⟩)), ?_, blen⟩
  have u := h.fst
  have sub := up_sublist u (show Up (idx k) from by unfold idx; exact List.pairwise_map.mpr (List.pairwise_lt_range.imp fun h => by omega)) fun x hx => by
    obtain ⟨b, hb, rfl⟩ := List.mem_map.mp hx
    exact (h.mem _).mp (mem_fl.mpr ⟨b, hb, hd_mem (h.asc b hb).1⟩)
  have := sub.length_le
  simpa [idx] using this
/-! laying in turn, by the law and by the program -/
theorem find_range {f : Nat → Bool} {n a : Nat} (h : a < n) (ha : f a = true) (hb : ∀ i < a, f i = false) : (List.range n).find? f = some a := by
  rw [List.find?_range_eq_some]
  exact ⟨ha, by simpa using h, fun j hj => by simp [hb j hj]⟩
theorem find_none {f : Nat → Bool} {n : Nat} (hb : ∀ i < n, f i = false) : (List.range n).find? f = none := by
  rw [List.find?_eq_none]
  intro i hi
  rw [hb i (by simpa using hi)]
  simp
theorem itn_lo {L : List Int} {s : Int} {k : Nat} (h : ∀ i : Nat, i < k → wt L i ≤ s) : Lo k (itn L s k) := (ways_CP h (itn_ways L s k)).lo

/-! laying in turn, by the program: lists within a list -/
def nst (row : List Bk) : O := .lst (row.map fun b => ol (b.l.map PyData.int))
def nsD (row : List Bk) : List PyData := row.map fun b => .list (b.l.map PyData.int)
theorem nst_toD (row : List Bk) : (nst row).toD = some (.list (nsD row)) := by
  have h : ∀ row : List Bk, O.toDs (row.map fun b => ol (b.l.map PyData.int)) = some (nsD row) := by
    intro row
    induction row with
    | nil => rw [List.map_nil, O.toDs]; rfl
    | cons b bs ih => rw [List.map_cons, O.toDs, ol_toD, ih]; rfl
  unfold nst
  rw [O.toD, h row]
  try rfl
theorem esel_nst (row : List Bk) (i : Nat) (ro : Ro) : esel (some (some (nst row))) i ro = .ok (.list (nsD row)) (ro.set i (some (.d (.list (nsD row))))) := by
  have : esel (some (some (nst row))) i ro = osel (nst row).toD (fun x => .ok x (ro.set i (some (.d x)))) .stuck := by
    unfold esel nst
    simp only
    cases (O.lst _).toD <;> rfl
  rw [this, nst_toD]
  rfl
theorem itS_nst (row : List Bk) (n : Nat) (hn : n < row.length) (j : Nat) (ro : Ro) : itS (some (nst row)) (some (.int (n : Int))) j ro = .ok (.sl j [.i n]) ro := by
  unfold itS nst
  simp only [List.length_map]
  rw [ix_pos _ _ (by omega) (by omega), osel_some, Int.toNat_natCast, List.getElem?_map, List.getElem?_eq_getElem hn]
  rfl
theorem lkI_nst (row : List Bk) (n : Nat) (hn : n < row.length) : lkI (some (nst row)) n = some (ol ((row.getD n bk0).l.map PyData.int)) := by
  show (row.map fun b => ol (b.l.map PyData.int))[n]? = _
  rw [List.getElem?_map, List.getD_eq_getElem?_getD, List.getElem?_eq_getElem hn]
  rfl
theorem app_nst (row : List Bk) (n k : Nat) (hn : n < row.length) (hl : (row.getD n bk0).l.length ≤ 1000) (j : Nat) (ro : Ro) : mthI (some (nst row)) .append j n [.d (.int (k : Int))] ro = .ok (.tm (.d .none)) (ro.set j (some (nst (insW k row n)))) := by
  obtain ⟨A, b, C, rfl, rfl⟩ := split_at row hn
  have eb : (A ++ b :: C).getD A.length bk0 = b := by simp
  rw [eb] at hl
  show osel ((A ++ b :: C).map fun b => ol (b.l.map PyData.int))[A.length]? _ _ = _
  have e1 : ((A ++ b :: C).map fun b => ol (b.l.map PyData.int))[A.length]? = some (ol (b.l.map PyData.int)) := by simp
  rw [e1, osel_some]
  have e2 : mthL .append ((b.l.map PyData.int).map .d) [.d (.int (k : Int))] = some (.d .none, ((b.l.map PyData.int) ++ [PyData.int (k : Int)]).map .d) := by
    simp only [mthL, List.length_map]
    rw [if_pos (lenOk_of (by omega))]
    simp
  show osel (mthL .append ((b.l.map PyData.int).map .d) [.d (.int (k : Int))]) _ _ = _
  rw [e2, osel_some, insW_eq]
  unfold nst
  simp [ol]
theorem flat_ints (xs : List Int) : flatO (ol (xs.map PyData.int)) = true := by
  unfold flatO ol
  simp [scalD]
abbrev pS (L : List Int) (s : Int) (o2 : O) (j3 j4 : Option PyData) (j5 : Option O) : Ro := [some (.d (eL L)), some (.d (.int s)), some o2, jd j3, jd j4, j5, none, none, none]
theorem enum_row (row : List Bk) : enumD (nsD row) = (List.range row.length).map fun (n : Nat) => .tuple [.int (n : Int), .list ((row.getD n bk0).l.map PyData.int)] := by
  unfold nsD
  rw [enumD_map]
  refine List.ext_getElem (by simp) fun i h1 h2 => ?_
  have hi : i < row.length := by simpa using h2
  simp [hi]
theorem good_ev (l : Nat) (L : List Int) (s : Int) (hl : L.length ≤ 9) (k : Nat) (hk : k < L.length) (row : List Bk) (hr : Lo k row) (j5 : Option O) :
    ev (base.ge l) (.share 2 e_in_turn_2) (pS L s (nst row) (some (.int (k : Int))) (some (.int (wt L k))) j5) = .ok (.tm (ol (((List.range row.length).filter (okW L s k row)).map fun (n : Nat) => .int (n : Int)))) (pS L s (nst row) (some (.int (k : Int))) (some (.int (wt L k))) j5) := by
  have hc : ev (base.ge l) e_in_turn_2 (pS L s (.d (.list (nsD row))) (some (.int (k : Int))) (some (.int (wt L k))) j5) = .ok (.tm (ol (((List.range row.length).filter (okW L s k row)).map fun (n : Nat) => .int (n : Int)))) (pS L s (.d (.list (nsD row))) (some (.int (k : Int))) (some (.int (wt L k))) j5) := by
    refine ev_filt (fun (n : Nat) => .tuple [.int (n : Int), .list ((row.getD n bk0).l.map PyData.int)]) (List.range row.length) (okW L s k row) (fun (n : Nat) => .int (n : Int)) ?_ rfl rfl (by have := hr.2.1; rw [List.length_range]; omega) fun n hn => ?_
    · have : (nsD row).length ≤ 16777216 := by unfold nsD; rw [List.length_map]; have := hr.2.1; omega
      unfold pS
      simp only [jd_some]
      rw [← enum_row]
      walk_at "ev"
    · have hn := List.mem_range.mp hn
      have hb : (row.getD n bk0) ∈ row := by rw [List.getD_eq_getElem?_getD, List.getElem?_eq_getElem hn]; exact List.getElem_mem hn
      have lo := hr.1 _ hb
      have ln := hr.2.2 _ hb
      have sm : ((row.getD n bk0).l.map (wt L)).sum = bsum L (row.getD n bk0) := rfl
      have is : intsD ((row.getD n bk0).l.map fun i => PyData.int (wt L i)) = some ((row.getD n bk0).l.map (wt L)) := intsD_map (wt L) _
      have hin : ev (base.ge l) e_in_turn_1 [some (.d (eL L)), some (.d (.int s)), some (.d (.list (nsD row))), some (.d (.int (k : Int))), some (.d (.int (wt L k))), j5, some (.d (.list ((row.getD n bk0).l.map PyData.int))), some (.d (.int (n : Int))), none] = .ok (.tm (ol ((row.getD n bk0).l.map fun i => .int (wt L i)))) [some (.d (eL L)), some (.d (.int s)), some (.d (.list (nsD row))), some (.d (.int (k : Int))), some (.d (.int (wt L k))), j5, some (.d (.list ((row.getD n bk0).l.map PyData.int))), some (.d (.int (n : Int))), none] := by
        refine ev_map PyData.int (row.getD n bk0).l _ ?_ rfl rfl (by omega) fun a ha => ?_
        · walk_at "ev"
        · have q := lo a ha
          have g := wt_get (L := L) q.1 (by omega)
          have q2 : a < (L.length : Int) := by omega
          walk_at "ev"
          simp only [g]; walk_at "ev"
      unfold okW pS
      simp only [jd_some]
      generalize row.getD n bk0 = b at *
      walk_at "ev"
      simp only [hin]; walk_at "ev"
      simp only [is]; walk_at "ev"
      rw [sm]
  have hf : flatO (ol (((List.range row.length).filter (okW L s k row)).map fun (n : Nat) => PyData.int (n : Int))) = true := by
    have := flat_ints (((List.range row.length).filter (okW L s k row)).map fun (n : Nat) => (n : Int))
    rw [List.map_map] at this
    exact this
  have hq : qt e_in_turn_2 = true := by decide +kernel
  rw [ev]
  have h2 : (pS L s (nst row) (some (.int (k : Int))) (some (.int (wt L k))) j5)[2]? = some (some (nst row)) := rfl
  rw [h2]
  simp only [nst_toD, hq, if_true]
  have h3 : (pS L s (nst row) (some (.int (k : Int))) (some (.int (wt L k))) j5).set 2 (some (.d (.list (nsD row)))) = pS L s (.d (.list (nsD row))) (some (.int (k : Int))) (some (.int (wt L k))) j5 := rfl
  rw [h3, hc]
  simp only [Out.fin, hf, if_true]
theorem turn_ev {L : List Int} {s : Int} (h : WOk L s) (l : Nat) : callN base (l + 4) 4 [.d (eL L), .d (.int s)] = .ok (.d (eR (itn L s L.length))) [] := by
  have hl := h.n9
  have wti : ∀ i : Nat, i < L.length → wt L i ≤ s := fun i h1 => (h.w _ (by
    unfold wt
    have : ((i : Nat) : Int).toNat = i := by omega
    rw [this, List.getD_eq_getElem?_getD, List.getElem?_eq_getElem h1]
    exact List.getElem_mem h1)).2
  have loop : ∃ ro', ex (base.ge (l + 3)) f_in_turn_0 (pS L s (nst []) none none none) = .nx ro' ∧ ∃ j3 j4 j5, ro' = pS L s (nst (itn L s L.length)) j3 j4 j5 := by
    unfold f_in_turn_0
    rw [s_for']
    have e : evI (base.ge (l + 3)) true (.enum (.cons (.var 0) .nil)) (pS L s (nst []) none none none) = .ok ((List.range L.length).map fun (k : Nat) => .tuple [.int (k : Int), .int (wt L k)]) (pS L s (nst []) none none none) := by
      have en : enumD (L.map PyData.int) = (List.range L.length).map fun (k : Nat) => .tuple [.int (k : Int), .int (wt L k)] := by
        rw [enumD_map]
        refine List.ext_getElem (by simp) fun i h1 h2 => ?_
        have hi : i < L.length := by simpa using h2
        simp [wt, hi]
      unfold pS
      walk_at "ev"
      rw [en]
    rw [e, Out.then_ok]
    refine (fLoop_ind (fun (k : Nat) => PyData.tuple [.int (k : Int), .int (wt L k)]) (List.range L.length) (fun pre ro => ∃ j3 j4 j5, ro = pS L s (nst (itn L s pre.length)) j3 j4 j5) ?_ (List.range L.length) [] _ rfl ⟨none, none, none, rfl⟩).imp fun ro' K => ⟨K.1, ?_⟩
    rotate_left
    · have := K.2
      rw [List.length_range] at this
      exact this
    · rintro pre k post ro hro ⟨j3, j4, j5, rfl⟩
      have hlt : pre.length < L.length := by
        have := congrArg List.length hro
        simp at this
        omega
      have hk : k = pre.length := by
        have h1 : (List.range L.length)[pre.length]? = some k := by rw [hro]; simp
        rw [List.getElem?_range hlt] at h1
        exact (Option.some.inj h1).symm
      rw [List.length_append, List.length_singleton]
      rw [← hk] at hlt ⊢
      have hr : Lo k (itn L s k) := itn_lo fun i hi => wti i (by omega)
      have ei : itn L s (k + 1) = putT L s k (itn L s k) := rfl
      rw [ei]
      generalize itn L s k = row at hr
      have g := good_ev (l + 3) L s hl k hlt row hr j5
      have hf : (List.range row.length).find? (okW L s k row) = ((List.range row.length).filter (okW L s k row)).head? := by rw [List.head?_filter]
      have rl := hr.2.1
      cases hg : (List.range row.length).filter (okW L s k row) with
      | nil =>
        rw [hg] at g hf
        have pt : putT L s k row = row ++ [(⟨[(k : Int)]⟩ : Bk)] := by unfold putT; rw [hf]; rfl
        have en : nst (row ++ [(⟨[(k : Int)]⟩ : Bk)]) = .lst ((row.map fun b => ol (b.l.map PyData.int)) ++ [ol [.int (k : Int)]]) := by unfold nst; rw [List.map_append]; rfl
        have ml : (row.map fun b => ol (b.l.map PyData.int)).length ≤ 1000000 := by rw [List.length_map]; omega
        refine ⟨pS L s (nst row) (some (.int (k : Int))) (some (.int (wt L k))) j5, pS L s (nst (row ++ [(⟨[(k : Int)]⟩ : Bk)])) (some (.int (k : Int))) (some (.int (wt L k))) (some (ol [])), rfl, .inl ?_, some (.int (k : Int)), some (.int (wt L k)), some (ol []), by rw [pt]⟩
        rw [en]
        unfold pS at g ⊢
        simp only [jd_some, List.map_nil] at g ⊢
        rw [s_seq', s_setc', g]
        walk_at "ev"
        unfold nst
        walk_at "ev"
      | cons n t =>
        rw [hg] at g hf
        have hn : n < row.length := by
          have : n ∈ (List.range row.length).filter (okW L s k row) := by rw [hg]; simp
          exact List.mem_range.mp (List.mem_filter.mp this).1
        have pt : putT L s k row = insW k row n := by unfold putT; rw [hf]; rfl
        have hb : (row.getD n bk0) ∈ row := by rw [List.getD_eq_getElem?_getD, List.getElem?_eq_getElem hn]; exact List.getElem_mem hn
        have ln := hr.2.2 _ hb
        have i1 := itS_nst row n hn 2
        have i2 := lkI_nst row n hn
        have i3 := app_nst row n k hn (by omega) 2
        have tl : (0 : Int) < (((t.map fun (n : Nat) => PyData.int (n : Int)).length + 1 : Nat) : Int) := by omega
        refine ⟨pS L s (nst row) (some (.int (k : Int))) (some (.int (wt L k))) j5, pS L s (nst (insW k row n)) (some (.int (k : Int))) (some (.int (wt L k))) (some (ol (.int (n : Int) :: t.map fun (n : Nat) => .int (n : Int)))), rfl, .inl ?_, some (.int (k : Int)), some (.int (wt L k)), _, by rw [pt]⟩
        unfold pS at g ⊢
        simp only [jd_some, List.map_cons] at g ⊢
        rw [s_seq', s_setc', g]
        generalize (t.map fun (n : Nat) => PyData.int (n : Int)) = ts at tl
        walk_at "ev"
        simp only [tl]; walk_at "ev"
        simp only [i1]; walk_at "ev"
        simp only [i2]; walk_at "ev"
        simp only [i3]; walk_at "ev"
  obtain ⟨_, w, j3, j4, j5, rfl⟩ := loop
  have h1 := check_ok h l
  have hr : Lo L.length (itn L s L.length) := itn_lo wti
  generalize itn L s L.length = row at w hr
  have rl := hr.2.1
  have hfin : ev (base.ge (l + 3)) e_in_turn_0 (pS L s (nst row) j3 j4 j5) = .ok (.tm (ol (row.map eB))) (pS L s (.d (.list (nsD row))) j3 j4 j5) := by
    refine ev_map (fun b : Bk => .list (b.l.map PyData.int)) row eB ?_ rfl rfl (by omega) fun b hb => ?_
    · unfold pS
      have es := esel_nst row 2
      walk_at "ev"
      simp only [es]; walk_at "ev"
      rfl
    · unfold pS
      walk_at "ev"
      rfl
  rw [callN_eq t_in_turn rfl]
  unfold r4 b4
  unfold pS at w hfin
  have en : (O.lst []) = nst [] := rfl
  simp only [jd_none] at w
  walk_at "ev"
  simp only [h1]; walk_at "ev"
  have e0 : nst [] = ol [] := rfl
  rw [e0] at w
  simp only [w]; walk_at "ev"
  simp only [hfin]; walk_at "ev"
  rfl

/-! the class of sheets -/
theorem toKeys_ints : ∀ l : List Int, toKeys (l.map PyData.int) = some (l.map NestedKey.num)
  | [] => by simp [toKeys]
  | x :: xs => by simp [toKeys, toKey, toKeys_ints xs]
theorem depAll_num : ∀ l : List Int, NestedKey.depthAll (l.map NestedKey.num) = 0
  | [] => by simp [NestedKey.depthAll]
  | x :: xs => by simp [NestedKey.depthAll, NestedKey.depth, depAll_num xs]
instance : Lw.EncK Bk where
  key t := t.l.map .num
  isKey t := by simp [Lw.Enc.enc, toKey, toKeys_ints]
  dpt t := by simp [NestedKey.depth, depAll_num]
def nsS : List Str := ["_widths", "_size", "_known"]
def osS (L : List Int) (s : Int) (K : List (Bk × O)) : List O := [.d (eL L), .d (.int s), dcE K]
def shO (L : List Int) (s : Int) (K : List (Bk × O)) : O := .ins "Sheets" nsS (osS L s K)
section
variable {L : List Int} {s : Int} {K : List (Bk × O)}
theorem insOf_sh : insOf (some (shO L s K)) = some (("Sheets" : Str), nsS, osS L s K) := Eq.trans rfl rfl
theorem getN_w : getN nsS (osS L s K) "_widths" = some (.d (eL L)) := by unfold nsS osS; kernel_rfl
theorem getN_z : getN nsS (osS L s K) "_size" = some (.d (.int s)) := by unfold nsS osS; kernel_rfl
theorem getN_k : getN nsS (osS L s K) "_known" = some (dcE K) := by unfold nsS osS; kernel_rfl
theorem fldT_dcE (i : Nat) (f : Str) (xs : List (Bk × O)) (ro : Ro) : fldT i [] f (dcE xs) ro = .ok (.sl i [.f f]) ro := Eq.trans rfl rfl
theorem isIns_r : isIns "Sheets" "_rows" (some (shO L s K)) = true := by unfold shO nsS; kernel_rfl
theorem isIns_b : isIns "Sheets" "best" (some (shO L s K)) = true := by unfold shO nsS; kernel_rfl
theorem insM_sh (f : O → Out Hd) : insM (some (shO L s K)) f = f (shO L s K) := Eq.trans rfl rfl
theorem newS_sh (bs : List (Option O)) (ro : Ro) : newS "Sheets" (.ok (.d .none) (some (shO L s K) :: bs)) ro = .ok (.tm (shO L s K)) ro := by unfold shO nsS; kernel_rfl
theorem deep_f (i : Nat) (f : Str) : (Hd.sl i [.f f]).deep = true := Eq.trans rfl rfl
theorem look_k (ro : Ro) : (Hd.sl 0 [.f "_known"]).look (some (shO L s K) :: ro) = some (dcE K) := by
  show O.walk [.f "_known"] (shO L s K) = _
  show osel (getN nsS (osS L s K) "_known") (fun o => some o) none = _
  rw [getN_k]; rfl
theorem din_k (left : List Int) (ro : Ro) : dinS true (dcE K) (eL left) ro = .ok (.tm (.d (.bool (!decide ((⟨left⟩ : Bk) ∈ K.map (·.1)))))) ro := by
  have := dinS_dcE (ro := ro) true K (⟨left⟩ : Bk)
  have e : (Enc.enc (⟨left⟩ : Bk) : PyData) = eL left := rfl
  rw [e] at this
  rw [this]
  simp
theorem dget_k (left : List Int) (ro : Ro) (x : PyData) (h : getA (⟨left⟩ : Bk) K = some (.d x)) : dgetS (dcE K) (eL left) ro = .ok (.tm (.d x)) ro := by
  have := dgetS_dcE (ro := ro) K (⟨left⟩ : Bk)
  have e : (Enc.enc (⟨left⟩ : Bk) : PyData) = eL left := rfl
  rw [e] at this
  rw [this, h]
  rfl
theorem stD_k (left : List Int) (y : O) (ro : Ro) (hl : K.length < 1000000) : stD (.sl 0 [.f "_known"]) (eL left) y (some (shO L s K) :: ro) = .nx (some (shO L s (putA (⟨left⟩ : Bk) y K)) :: ro) := by
  have e1 : stD (.sl 0 [.f "_known"]) (Enc.enc (⟨left⟩ : Bk)) y (some (shO L s K) :: ro) = osel (keyT (Enc.enc (⟨left⟩ : Bk))) (fun q => if lenOk ((K.map fun p => Enc.enc p.1).length + 1) = true then SOut.nx (some (.ins "Sheets" nsS [.d (eL L), .d (.int s), .dct (dPut (K.map fun p => Enc.enc p.1) (K.map (·.2)) (Enc.enc (⟨left⟩ : Bk)) q y).1 (dPut (K.map fun p => Enc.enc p.1) (K.map (·.2)) (Enc.enc (⟨left⟩ : Bk)) q y).2]) :: ro) else .stuck) .stuck := by
    have w : O.walk [.f "_known"] (shO L s K) = some (.dct (K.map fun p => Enc.enc p.1) (K.map (·.2))) := by
      show osel (getN nsS (osS L s K) "_known") (fun o => some o) none = _
      rw [getN_k]; rfl
    have pu : ∀ o : O, O.put [.f "_known"] o (shO L s K) = some (.ins "Sheets" nsS [.d (eL L), .d (.int s), o]) := fun o => by unfold shO nsS osS; kernel_rfl
    unfold stD
    simp only [List.getElem?_cons_zero, w, pu]
    cases keyT (Enc.enc (⟨left⟩ : Bk)) <;> rfl
  have e : (Enc.enc (⟨left⟩ : Bk) : PyData) = eL left := rfl
  rw [← e, e1, keyT_enc, osel_some, dPut_enc, List.length_map, if_pos (lenOk_of (by omega))]
  rfl
end
theorem sh_init (l : Nat) (L : List Int) (s : Int) : callN base (l + 1) 12 [.ins "Sheets" [] [], .d (eL L), .d (.int s)] = .ok (.d .none) [some (shO L s [(⟨[]⟩, .d (eR []))]), none, none] := by
  unfold shO nsS osS eL
  kernel_rfl
/-! the rows -/
theorem sort_rows (rows : List Bk) (h : ∀ b ∈ rows, b.l ≠ []) (hl : rows.length ≤ 16777216) : sortD (rows.map eB) = some ((isort rows).map eB) := by
  unfold sortD
  have h1 := allAlike_enc rows (by decide)
  have h2 : (rows.map eB).all fullTup = true := by
    rw [List.all_map, List.all_eq_true]
    intro b hb
    have := h b hb
    obtain ⟨l⟩ := b
    cases l with
    | nil => exact absurd rfl this
    | cons x xs => rfl
  have h1 : allAlike (rows.map eB) = true := h1
  have h3 : insSort (rows.map eB) = (isort rows).map eB := insSort_enc rows
  rw [h1, List.length_map, lenOk_of hl, h2, h3]
  rfl
theorem rowsF_len (L : List Int) (s : Int) : ∀ (xs : List Int) (rows : List Bk), (rowsF L s rows xs).length ≤ rows.length * 2 ^ xs.length
  | [], rows => by simp [rowsF]
  | x :: xs, rows => by
    have h1 := rowsF_len L s xs (rows ++ ((rows.map fun r => (⟨r.l ++ [x]⟩ : Bk)).filter fun r => decide (bsum L r ≤ s)))
    have h2 := List.length_filter_le (fun r => decide (bsum L r ≤ s)) (rows.map fun r => (⟨r.l ++ [x]⟩ : Bk))
    rw [List.length_map] at h2
    rw [rowsF, List.length_cons, Nat.pow_succ]
    rw [List.length_append] at h1
    have h3 : (rows.length + ((rows.map fun r => (⟨r.l ++ [x]⟩ : Bk)).filter fun r => decide (bsum L r ≤ s)).length) * 2 ^ xs.length ≤ (rows.length + rows.length) * 2 ^ xs.length := Nat.mul_le_mul_right _ (by omega)
    have h4 : (rows.length + rows.length) * 2 ^ xs.length = rows.length * (2 ^ xs.length * 2) := by rw [← Nat.two_mul, Nat.mul_comm 2, Nat.mul_assoc, Nat.mul_comm 2]
    omega
theorem rowsF_app (L : List Int) (s : Int) : ∀ (xs ys : List Int) (rows : List Bk), rowsF L s rows (xs ++ ys) = rowsF L s (rowsF L s rows xs) ys
  | [], ys, rows => rfl
  | x :: xs, ys, rows => by rw [List.cons_append, rowsF, rowsF, rowsF_app L s xs ys]
abbrev rS (L : List Int) (s : Int) (K : List (Bk × O)) (left : List Int) (o2 : O) (j3 : Option PyData) (o4 : Option O) : Ro := [some (shO L s K), some (.d (eL left)), some o2, jd j3, o4, none, none]
local macro_rules | `(tactic| walk_at "ev") => `(tactic| try simp (disch := first | assumption | omega | (simp only [List.length_cons, List.length_nil, List.length_append, List.length_map, List.length_zip] <;> omega)) only [seval, Lw.ol_toD, Lw.ol_flat, Lw.ol_slice, Lw.ge_call, Lw.ge_glob, Lw.ge_wf, Lw.ge_exm, Lw.bsel_some, Lw.osel_some, Lw.osel_none, Lw.q_var, Lw.q_int, Lw.q_bl, Lw.q_non, Lw.q_str, Lw.q_glob, Lw.q_bin, Lw.q_not, Lw.q_and, Lw.q_or, Lw.q_one, Lw.q_cmp, Lw.q_chain, Lw.q_ifx, Lw.q_tup, Lw.q_lst, Lw.q_idx, Lw.q_slc, Lw.fsel_ok, Lw.fsel_exc, Lw.q_call, Lw.q_prim, Lw.q_isi, Lw.q_nox, Lw.noxE_ok, Lw.q_nil, Lw.q_cons, Lw.qB_nil, Lw.qB_one, Lw.qI_seqT, Lw.qI_seqF, Lw.qI_enumT, Lw.qI_enumF, Lw.qI_zipT, Lw.qI_zipF, Lw.ssel_nx, Lw.ssel_ret, Lw.ssel_exc, Lw.ssel_brk, Lw.ssel_ct, Lw.s_nil', Lw.s_seq', Lw.s_ret', Lw.s_retN', Lw.s_set', Lw.s_setc', Lw.s_unp', Lw.s_par2', Lw.s_par3', Lw.dsel_d, Lw.s_aug', Lw.s_exp', Lw.s_ife', Lw.s_rai', Lw.s_pass', Lw.s_doc', Lw.s_brk', Lw.s_cnt', Lw.xsel_exc, Lw.xsel_nx, Lw.xsel_ret, Lw.s_try', Lw.nox_nx, Lw.nox_ret, Lw.s_hd', Lw.s_hnil', Lw.tst_eq, Lw.cBody_eq, Lw.bind_ok2, Lw.bind_exc2, Lw.bind_stuck2, Lw.then_ok2, Lw.then_exc2, Lw.then_stuck2, Lw.ofOpt_some2, Lw.ofOpt_none2, Lw.ite_okh, Lw.ite_tm, Lw.ite_od, Lw.ite_bool, Lw.ite_int, Lw.isiD_eq, Lw.flat_lst, Lw.whole_int, Lw.ite_else_false, Lw.ite_then_true, Lw.ite_not_false, Lw.flat_d, Lw.eqD_int, Lw.eqD_str, Lw.boolsD_map, Lw.look_tm2, Lw.look_sl2, Lw.join_some2, Lw.lookD_eq, Lw.lookF_eq, Lw.opd_tm, Lw.opd_sl, Lw.boolOf_bool, Lw.bool_eq, Lw.sto_tm, Lw.sto_sl, Lw.esc_tm, Lw.esc_sl, Lw.esel_d, Lw.esel_ol, Lw.arg_eq, Lw.asel_scr, Lw.asel_d, Lw.asel_ol, Lw.asel_lst, Lw.argsO_nil, Lw.argsO_cons, Lw.escs_nil, Lw.escs_cons, Lw.stos_nil, Lw.stos_cons, Lw.looksD_nil, Lw.looksD_cons, Lw.looksF_nil, Lw.looksF_cons, Lw.partD_nil, Lw.intOf_int, Lw.partD_one, Lw.okD_eq, Lw.deep_tm, Lw.deep_sl, Lw.isB_int_none, Lw.isB_int_bool, Lw.isB_int_int, Lw.isB_int_str, Lw.isB_int_list, Lw.isB_int_tuple, Lw.isB_bool_none, Lw.isB_bool_bool, Lw.isB_bool_int, Lw.isB_bool_str, Lw.isB_bool_list, Lw.isB_bool_tuple, Lw.isB_str_none, Lw.isB_str_bool, Lw.isB_str_int, Lw.isB_str_str, Lw.isB_str_list, Lw.isB_str_tuple, Lw.isB_tuple_none, Lw.isB_tuple_bool, Lw.isB_tuple_int, Lw.isB_tuple_str, Lw.isB_tuple_list, Lw.isB_tuple_tuple, Lw.isB_list_none, Lw.isB_list_bool, Lw.isB_list_int, Lw.isB_list_str, Lw.isB_list_list, Lw.isB_list_tuple, Lw.whole_none, Lw.whole_bool, Lw.whole_str, Lw.whole_list, Lw.whole_tuple, Lw.primO_len, Lw.primO_int, Lw.primO_abs, Lw.primO_max, Lw.primO_min, Lw.primO_sum, Lw.primO_all, Lw.primO_any, Lw.primO_tuple, Lw.primO_list, Lw.primO_sorted, Lw.lenO_l, Lw.lenO_t, Lw.intO_i, Lw.absO_i, Lw.maxO_2, Lw.minO_2, Lw.sumO_l, Lw.sumO_t, Lw.allO_l, Lw.anyO_l, Lw.tupleO_l, Lw.tupleO_t, Lw.listO_l, Lw.listO_t, Lw.sortedO_l, Lw.bin_add, Lw.bin_sub, Lw.cmp_Eq, Lw.cmp_NotEq, Lw.cmp_Lt, Lw.cmp_LtE, Lw.cmp_Gt, Lw.cmp_GtE, Lw.cmp_In, Lw.cmp_NotIn, Lw.cmp_Is, Lw.cmp_IsNot, Lw.notNone_none, Lw.notNone_bool, Lw.notNone_int, Lw.notNone_str, Lw.notNone_list, Lw.notNone_tuple, Lw.ltD_int, Lw.leD_int, Lw.gtD_int, Lw.geD_int, Lw.idx_t, Lw.idx_l, Lw.items_l, Lw.items_t, Lw.slice_t, Lw.slice_dl, Lw.slice_scr, Lw.zsel_l, Lw.zsel_t, Lw.zsel_lt, Lw.zsel_tl, Lw.outF_ret, Lw.outF_nx, Lw.outF_exc, Lw.outM_ret1, Lw.outM_ret2, Lw.outM_ret3, Lw.outM_ret4, Lw.outM_nx1, Lw.outM_nx2, Lw.outM_nx3, Lw.outM_nx4, Lw.outM_exc, Lw.asgT_var, Lw.asgT_tup, Lw.asgTs_nil, Lw.asgTs_cons, Lw.wipe_nil, Lw.wipe_cons, Lw.quiet_nil, Lw.quiet_cons, Lw.quiet_none, Lw.quiet_d, Lw.quiet_jd, Lw.aug_add2, Lw.aug_sub2, Lw.q_neg2, Lw.revO_t, Lw.revO_l, Lw.q_rev2, Lw.listOf_l, Lw.q_sset2, Lw.qI_rng1', Lw.rgsel_2, Lw.qI_rng2', Lw.bin_mul1, Lw.bin_mul3, Lw.bin_fdiv1, Lw.bin_fdiv2, Lw.bin_mod1, Lw.aug_mul1, Lw.bin_addT1, Lw.bin_addL1, Lw.bin_mulL1, Lw.bin_mulT1, Lw.ix_pos, Lw.ix_neg, Lw.lenOk_ok, Lw.rgD_ok', Lw.eqD_ints, Lw.eqD_tints, Lw.sliceD_from, Lw.sliceD_to, Lw.ltD_tints, Lw.leD_tints, Lw.ol_nil', Lw.ol_one', Lw.ol_two', Lw.ol_three', Lw.ol_four', Lw.ol_five', Lw.bin_pow1, Lw.lsel_ol, Lw.q_mth, Lw.appS_ok, Lw.mth_app, Lw.mth_ext, Lw.mth_extd, Lw.q_dnew, Lw.datO_d, Lw.dgetS_dct, Lw.q_dget, Lw.dinS_dct, Lw.q_din, Lw.bin_subB, Lw.lOf_ol, Lw.stI_sl, Lw.s_sti', Lw.stD_sl, Lw.s_std', Lw.q_dsort', Lw.insOf_i, Lw.fldT_d, Lw.fldT_dct, Lw.fldT_ol, Lw.fldT_ins, Lw.onC_yes, Lw.q_attrV, Lw.meS_ok, Lw.meT_ok, Lw.q_meth, Lw.meG_sl, Lw.meG_tm, Lw.q_attrC, Lw.atR_tm, Lw.stA_sl, Lw.tupOf_t, Lw.nxS_nx, Lw.unA_nil, Lw.unA_cons, Lw.s_sta', Lw.s_una', Lw.s_auga', Lw.fldS_sl, Lw.q_mv, Lw.q_new, Lw.mth_pop, Lw.deep_i, Lw.q_at, Lw.itR_sl, Lw.itS_last, Lw.itS_zero, Lw.look_i, Lw.lkI_last, Lw.lkI_zero, Lw.isLst_ol, Lw.q_mthA, Lw.mthH_sl, Lw.mthR_i, Lw.app_last, Lw.pop_last, Lw.lsel_lst, Lw.mth_push, Lw.pushS_ok, Lw.popS_last, Lw.getLast_concat, Lw.T.exm_BadLeast_BadLeast, Lw.T.exm_BadLeast_BadSize, Lw.T.exm_BadLeast_BadWidths, Lw.T.exm_BadSize_BadLeast, Lw.T.exm_BadSize_BadSize, Lw.T.exm_BadSize_BadWidths, Lw.T.exm_BadWidths_BadLeast, Lw.T.exm_BadWidths_BadSize, Lw.T.exm_BadWidths_BadWidths, Lw.T.gl_MOST_SIZE, Lw.T.gl_MOST_WIDTHS, Lw.T.sp_is_whole, Lw.T.insOf_sh, Lw.T.getN_w, Lw.T.getN_z, Lw.T.getN_k, Lw.T.fldT_dcE, Lw.T.isIns_r, Lw.T.isIns_b, Lw.T.insM_sh, Lw.T.newS_sh, Lw.T.deep_f, Lw.T.look_k, O.walk, O.toD, O.toDs, O.flats, qt, List.getElem?_cons_zero, List.getElem?_cons_succ, List.set_cons_zero, List.set_cons_succ, List.map_cons, List.map_nil, List.cons_append, List.nil_append, List.append_nil, List.length_cons, List.length_nil, List.length_append, List.length_map, List.length_zip,  List.replicate, Option.bind_some, Option.bind_none, Option.map_some, Option.map_none, if_true, if_false, Bool.not_true, Bool.not_false, Bool.true_and, Bool.and_true, Bool.false_and, Bool.and_false, Bool.true_or, Bool.or_true, Bool.false_or, Bool.or_false, Bool.false_eq_true, Bool.and_self, and_self, true_and, and_true, decide_true, decide_false, Nat.zero_add, Nat.reduceAdd, Nat.reduceSub, Nat.reduceLeDiff, reduceCtorEq, Int.natCast_zero, Int.natCast_one, Int.cast_ofNat_Int, Int.reduceLT, Int.reduceLE, Int.reduceToNat, Int.reduceNeg, Int.reduceAdd, Int.reduceSub, Int.reducePow, Nat.reducePow, Int.reduceMul, Nat.reduceMul, List.reduceReplicate, List.flatten_cons, List.flatten_nil, ne_eq, not_false_eq_true, not_true_eq_false, List.cons_ne_nil])
theorem rows_ev (l : Nat) (L : List Int) (s : Int) (hl : L.length ≤ 9) (K : List (Bk × O)) (a : Int) (rest : List Int) (hr : ∀ x ∈ a :: rest, 0 ≤ x ∧ x < L.length) (hn : rest.length ≤ 8) :
    callN base (l + 1) 13 [shO L s K, .d (eL (a :: rest))] = .ok (ol ((isort (rows0 L s a rest)).map eB)) [some (shO L s K), none] := by
  have p8 : ∀ n, n ≤ 8 → 2 ^ n ≤ 256 := fun n hn => Nat.le_trans (Nat.pow_le_pow_right (by omega) hn) (by decide)
  have nums : ∀ (xs : List Int), (∀ x ∈ xs, x ∈ rest) → xs.length ≤ 8 → ∀ b ∈ rowsF L s [⟨[a]⟩] xs, (∀ x ∈ b.l, 0 ≤ x ∧ x < L.length) ∧ b.l.length ≤ 9 ∧ b.l ≠ [] := fun xs hx hn b hb => by
    obtain ⟨r0, h0, t, ht, e, _⟩ := rowsF_sound hb
    have : r0 = ⟨[a]⟩ := by simpa using h0
    subst this
    have tl := ht.length_le
    refine ⟨fun x hx' => ?_, by rw [e]; simp; omega, by rw [e]; simp⟩
    rw [e] at hx'
    rcases List.mem_append.mp hx' with z | z
    · rw [List.mem_singleton.mp z]; exact hr a List.mem_cons_self
    · exact hr x (List.mem_cons_of_mem _ (hx x (ht.subset z)))
  have loop : ∃ ro', ex (base.ge l) f_Sheets__rows_0 (rS L s K (a :: rest) (ol [eB ⟨[a]⟩]) none none) = .nx ro' ∧ ∃ j3 o4, ro' = rS L s K (a :: rest) (ol ((rows0 L s a rest).map eB)) j3 o4 := by
    unfold f_Sheets__rows_0
    rw [s_for']
    have e : evI (base.ge l) true (.seq (.slc (.var 1) (.cons (.int 1) .nil) .nil)) (rS L s K (a :: rest) (ol [eB ⟨[a]⟩]) none none) = .ok (rest.map .int) (rS L s K (a :: rest) (ol [eB ⟨[a]⟩]) none none) := by
      unfold rS
      walk_at "ev"
      simp
    rw [e, Out.then_ok]
    refine (fLoop_ind PyData.int rest (fun pre ro => ∃ j3 o4, ro = rS L s K (a :: rest) (ol ((rows0 L s a pre).map eB)) j3 o4) ?_ rest [] _ rfl ⟨none, none, rfl⟩)
    rintro pre x post ro hro ⟨j3, o4, rfl⟩
    have pl : pre.length ≤ 8 := by
      have := congrArg List.length hro
      simp at this; omega
    have hx : 0 ≤ x ∧ x < L.length := hr x (List.mem_cons_of_mem _ (by rw [hro]; simp))
    have R0 := nums pre (fun y hy => by rw [hro]; simp [hy]) pl
    have RL := rowsF_len L s pre [⟨[a]⟩]
    have e2 := p8 pre.length pl
    have e1 : rows0 L s a (pre ++ [x]) = rows0 L s a pre ++ (((rows0 L s a pre).map fun r => (⟨r.l ++ [x]⟩ : Bk)).filter fun r => decide (bsum L r ≤ s)) := by
      unfold rows0
      rw [rowsF_app]
      rfl
    rw [e1, List.map_append]
    change ∀ b ∈ rows0 L s a pre, _ at R0
    change (rows0 L s a pre).length ≤ _ at RL
    generalize rows0 L s a pre = R at R0 RL
    have Rl : R.length ≤ 256 := by simp at RL; omega
    have h2 : ev (base.ge l) e_Sheets__rows_2 [some (shO L s K), some (.d (eL (a :: rest))), some (ol (R.map eB)), some (.d (.int x)), o4, none, none] = .ok (.tm (ol ((R.map fun r => (⟨r.l ++ [x]⟩ : Bk)).map eB))) [some (shO L s K), some (.d (eL (a :: rest))), some (ol (R.map eB)), some (.d (.int x)), o4, none, none] := by
      rw [List.map_map]
      refine ev_map eB R _ ?_ rfl rfl (by omega) fun b hb => ?_
      · walk_at "ev"
      · have bl := (R0 b hb).2.1
        have ml : (b.l.map PyData.int).length ≤ 9 := by rw [List.length_map]; exact bl
        have ee : (eB ∘ fun r : Bk => (⟨r.l ++ [x]⟩ : Bk)) b = .tuple (b.l.map .int ++ [.int x]) := by show PyData.tuple ((b.l ++ [x]).map .int) = _; simp
        rw [ee, eB_l]
        generalize b.l.map PyData.int = bs at ml
        walk_at "ev"
    have h1 : ev (base.ge l) e_Sheets__rows_1 [some (shO L s K), some (.d (eL (a :: rest))), some (ol (R.map eB)), some (.d (.int x)), some (ol ((R.map fun r => (⟨r.l ++ [x]⟩ : Bk)).map eB)), none, none] = .ok (.tm (ol (((R.map fun r => (⟨r.l ++ [x]⟩ : Bk)).filter fun r => decide (bsum L r ≤ s)).map eB))) [some (shO L s K), some (.d (eL (a :: rest))), some (ol (R.map eB)), some (.d (.int x)), some (ol ((R.map fun r => (⟨r.l ++ [x]⟩ : Bk)).map eB)), none, none] := by
      have hl' : (R.map fun r => (⟨r.l ++ [x]⟩ : Bk)).length ≤ 16777216 := by rw [List.length_map]; omega
      refine ev_filt eB (R.map fun r => (⟨r.l ++ [x]⟩ : Bk)) (fun r => decide (bsum L r ≤ s)) eB ?_ ?_ ?_ hl' fun b hb => ?_
      · walk_at "ev"
      · rfl
      · decide +kernel
      · obtain ⟨b0, hb0, rfl⟩ := List.mem_map.mp hb
        have lo : ∀ y ∈ b0.l ++ [x], 0 ≤ y ∧ y < L.length := fun y hy => by
          rcases List.mem_append.mp hy with z | z
          · exact (R0 b0 hb0).1 y z
          · rw [List.mem_singleton.mp z]; exact hx
        have ll : (b0.l ++ [x]).length ≤ 10 := by have := (R0 b0 hb0).2.1; simp; omega
        have sm : ((b0.l ++ [x]).map (wt L)).sum = bsum L ⟨b0.l ++ [x]⟩ := rfl
        have is : intsD ((b0.l ++ [x]).map fun i => PyData.int (wt L i)) = some ((b0.l ++ [x]).map (wt L)) := intsD_map (wt L) _
        have eb : eB ⟨b0.l ++ [x]⟩ = .tuple ((b0.l ++ [x]).map .int) := rfl
        rw [eb]
        have hin : ev (base.ge l) e_Sheets__rows_0 [some (shO L s K), some (.d (eL (a :: rest))), some (ol (R.map eB)), some (.d (.int x)), some (ol ((R.map fun r => (⟨r.l ++ [x]⟩ : Bk)).map eB)), some (.d (.tuple ((b0.l ++ [x]).map .int))), none] = .ok (.tm (ol ((b0.l ++ [x]).map fun i => .int (wt L i)))) [some (shO L s K), some (.d (eL (a :: rest))), some (ol (R.map eB)), some (.d (.int x)), some (ol ((R.map fun r => (⟨r.l ++ [x]⟩ : Bk)).map eB)), some (.d (.tuple ((b0.l ++ [x]).map .int))), none] := by
          refine ev_map PyData.int (b0.l ++ [x]) _ ?_ rfl rfl (by omega) fun i hi => ?_
          · walk_at "ev"
          · have q := lo i hi
            have g := wt_get (L := L) q.1 q.2
            have q2 := q.2
            walk_at "ev"
            simp only [g]; walk_at "ev"
        generalize b0.l ++ [x] = bl at *
        walk_at "ev"
        simp only [hin]; walk_at "ev"
        simp only [is]; walk_at "ev"
        rw [sm]
    have l1 : (R.map eB).length ≤ 256 := by rw [List.length_map]; exact Rl
    have l2 : (((R.map fun r => (⟨r.l ++ [x]⟩ : Bk)).filter fun r => decide (bsum L r ≤ s)).map eB).length ≤ 256 := by
      rw [List.length_map]
      have := List.length_filter_le (fun r => decide (bsum L r ≤ s)) (R.map fun r => (⟨r.l ++ [x]⟩ : Bk))
      rw [List.length_map] at this
      omega
    refine ⟨rS L s K (a :: rest) (ol (R.map eB)) (some (.int x)) o4, rS L s K (a :: rest) (ol (R.map eB ++ ((R.map fun r => (⟨r.l ++ [x]⟩ : Bk)).filter fun r => decide (bsum L r ≤ s)).map eB)) (some (.int x)) (some (ol ((R.map fun r => (⟨r.l ++ [x]⟩ : Bk)).map eB))), rfl, .inl ?_, some (.int x), _, rfl⟩
    unfold rS
    simp only [jd_some]
    rw [s_seq', s_setc', h2]
    generalize (R.map fun r => (⟨r.l ++ [x]⟩ : Bk)).map eB = M at h1
    generalize ((R.map fun r => (⟨r.l ++ [x]⟩ : Bk)).filter fun r => decide (bsum L r ≤ s)).map eB = M2 at h1 l2
    generalize R.map eB = M3 at h1 l1
    walk_at "ev"
    simp only [h1]; walk_at "ev"
  obtain ⟨_, w, j3, o4, rfl⟩ := loop
  have R0 := nums rest (fun y hy => hy) hn
  have RL := rowsF_len L s rest [⟨[a]⟩]
  have e2 := p8 rest.length hn
  have so := sort_rows (rows0 L s a rest) (fun b hb => (R0 b hb).2.2) (by
    change (rows0 L s a rest).length ≤ _ at RL
    simp at RL; omega)
  rw [callN_eqm 2 t_Sheets__rows rfl rfl]
  unfold r13 b13
  unfold rS at w
  have e0 : eB ⟨[a]⟩ = .tuple [.int a] := rfl
  rw [e0] at w
  simp only [jd_none] at w
  walk_at "ev"
  simp only [w]; walk_at "ev"
  simp only [so]; walk_at "ev"

/-! the first of the fewest, with what is known -/
theorem foldl_bstep {B1 B2 : List Int → List Bk} {left : List Int} : ∀ (rs : List Bk) (st : Option (List Bk)), (∀ r ∈ rs, B1 (outB left r) = B2 (outB left r)) → rs.foldl (bstep B1 left) st = rs.foldl (bstep B2 left) st
  | [], _, _ => rfl
  | r :: rs, st, h => by
    have e : bstep B1 left st r = bstep B2 left st r := by unfold bstep; rw [h r List.mem_cons_self]
    rw [List.foldl_cons, List.foldl_cons, e, foldl_bstep rs _ fun x hx => h x (List.mem_cons_of_mem _ hx)]
theorem rows_hd {L : List Int} {s a : Int} {rest : List Int} {r : Bk} (h : r ∈ isort (rows0 L s a rest)) : ∃ t, r = ⟨a :: t⟩ ∧ t.Sublist rest := by
  obtain ⟨r0, h0, t, ht, e, _⟩ := rowsF_sound (isort_mem.mp h)
  have : r0 = ⟨[a]⟩ := by simpa using h0
  subst this
  exact ⟨t, Tu.ext' (by rw [e]; rfl), ht⟩
theorem bst_fuel (L : List Int) (s : Int) : ∀ (n : Nat) (left : List Int) (f g : Nat), left.length ≤ n → n ≤ f → n ≤ g → bst L s f left = bst L s g left := by
  intro n
  induction n with
  | zero =>
    intro left f g h _ _
    have : left = [] := List.eq_nil_of_length_eq_zero (by omega)
    subst this
    cases f <;> cases g <;> rfl
  | succ n ih =>
    intro left f g h hf hg
    cases left with
    | nil => cases f <;> cases g <;> rfl
    | cons a rest =>
      obtain ⟨f, rfl⟩ : ∃ k, f = k + 1 := ⟨f - 1, by omega⟩
      obtain ⟨g, rfl⟩ : ∃ k, g = k + 1 := ⟨g - 1, by omega⟩
      show (List.foldl (bstep (bst L s f) (a :: rest)) none (isort (rows0 L s a rest))).getD [] = (List.foldl (bstep (bst L s g) (a :: rest)) none (isort (rows0 L s a rest))).getD []
      rw [foldl_bstep _ none fun r hr => ?_]
      obtain ⟨t, rfl, ht⟩ := rows_hd hr
      have := out_lt (left := a :: rest) (r := ⟨a :: t⟩) (a := a) List.mem_cons_self List.mem_cons_self
      exact ih _ f g (by omega) (by omega) (by omega)
def Bs (L : List Int) (s : Int) (left : List Int) : List Bk := bst L s left.length left
theorem Bs_cons (L : List Int) (s a : Int) (rest : List Int) : Bs L s (a :: rest) = ((isort (rows0 L s a rest)).foldl (bstep (Bs L s) (a :: rest)) none).getD [] := by
  show (List.foldl (bstep (bst L s rest.length) (a :: rest)) none (isort (rows0 L s a rest))).getD [] = _
  rw [foldl_bstep _ none fun r hr => ?_]
  obtain ⟨t, rfl, ht⟩ := rows_hd hr
  have := out_lt (left := a :: rest) (r := ⟨a :: t⟩) (a := a) List.mem_cons_self List.mem_cons_self
  simp only [List.length_cons] at this
  exact bst_fuel L s _ _ _ _ (Nat.le_refl _) (by omega) (Nat.le_refl _)
/-! how many are known -/
def subs : List Int → List (List Int)
  | [] => [[]]
  | x :: xs => subs xs ++ (subs xs).map (x :: ·)
theorem subs_mem : ∀ {xs l : List Int}, l.Sublist xs → l ∈ subs xs
  | [], l, h => by cases h; simp [subs]
  | x :: xs, l, h => by
    unfold subs
    cases h with
    | cons _ h => exact List.mem_append_left _ (subs_mem h)
    | @cons_cons t _ _ h => exact List.mem_append_right _ (List.mem_map.mpr ⟨t, subs_mem h, rfl⟩)
theorem subs_len : ∀ xs : List Int, (subs xs).length = 2 ^ xs.length
  | [] => rfl
  | x :: xs => by
    unfold subs
    rw [List.length_append, List.length_map, subs_len xs, List.length_cons, Nat.pow_succ]; omega
theorem nodup_len {α : Type} [DecidableEq α] : ∀ {xs M : List α}, xs.Nodup → (∀ x ∈ xs, x ∈ M) → xs.length ≤ M.length
  | [], M, _, _ => Nat.zero_le _
  | x :: xs, M, h, hm => by
    have hx := List.nodup_cons.mp h
    have h1 := nodup_len (xs := xs) (M := M.erase x) hx.2 fun y hy => by
      have : y ≠ x := fun e => hx.1 (e ▸ hy)
      exact (List.mem_erase_of_ne this).mpr (hm y (List.mem_cons_of_mem _ hy))
    have h2 := List.length_erase_of_mem (hm x List.mem_cons_self)
    have h3 := List.length_pos_of_mem (hm x List.mem_cons_self)
    rw [List.length_cons]
    omega
structure KI (L : List Int) (s : Int) (K : List (Bk × O)) : Prop where
  val : ∀ left v, getA (⟨left⟩ : Bk) K = some v → v = .d (eR (Bs L s left))
  nd : (K.map (·.1)).Nodup
  sub : ∀ k ∈ K.map (·.1), k.l.Sublist (idx L.length)
  nil : (⟨[]⟩ : Bk) ∈ K.map (·.1)
theorem KI.len {L : List Int} {s : Int} {K : List (Bk × O)} (h : KI L s K) (hl : L.length ≤ 9) : K.length ≤ 512 := by
  have h1 : ((K.map (·.1)).map (·.l)).Nodup := by
    refine List.Pairwise.map _ (fun a b e => ?_) h.nd
    exact fun e2 => e (Tu.ext' e2)
  have h2 := nodup_len (M := subs (idx L.length)) h1 fun x hx => by
    obtain ⟨k, hk, rfl⟩ := List.mem_map.mp hx
    exact subs_mem (h.sub k hk)
  rw [subs_len, List.length_map, List.length_map] at h2
  have : (idx L.length).length = L.length := by simp [idx]
  rw [this] at h2
  have : 2 ^ L.length ≤ 2 ^ 9 := Nat.pow_le_pow_right (by omega) hl
  omega
theorem KI.put {L : List Int} {s : Int} {K : List (Bk × O)} (h : KI L s K) {left : List Int} (hs : left.Sublist (idx L.length)) : KI L s (putA (⟨left⟩ : Bk) (.d (eR (Bs L s left))) K) := by
  have ks := putA_keys (⟨left⟩ : Bk) (.d (eR (Bs L s left))) K
  refine ⟨fun l v hv => ?_, ?_, fun k hk => ?_, ?_⟩
  · rw [getA_put] at hv
    split at hv
    · rename_i e
      injection e with e
      subst e
      exact (Option.some.inj hv).symm
    · exact h.val l v hv
  · rw [ks]
    split
    · exact h.nd
    · rename_i c
      exact List.nodup_append.mpr ⟨h.nd, by simp, fun x hx y hy e => by rw [List.mem_singleton.mp hy] at e; subst e; exact c hx⟩
  · rw [ks] at hk
    split at hk
    · exact h.sub k hk
    · rcases List.mem_append.mp hk with z | z
      · exact h.sub k z
      · rw [List.mem_singleton.mp z]; exact hs
  · rw [ks]
    split
    · exact h.nil
    · exact List.mem_append_left _ h.nil
theorem KI.get {L : List Int} {s : Int} {K : List (Bk × O)} (h : KI L s K) {left : List Int} (hm : (⟨left⟩ : Bk) ∈ K.map (·.1)) : getA (⟨left⟩ : Bk) K = some (.d (eR (Bs L s left))) := by
  have := getA_some (⟨left⟩ : Bk) K
  rw [decide_eq_true hm] at this
  obtain ⟨v, hv⟩ := Option.isSome_iff_exists.mp this
  rw [hv, h.val left v hv]
def fnd : Option (List Bk) → PyData
  | none => .none
  | some q => eR q
theorem CP.len {L : List Int} {s : Int} {left : List Int} {P : List Bk} (hu : Up left) (h : CP L s left P) : P.length ≤ left.length := by
  have sub := up_sublist h.fst hu fun x hx => by
    obtain ⟨b, hb, rfl⟩ := List.mem_map.mp hx
    exact (h.mem _).mp (mem_fl.mpr ⟨b, hb, hd_mem (h.asc b hb).1⟩)
  have := sub.length_le
  simpa using this
theorem up_idx (n : Nat) : Up (idx n) := by unfold idx; exact List.pairwise_map.mpr (List.pairwise_lt_range.imp fun h => by omega)
abbrev bS (L : List Int) (s : Int) (K : List (Bk × O)) (left : List Int) (fd : PyData) (j3 j4 : Option PyData) : Ro := [some (shO L s K), some (.d (eL left)), some (.d fd), jd j3, jd j4, none]
theorem best_ev {L : List Int} {s : Int} (h : WOk L s) : ∀ (f l : Nat) (left : List Int), left.length ≤ f → left.Sublist (idx L.length) → ∀ K, KI L s K → ∃ K', KI L s K' ∧ callN base (l + f + 2) 14 [shO L s K, .d (eL left)] = .ok (.d (eR (Bs L s left))) [some (shO L s K'), none] := by
  have hl := h.n9
  have wti : ∀ i ∈ idx L.length, 0 ≤ wt L i ∧ wt L i ≤ s := fun i hi => by
    have := mem_idx.mp hi
    have hw := h.w (wt L i) (by
      unfold wt
      have h1 : i.toNat < L.length := by omega
      rw [List.getD_eq_getElem?_getD, List.getElem?_eq_getElem h1]
      exact List.getElem_mem h1)
    omega
  have known : ∀ (L0 : Nat) (left : List Int) (K : List (Bk × O)), KI L s K → (⟨left⟩ : Bk) ∈ K.map (·.1) → callN base (L0 + 1) 14 [shO L s K, .d (eL left)] = .ok (.d (eR (Bs L s left))) [some (shO L s K), none] := fun L0 left K k hm => by
    have d1 := fun ro => din_k (K := K) left ro
    rw [decide_eq_true hm] at d1
    have d2 := fun ro => dget_k (K := K) left ro _ (k.get hm)
    rw [callN_eqm 2 t_Sheets_best rfl rfl]
    unfold r14 b14
    walk_at "ev"
    simp only [d1]; walk_at "ev"
    simp only [d2]; walk_at "ev"
  intro f
  induction f with
  | zero =>
    intro l left hf hs K k
    have : left = [] := List.eq_nil_of_length_eq_zero (by omega)
    subst this
    exact ⟨K, k, known (l + 1) [] K k k.nil⟩
  | succ f ih =>
    intro l left hf hs K k
    by_cases hm : (⟨left⟩ : Bk) ∈ K.map (·.1)
    · exact ⟨K, k, known (l + f + 2) left K k hm⟩
    · cases left with
      | nil => exact absurd k.nil hm
      | cons a rest =>
        have up : Up (a :: rest) := List.Pairwise.sublist hs (up_idx _)
        have rng : ∀ x ∈ a :: rest, 0 ≤ x ∧ x < (L.length : Int) := fun x hx => mem_idx.mp (hs.subset hx)
        have rl : rest.length ≤ 8 := by
          have := hs.length_le
          simp [idx] at this
          omega
        have r1 := rows_ev (l + f + 1) L s hl K a rest rng rl
        have loop : ∃ ro', ex (base.ge (l + f + 2)) f_Sheets_best_0 (bS L s K (a :: rest) .none none none) = .nx ro' ∧ ∃ K' j3 j4, KI L s K' ∧ ro' = bS L s K' (a :: rest) (fnd ((isort (rows0 L s a rest)).foldl (bstep (Bs L s) (a :: rest)) none)) j3 j4 := by
          unfold f_Sheets_best_0
          rw [s_for']
          have e : evI (base.ge (l + f + 2)) true (.seq (.meth "Sheets" "_rows" 13 (.var 0) (.cons (.var 1) .nil))) (bS L s K (a :: rest) .none none none) = .ok ((isort (rows0 L s a rest)).map eB) (bS L s K (a :: rest) .none none none) := by
            unfold bS
            walk_at "ev"
            simp only [r1]; walk_at "ev"
          rw [e, Out.then_ok]
          refine (fLoop_ind eB (isort (rows0 L s a rest)) (fun pre ro => ∃ K' j3 j4, KI L s K' ∧ ro = bS L s K' (a :: rest) (fnd (pre.foldl (bstep (Bs L s) (a :: rest)) none)) j3 j4) ?_ (isort (rows0 L s a rest)) [] _ rfl ⟨K, none, none, k, rfl⟩)
          rintro pre r post ro hro ⟨K1, j3, j4, k1, rfl⟩
          obtain ⟨t, hr, ht⟩ := rows_hd (L := L) (s := s) (a := a) (rest := rest) (r := r) (by rw [hro]; simp)
          have ol' := out_lt (left := a :: rest) (r := r) (a := a) List.mem_cons_self (by rw [hr]; exact List.mem_cons_self)
          have os : (outB (a :: rest) r).Sublist (idx L.length) := (List.filter_sublist).trans hs
          obtain ⟨K2, k2, c⟩ := ih (l + 0) (outB (a :: rest) r) (by simp only [List.length_cons] at ol' hf; omega) os K1 k1
          have bb := bst_best L s (outB (a :: rest) r).length (outB (a :: rest) r) (Nat.le_refl _) (up_out up r) fun i hi => wti i (os.subset hi)
          have bl := bb.1.len (up_out up r)
          change (Bs L s (outB (a :: rest) r)).length ≤ _ at bl
          have hcomp : ev (base.ge (l + f + 2)) e_Sheets_best_0 [some (shO L s K1), some (.d (eL (a :: rest))), some (.d (fnd (pre.foldl (bstep (Bs L s) (a :: rest)) none))), some (.d (eB r)), jd j4, none] = .ok (.tm (ol ((outB (a :: rest) r).map .int))) [some (shO L s K1), some (.d (eL (a :: rest))), some (.d (fnd (pre.foldl (bstep (Bs L s) (a :: rest)) none))), some (.d (eB r)), jd j4, none] := by
            have ll : (a :: rest).length ≤ 9 := by simp; omega
            unfold outB
            refine ev_filt PyData.int (a :: rest) (fun x => decide (x ∉ r.l)) PyData.int ?_ rfl rfl (by omega) fun x hx => ?_
            · walk_at "ev"
            · have i1 : inD (.int x) (eB r) = some (decide (x ∈ r.l)) := inD_encT x r.l (by decide)
              walk_at "ev"
              simp only [i1]; walk_at "ev"
              simp
          have e1 : (pre ++ [r]).foldl (bstep (Bs L s) (a :: rest)) none = bstep (Bs L s) (a :: rest) (pre.foldl (bstep (Bs L s) (a :: rest)) none) r := by rw [List.foldl_append]; rfl
          rw [e1]
          generalize pre.foldl (bstep (Bs L s) (a :: rest)) none = st at hcomp ⊢
          have bl9 : ((Bs L s (outB (a :: rest) r)).map eB).length ≤ 9 := by
            rw [List.length_map]; simp only [List.length_cons] at ol'; omega
          refine ⟨bS L s K1 (a :: rest) (fnd st) (some (eB r)) j4, bS L s K2 (a :: rest) (fnd (bstep (Bs L s) (a :: rest) st r)) (some (eB r)) (some (eR (Bs L s (outB (a :: rest) r)))), rfl, .inl ?_, K2, _, _, k2, rfl⟩
          unfold bstep
          generalize outB (a :: rest) r = out at *
          generalize Bs L s out = T at *
          unfold bS
          simp only [jd_some]
          cases st with
          | none =>
            simp only [fnd, eR, List.map_cons] at hcomp c ⊢
            generalize T.map eB = ts at bl9 c
            walk_at "ev"
            simp only [hcomp]; walk_at "ev"
            simp only [Nat.add_zero] at c
            simp only [c]; walk_at "ev"
          | some q =>
            have tl : (T.map eB).length = T.length := List.length_map ..
            have ql : (q.map eB).length = q.length := List.length_map ..
            by_cases lt' : T.length + 1 < q.length
            · have li : (1 : Int) + (T.length : Int) < (q.length : Int) := by omega
              simp only [lt', if_true]
              simp only [fnd, eR, List.map_cons] at hcomp c ⊢
              walk_at "ev"
              simp only [hcomp]; walk_at "ev"
              simp only [Nat.add_zero] at c
              simp only [c]; walk_at "ev"
              simp only [li]; walk_at "ev"
            · have li : ¬ (1 : Int) + (T.length : Int) < (q.length : Int) := by omega
              simp only [lt', if_false]
              simp only [fnd, eR, List.map_cons] at hcomp c ⊢
              walk_at "ev"
              simp only [hcomp]; walk_at "ev"
              simp only [Nat.add_zero] at c
              simp only [c]; walk_at "ev"
              simp only [li]; walk_at "ev"
        obtain ⟨_, w, K1, j3, j4, k1, rfl⟩ := loop
        have F := bstep_fold (Bs L s) (a :: rest) (isort (rows0 L s a rest)) [] none (isort_asc _) (.inl ⟨rfl, rfl⟩)
        have fe : fnd ((isort (rows0 L s a rest)).foldl (bstep (Bs L s) (a :: rest)) none) = eR (Bs L s (a :: rest)) := by
          rw [Bs_cons]
          rcases F with ⟨e, _⟩ | ⟨r0, _, e, _⟩
          · have ne : (⟨[a]⟩ : Bk) ∈ isort (rows0 L s a rest) := isort_mem.mpr (rowsF_keep (by simp))
            rw [List.nil_append] at e
            rw [e] at ne
            cases ne
          · rw [e]; rfl
        rw [fe] at w
        have d1 := fun ro => din_k (K := K) (a :: rest) ro
        rw [decide_eq_false hm] at d1
        have kl := k1.len hl
        have d3 := fun ro => stD_k (L := L) (s := s) (K := K1) (a :: rest) (.d (eR (Bs L s (a :: rest)))) ro (by omega)
        have k3 := k1.put hs
        have hm3 : (⟨a :: rest⟩ : Bk) ∈ (putA (⟨a :: rest⟩ : Bk) (.d (eR (Bs L s (a :: rest)))) K1).map (·.1) := by
          rw [putA_keys]
          split
          · assumption
          · simp
        have d2 := fun ro => dget_k (a :: rest) ro _ (k3.get hm3)
        refine ⟨_, k3, ?_⟩
        unfold bS at w
        simp only [jd_none] at w
        rw [show l + (f + 1) + 2 = (l + f + 2) + 1 from by omega, callN_eqm 2 t_Sheets_best rfl rfl]
        unfold r14 b14
        generalize eL (a :: rest) = el at *
        walk_at "ev"
        simp only [d1]; walk_at "ev"
        simp only [w]; walk_at "ev"
        simp only [d3]; walk_at "ev"
        simp only [d2]; walk_at "ev"
theorem rgl_idx (n : Nat) (h : n ≤ 9) : rglO true 0 (n : Int) = some (.tm (.d (eL (idx n)))) := by
  have : n = 0 ∨ n = 1 ∨ n = 2 ∨ n = 3 ∨ n = 4 ∨ n = 5 ∨ n = 6 ∨ n = 7 ∨ n = 8 ∨ n = 9 := by omega
  rcases this with rfl | rfl | rfl | rfl | rfl | rfl | rfl | rfl | rfl | rfl <;> kernel_rfl
theorem q_rglT {G : GE} {ro : Ro} (t : Bool) (a : CE) : ev G (.rgl t a .nil) ro = (ev G a ro).bind fun h ro => osel ((h.lookD ro).bind intOf) (fun n => .ofOpt (rglO t 0 n) ro) .stuck := by
  rw [ev]
  simp only [isNil, if_true]
  congr 1; funext h ro
  cases h.lookD ro with
  | none => rfl
  | some x => cases x <;> rfl
theorem few_ev {L : List Int} {s : Int} (h : WOk L s) (l : Nat) : callN base (l + 12) 3 [.d (eL L), .d (.int s)] = .ok (.d (eR (Bs L s (idx L.length)))) [] := by
  have h1 := check_ok h (l + 8)
  have h2 := sh_init (l + 10) L s
  have kI : KI L s [(⟨[]⟩, .d (eR []))] := by
    refine ⟨fun left v hv => ?_, by simp, fun k hk => ?_, by simp⟩
    · unfold getA at hv
      split at hv
      · rename_i e
        have e : (⟨[]⟩ : Bk) = ⟨left⟩ := e
        injection e with e
        subst e
        exact (Option.some.inj hv).symm
      · cases hv
    · have : k = ⟨[]⟩ := by simpa using hk
      subst this
      exact List.nil_sublist _
  obtain ⟨K', _, h3⟩ := best_ev h 9 l (idx L.length) (by have := h.n9; simp [idx]; omega) (List.Sublist.refl _) _ kI
  have n9 := h.n9
  rw [callN_eq t_fewest_sheets rfl]
  unfold r3 b3
  walk_at "ev"
  simp only [h1]; walk_at "ev"
  simp only [h2]; walk_at "ev"
  have e2 := rgl_idx L.length n9
  simp only [q_rglT]; walk_at "ev"
  simp only [e2]; walk_at "ev"
  generalize eL (idx L.length) = ei at h3
  walk_at "ev"
  simp only [Nat.add_assoc, Nat.reduceAdd] at h3
  simp only [h3]; walk_at "ev"

/-! the law's own bound -/
/-- the heaps of the law: alone, wide, room, lack -/
def hpA (s m : Int) (L : List Int) : Int := (L.map fun w => if isA s m w then (1 : Int) else 0).sum
def hpD (s m : Int) (L : List Int) : Int := (L.map fun w => if isD s m w then (1 : Int) else 0).sum
def hpR (s m : Int) (L : List Int) : Int := (L.map fun w => if isD s m w then s - w else 0).sum
def hpT (s m : Int) (L : List Int) : Int := (L.map fun w => if isT s m w then w else 0).sum
theorem sum_snoc (f : Int → Int) (L : List Int) (w : Int) : ((L ++ [w]).map f).sum = (L.map f).sum + f w := by simp
theorem hpR_eq (s m : Int) (L : List Int) : hpR s m L = ((L.filter (isD s m)).length : Int) * s - (L.filter (isD s m)).sum := by
  have h1 := sum_len (isD s m) s L
  have h2 := sum_flt (isD s m) L
  rw [← h1, ← h2]
  unfold hpR
  induction L with
  | nil => rfl
  | cons w ws ih =>
    have := ih (sum_len (isD s m) s ws) (sum_flt (isD s m) ws)
    simp only [List.map_cons, List.sum_cons]
    rw [this]
    split <;> omega
theorem hp_len (s m : Int) (L : List Int) : hpA s m L = ((L.filter (isA s m)).length : Int) ∧ hpD s m L = ((L.filter (isD s m)).length : Int) ∧ hpT s m L = (L.filter (isT s m)).sum := by
  have h1 := sum_len (isA s m) 1 L
  have h2 := sum_len (isD s m) 1 L
  rw [Int.mul_one] at h1 h2
  exact ⟨h1, h2, sum_flt (isT s m) L⟩
theorem hp_bnd (s m : Int) (L : List Int) : bnd L s m = hpA s m L + hpD s m L + (max 0 (hpT s m L - hpR s m L) + s - 1) / s := by
  obtain ⟨h1, h2, h3⟩ := hp_len s m L
  rw [h1, h2, h3, hpR_eq]
  rfl
abbrev bS9 (L : List Int) (s m : Int) (j3 : Option PyData) (a d r rm lk : Int) : Ro := [some (.d (eL L)), some (.d (.int s)), some (.d (.int m)), jd j3, some (.d (.int a)), some (.d (.int d)), some (.d (.int r)), some (.d (.int rm)), some (.d (.int lk))]
theorem lb_loop (l : Nat) (L : List Int) (s m : Int) (hs : 1 ≤ s ∧ s ≤ 1000) (hm : 0 ≤ m ∧ m ≤ 1000) (hw : ∀ w ∈ L, 1 ≤ w ∧ w ≤ s) :
    ∃ ro', ex (base.ge l) f__law_bound_0 (bS9 L s m none 0 0 0 0 0) = .nx ro' ∧ ∃ j3, ro' = bS9 L s m j3 (hpA s m L) (hpD s m L) 0 (hpR s m L) (hpT s m L) := by
  unfold f__law_bound_0
  rw [s_for']
  have e : evI (base.ge l) true (.seq (.var 0)) (bS9 L s m none 0 0 0 0 0) = .ok (L.map .int) (bS9 L s m none 0 0 0 0 0) := by
    walk_at "ev"
  rw [e, Out.then_ok]
  refine fLoop_ind PyData.int L (fun pre ro => ∃ j3, ro = bS9 L s m j3 (hpA s m pre) (hpD s m pre) 0 (hpR s m pre) (hpT s m pre)) ?_ L [] _ rfl ⟨none, rfl⟩
  rintro pre w post ro hro ⟨j3, rfl⟩
  have hw := hw w (by rw [hro]; simp)
  have eA : hpA s m (pre ++ [w]) = hpA s m pre + (if isA s m w then (1 : Int) else 0) := sum_snoc _ _ _
  have eD : hpD s m (pre ++ [w]) = hpD s m pre + (if isD s m w then (1 : Int) else 0) := sum_snoc _ _ _
  have eR' : hpR s m (pre ++ [w]) = hpR s m pre + (if isD s m w then s - w else 0) := sum_snoc _ _ _
  have eT' : hpT s m (pre ++ [w]) = hpT s m pre + (if isT s m w then w else 0) := sum_snoc _ _ _
  rw [eA, eD, eR', eT']
  generalize hpA s m pre = a
  generalize hpD s m pre = d
  generalize hpR s m pre = rm
  generalize hpT s m pre = lk
  refine ⟨bS9 L s m (some (.int w)) a d 0 rm lk, bS9 L s m (some (.int w)) (a + (if isA s m w then (1 : Int) else 0)) (d + (if isD s m w then (1 : Int) else 0)) 0 (rm + (if isD s m w then s - w else 0)) (lk + (if isT s m w then w else 0)), rfl, .inl ?_, some (.int w), rfl⟩
  have fA : isA s m w = (decide (2 * w > s) && decide (w > s - m)) := rfl
  have fD : isD s m w = (decide (2 * w > s) && decide (w ≤ s - m)) := rfl
  have fT : isT s m w = (decide (2 * w ≤ s) && decide (w ≥ m)) := rfl
  by_cases c1 : 2 * w > s
  · have c1' : s < 2 * w := c1
    have n1 : ¬ 2 * w ≤ s := by omega
    by_cases c2 : w + m > s
    · have c2' : s < w + m := c2
      have iA : isA s m w = true := by rw [fA]; simp; omega
      have iD : isD s m w = false := by rw [fD]; simp; omega
      have iT : isT s m w = false := by rw [fT]; simp; omega
      simp only [iA, iD, iT, if_true, Bool.false_eq_true, if_false, Int.add_zero, bS9, jd_some]
      walk_at "ev"
      simp only [c1']; walk_at "ev"
      simp only [c2']; walk_at "ev"
    · have c2' : ¬ s < w + m := c2
      have iA : isA s m w = false := by rw [fA]; simp; omega
      have iD : isD s m w = true := by rw [fD]; simp; omega
      have iT : isT s m w = false := by rw [fT]; simp; omega
      simp only [iA, iD, iT, if_true, Bool.false_eq_true, if_false, Int.add_zero, bS9, jd_some]
      walk_at "ev"
      simp only [c1']; walk_at "ev"
      simp only [c2']; walk_at "ev"
      rw [show rm + s - w = rm + (s - w) from by omega]
  · have c1' : ¬ s < 2 * w := c1
    have iA : isA s m w = false := by rw [fA]; simp; omega
    have iD : isD s m w = false := by rw [fD]; simp; omega
    by_cases c3 : w ≥ m
    · have c3' : m ≤ w := c3
      have iT : isT s m w = true := by rw [fT]; simp; omega
      simp only [iA, iD, iT, if_true, Bool.false_eq_true, if_false, Int.add_zero, bS9, jd_some]
      walk_at "ev"
      simp only [c1']; walk_at "ev"
      simp only [c3']; walk_at "ev"
    · have c3' : ¬ m ≤ w := c3
      have iT : isT s m w = false := by rw [fT]; simp; omega
      simp only [iA, iD, iT, if_true, Bool.false_eq_true, if_false, Int.add_zero, bS9, jd_some]
      walk_at "ev"
      simp only [c1']; walk_at "ev"
      simp only [c3']; walk_at "ev"
/-- how many rooms more until all lies -/
theorem rest_eq {s x : Int} {k : Nat} (hs : 1 ≤ s) (h1 : x ≤ k * s) (h2 : k = 0 ∨ x > ((k : Int) - 1) * s) : (k : Int) = (max 0 x + s - 1) / s := by
  have ks : 0 ≤ (k : Int) * s := Int.mul_nonneg (by omega) (by omega)
  refine Int.le_antisymm (Int.le_ediv_of_mul_le (by omega) ?_) (Int.lt_add_one_iff.mp (Int.ediv_lt_of_lt_mul (by omega) ?_))
  · rcases h2 with rfl | h2
    · simp; omega
    · rw [Int.sub_mul] at h2
      omega
  · rw [Int.add_mul]
    omega
theorem sum_rng {f : Int → Int} {lo hi : Int} : ∀ {L : List Int}, (∀ w ∈ L, lo ≤ f w ∧ f w ≤ hi) → L.length * lo ≤ (L.map f).sum ∧ (L.map f).sum ≤ L.length * hi
  | [], _ => by simp
  | w :: ws, h => by
    have h1 := h w List.mem_cons_self
    have h2 := sum_rng (L := ws) fun x hx => h x (List.mem_cons_of_mem _ hx)
    rw [List.map_cons, List.sum_cons, List.length_cons]
    push_cast
    rw [Int.add_mul, Int.add_mul]
    omega
theorem lbound_ev (l : Nat) {L : List Int} {s m : Int} (h : WOk L s) (hm : 0 ≤ m ∧ m ≤ 1000) : callN base (l + 1) 9 [.d (eL L), .d (.int s), .d (.int m)] = .ok (.d (.int (bnd L s m))) [] := by
  have s0 := h.s0
  have s1 := h.s1
  have n9 := h.n9
  obtain ⟨_, w1, j3, rfl⟩ := lb_loop l L s m ⟨s0, by omega⟩ hm fun w hw => h.w w hw
  have rR : 0 ≤ hpR s m L := by
    have := (sum_rng (f := fun w => if isD s m w then s - w else 0) (lo := 0) (hi := 1000) (L := L) fun w hw => by
      have := h.w w hw
      show 0 ≤ (if isD s m w then s - w else 0) ∧ (if isD s m w then s - w else 0) ≤ 1000
      split <;> omega).1
    unfold hpR; omega
  have rT : hpT s m L ≤ 900 := by
    have := (sum_rng (f := fun w => if isT s m w then w else 0) (lo := 0) (hi := 100) (L := L) fun w hw => by
      have := h.w w hw
      show 0 ≤ (if isT s m w then w else 0) ∧ (if isT s m w then w else 0) ≤ 100
      split <;> omega).2
    unfold hpT; omega
  rw [hp_bnd]
  generalize hpA s m L = a at *
  generalize hpD s m L = d at *
  generalize hpR s m L = rm at *
  generalize hpT s m L = lk at *
  have w2 : ∃ ro', ex (base.ge l) w__law_bound_0 (bS9 L s m j3 a d 0 rm lk) = .nx ro' ∧ ∃ k : Nat, lk - rm ≤ k * s ∧ (k = 0 ∨ lk - rm > ((k : Int) - 1) * s) ∧ ∃ rm', ro' = bS9 L s m j3 a d k rm' lk := by
    unfold w__law_bound_0
    rw [s_whl']
    refine wLoop_ind (fun mm ro => ∃ k : Nat, mm = (lk - rm - k * s).toNat ∧ (k = 0 ∨ lk - rm > ((k : Int) - 1) * s) ∧ ro = bS9 L s m j3 a d k (rm + k * s) lk) ?_ _ (lk - rm).toNat _ (wf_of (by omega)) ⟨0, by simp, .inl rfl, by simp⟩
    rintro mm ro ⟨k, rfl, hk, rfl⟩
    have ek : ((k : Int) + 1) * s = k * s + s := by rw [Int.add_mul]; omega
    generalize hks : (k : Int) * s = ks at *
    by_cases c : rm + ks < lk
    · refine .inr ⟨?_, bS9 L s m j3 a d ((k : Int) + 1) (rm + ks + s) lk, (lk - rm - (ks + s)).toNat, ?_, by omega, k + 1, ?_, .inr ?_, ?_⟩
      · unfold bS9
        walk_at "ev"
        simp only [c]; walk_at "ev"
      · unfold bS9
        walk_at "ev"
      · push_cast; rw [ek]
      · push_cast
        rw [show (k : Int) + 1 - 1 = k from by omega, hks]
        omega
      · push_cast
        rw [ek, Int.add_assoc]
    · refine .inl ⟨?_, k, by omega, hk, _, rfl⟩
      unfold bS9
      walk_at "ev"
      simp only [c]; walk_at "ev"
  obtain ⟨_, w2, k, k1, k2, rm', rfl⟩ := w2
  have kk := rest_eq s0 k1 k2
  rw [← kk]
  rw [callN_eq t__law_bound rfl]
  unfold r9 b9
  unfold bS9 at w1 w2
  simp only [jd_none] at w1
  walk_at "ev"
  simp only [w1]; walk_at "ev"
  simp only [w2]; walk_at "ev"

/-! the bound by 0; in turn; widths greater than a third -/
theorem bnd0_ge {L : List Int} {s : Int} (h : WOk L s) : (L.sum + s - 1) / s ≤ bnd L s 0 := by
  have s0 := h.s0
  have key : ∀ L : List Int, (∀ w ∈ L, 1 ≤ w ∧ w ≤ s) → hpA s 0 L = 0 ∧ L.sum = hpD s 0 L * s - hpR s 0 L + hpT s 0 L := by
    intro L
    induction L with
    | nil => intro _; simp [hpA, hpD, hpR, hpT]
    | cons w ws ih =>
      intro hw
      have h0 := hw w List.mem_cons_self
      obtain ⟨i1, i2⟩ := ih fun x hx => hw x (List.mem_cons_of_mem _ hx)
      unfold hpA hpD hpR hpT at *
      simp only [List.map_cons, List.sum_cons]
      rw [i1, i2, Int.add_mul]
      unfold isA isD isT
      by_cases c : 2 * w > s
      · have n1 : ¬ w > s - 0 := by omega
        have n2 : w ≤ s - 0 := by omega
        have n3 : ¬ 2 * w ≤ s := by omega
        simp only [c, n1, n2, n3, decide_true, decide_false, Bool.and_true, Bool.and_false, Bool.false_and, Bool.and_self, if_true, Bool.false_eq_true, if_false]
        omega
      · have n3 : 2 * w ≤ s := by omega
        have n4 : w ≥ 0 := by omega
        simp only [c, n3, n4, decide_true, decide_false, Bool.and_true, Bool.and_false, Bool.false_and, Bool.and_self, if_true, Bool.false_eq_true, if_false]
        omega
  obtain ⟨k1, k2⟩ := key L h.w
  rw [hp_bnd, k1, k2]
  generalize hpD s 0 L = d
  generalize hpR s 0 L = r
  generalize hpT s 0 L = t
  have lt := Int.lt_ediv_add_one_mul_self (max 0 (t - r) + s - 1) (show 0 < s by omega)
  generalize (max 0 (t - r) + s - 1) / s = q at lt ⊢
  refine Int.lt_add_one_iff.mp (Int.ediv_lt_of_lt_mul (by omega) ?_)
  rw [Int.add_mul] at lt
  rw [Int.add_mul, Int.add_mul, Int.add_mul]
  omega
def ffit (L : List Int) (s : Int) : List Bk → Prop
  | a :: b :: t => bsum L a + bsum L b > s ∧ ffit L s (b :: t)
  | _ => True
section
variable {L : List Int} {s : Int}
theorem ffit_snoc : ∀ {row : List Bk} {x : Bk}, ffit L s row → (∀ b ∈ row, bsum L b + bsum L x > s) → ffit L s (row ++ [x])
  | [], x, _, _ => trivial
  | [a], x, _, h => ⟨h a (by simp), trivial⟩
  | a :: b :: t, x, hf, h => ⟨hf.1, ffit_snoc (row := b :: t) hf.2 fun y hy => h y (List.mem_cons_of_mem _ hy)⟩
theorem ffit_ins : ∀ {A C : List Bk} {b b' : Bk}, ffit L s (A ++ b :: C) → bsum L b ≤ bsum L b' → ffit L s (A ++ b' :: C)
  | [], [], b, b', _, _ => trivial
  | [], c :: C, b, b', hf, h => ⟨by have := hf.1; omega, hf.2⟩
  | [a], C, b, b', hf, h => ⟨by have := hf.1; omega, ffit_ins (A := []) hf.2 h⟩
  | a :: a2 :: A, C, b, b', hf, h => ⟨hf.1, ffit_ins (A := a2 :: A) hf.2 h⟩
theorem itn_ffit (hw : ∀ i : Nat, i < L.length → 1 ≤ wt L i ∧ wt L i ≤ s) : ∀ k, k ≤ L.length → ffit L s (itn L s k)
  | 0, _ => trivial
  | k + 1, hk => by
    have ih := itn_ffit hw k (by omega)
    have wk := hw k (by omega)
    show ffit L s (putT L s k (itn L s k))
    generalize itn L s k = row at ih
    unfold putT
    split
    · rename_i n h
      have h2 := List.mem_range.mp (List.mem_of_find?_eq_some h)
      obtain ⟨A, b, C, rfl, rfl⟩ := split_at row h2
      rw [insW_eq]
      exact ffit_ins ih (by rw [bsum_snoc]; omega)
    · rename_i h
      refine ffit_snoc ih fun b hb => ?_
      obtain ⟨A, C, rfl⟩ := List.append_of_mem hb
      have := List.find?_eq_none.mp h A.length (by simp)
      unfold okW at this
      have e : (A ++ b :: C).getD A.length bk0 = b := by simp
      rw [e] at this
      have ex : bsum L ⟨[(k : Int)]⟩ = wt L k := by unfold bsum; simp
      rw [ex]
      simp at this
      omega
theorem ffit_sum : ∀ {a : Bk} {row : List Bk}, ffit L s (a :: row) → (∀ b ∈ a :: row, 0 ≤ bsum L b) → s * (row.length : Int) + bsum L a ≤ 2 * ((a :: row).map (bsum L)).sum
  | a, [], _, h => by
    have := h a (by simp)
    simp; omega
  | a, b :: t, hf, h => by
    have ih := ffit_sum (a := b) (row := t) hf.2 fun x hx => h x (List.mem_cons_of_mem _ hx)
    have h1 := hf.1
    have h2 := h a (by simp)
    rw [List.map_cons, List.sum_cons, List.length_cons]
    have : s * ((t.length + 1 : Nat) : Int) = s * t.length + s := by push_cast; rw [Int.mul_add]; omega
    rw [this]
    omega
end
theorem wt_ok' {L : List Int} {s : Int} (h : WOk L s) : ∀ i : Nat, i < L.length → 1 ≤ wt L i ∧ wt L i ≤ s := fun i h1 => h.w _ (by
  unfold wt
  have : ((i : Nat) : Int).toNat = i := by omega
  rw [this, List.getD_eq_getElem?_getD, List.getElem?_eq_getElem h1]
  exact List.getElem_mem h1)
theorem turn_sum {L : List Int} {s : Int} (h : WOk L s) : s * ((itn L s L.length).length - 1 : Int) ≤ 2 * L.sum := by
  have hw := wt_ok' h
  have ff := itn_ffit hw L.length (Nat.le_refl _)
  have iw := itn_ways L s L.length
  have tt := tot_wt L s id iw
  rw [List.map_id] at tt
  have c := ways_CP (fun i hi => (hw i hi).2) iw
  have nn : ∀ b ∈ itn L s L.length, 0 ≤ bsum L b := fun b hb => wsum_nonneg fun i hi => by
    have := mem_idx.mp ((c.mem i).mp (mem_fl.mpr ⟨b, hb, hi⟩))
    have := hw i.toNat (by omega)
    rw [show ((i.toNat : Nat) : Int) = i from by omega] at this
    omega
  have s0 := h.s0
  have e : ((itn L s L.length).map (bsum L)).sum = L.sum := by rw [← tt]; rfl
  generalize itn L s L.length = row at *
  cases row with
  | nil =>
    have : 0 ≤ L.sum := by rw [← e]; simp
    simp only [List.length_nil]
    have : s * ((0 : Nat) - 1 : Int) = -s := by simp
    omega
  | cons a row =>
    have := ffit_sum ff nn
    have n0 := nn a (by simp)
    rw [e] at this
    simp only [List.length_cons]
    rw [show (((row.length + 1 : Nat) : Int) - 1) = row.length from by omega]
    omega

/-! rows of at most two -/
def mstep (c : Int → Bool) (g : Int → Int) (b o : Int) : Int := if c o then min b (1 + g o) else b
theorem mfold (c : Int → Bool) (g : Int → Int) : ∀ (xs : List Int) (b0 : Int), xs.foldl (mstep c g) b0 ≤ b0 ∧ (∀ o ∈ xs, c o = true → xs.foldl (mstep c g) b0 ≤ 1 + g o) ∧ (xs.foldl (mstep c g) b0 = b0 ∨ ∃ o ∈ xs, c o = true ∧ xs.foldl (mstep c g) b0 = 1 + g o)
  | [], b0 => ⟨Int.le_refl _, fun _ z => (nomatch z), .inl rfl⟩
  | x :: xs, b0 => by
    obtain ⟨h1, h2, h3⟩ := mfold c g xs (mstep c g b0 x)
    have m1 : mstep c g b0 x ≤ b0 := by unfold mstep; split <;> omega
    rw [List.foldl_cons]
    refine ⟨by omega, fun o ho hc => ?_, ?_⟩
    · rcases List.mem_cons.mp ho with rfl | ho
      · have : mstep c g b0 o ≤ 1 + g o := by unfold mstep; rw [hc]; simp only [if_true]; omega
        omega
      · exact h2 o ho hc
    · rcases h3 with h3 | ⟨o, ho, hc, h3⟩
      · unfold mstep at h3 ⊢
        by_cases cx : c x = true
        · simp only [cx, if_true] at h3 ⊢
          rcases Int.le_total b0 (1 + g x) with z | z
          · exact .inl (by rw [h3]; omega)
          · exact .inr ⟨x, List.mem_cons_self, cx, by rw [h3]; omega⟩
        · simp only [cx, if_false, Bool.false_eq_true] at h3 ⊢
          exact .inl h3
      · exact .inr ⟨o, List.mem_cons_of_mem _ ho, hc, h3⟩
def BL (L : List Int) (s : Int) (left : List Int) : Int := ((Bs L s left).length : Int)
def rmv (rest : List Int) (o : Int) : List Int := rest.filter fun x => decide (x ≠ o)
def mval (L : List Int) (s a : Int) (rest : List Int) : Int := rest.foldl (mstep (fun o => decide (wt L a + wt L o ≤ s)) (fun o => BL L s (rmv rest o))) (1 + BL L s rest)
section
variable {L : List Int} {s : Int}
theorem best_le {left : List Int} (hu : Up left) (hw : ∀ i ∈ left, 0 ≤ wt L i ∧ wt L i ≤ s) : CP L s left (Bs L s left) ∧ ∀ P, CP L s left P → (Bs L s left).length ≤ P.length :=
  have := bst_best L s left.length left (Nat.le_refl _) hu hw
  ⟨this.1, fun P hP => (this.2 P hP).1⟩
theorem out_one {a : Int} {rest : List Int} (hu : Up (a :: rest)) : outB (a :: rest) ⟨[a]⟩ = rest := by
  have q := List.pairwise_cons.mp hu
  unfold outB
  rw [List.filter_cons]
  simp only [List.mem_singleton, not_true_eq_false, decide_false, Bool.false_eq_true, if_false]
  exact List.filter_eq_self.mpr fun x hx => by have := q.1 x hx; simp; omega
theorem out_two {a o : Int} {rest : List Int} (hu : Up (a :: rest)) : outB (a :: rest) ⟨[a, o]⟩ = rmv rest o := by
  have q := List.pairwise_cons.mp hu
  unfold outB rmv
  rw [List.filter_cons]
  have e : decide (a ∉ (⟨[a, o]⟩ : Bk).l) = false := by simp
  simp only [e, Bool.false_eq_true, if_false]
  refine List.filter_congr fun x hx => ?_
  have := q.1 x hx
  have ne : x ≠ a := by omega
  simp [ne]
theorem BL_cons {a : Int} {rest : List Int} (hu : Up (a :: rest)) (hw : ∀ i ∈ a :: rest, 1 ≤ wt L i ∧ wt L i ≤ s ∧ s < 3 * wt L i) : BL L s (a :: rest) = mval L s a rest := by
  have q := List.pairwise_cons.mp hu
  have hw' : ∀ i ∈ a :: rest, 0 ≤ wt L i ∧ wt L i ≤ s := fun i hi => by have := hw i hi; omega
  have B := best_le hu hw'
  have ur : Up rest := q.2
  have B1 := best_le ur fun i hi => hw' i (List.mem_cons_of_mem _ hi)
  have uo : ∀ o, Up (rmv rest o) := fun o => List.Pairwise.sublist List.filter_sublist ur
  have B2 := fun o => best_le (L := L) (s := s) (uo o) fun i hi => hw' i (List.mem_cons_of_mem _ (List.mem_filter.mp hi).1)
  obtain ⟨m1, m2, m3⟩ := mfold (fun o => decide (wt L a + wt L o ≤ s)) (fun o => BL L s (rmv rest o)) rest (1 + BL L s rest)
  have wa := hw a List.mem_cons_self
  -- what is built
  have u1 : BL L s (a :: rest) ≤ 1 + BL L s rest := by
    have c : CP L s (outB (a :: rest) ⟨a :: []⟩) (Bs L s rest) := by rw [out_one hu]; exact B1.1
    have := B.2 _ (CP.build hu (List.nil_sublist _) (by unfold bsum; simp; omega) c)
    unfold BL
    rw [List.length_cons] at this
    omega
  have u2 : ∀ o ∈ rest, wt L a + wt L o ≤ s → BL L s (a :: rest) ≤ 1 + BL L s (rmv rest o) := fun o ho hs => by
    have c : CP L s (outB (a :: rest) ⟨a :: [o]⟩) (Bs L s (rmv rest o)) := by rw [out_two hu]; exact (B2 o).1
    have := B.2 _ (CP.build hu (List.singleton_sublist.mpr ho) (by unfold bsum; simp; omega) c)
    unfold BL
    rw [List.length_cons] at this
    omega
  -- what the best begins with
  have lo : mval L s a rest ≤ BL L s (a :: rest) := by
    obtain ⟨t, P', e, ht, hs, hP⟩ := B.1.first hu
    unfold BL
    rw [e, List.length_cons]
    rcases t with _ | ⟨o, _ | ⟨o2, t⟩⟩
    · rw [out_one hu] at hP
      have := B1.2 P' hP
      unfold mval
      unfold BL at m1 ⊢
      omega
    · have ho := List.singleton_sublist.mp ht
      rw [out_two hu] at hP
      have := (B2 o).2 P' hP
      have so : wt L a + wt L o ≤ s := by unfold bsum at hs; simp at hs; omega
      have m := m2 o ho (by simpa using so)
      unfold mval
      unfold BL at m ⊢
      omega
    · exfalso
      have h1 := hw o (List.mem_cons_of_mem _ (ht.subset (by simp)))
      have h2 := hw o2 (List.mem_cons_of_mem _ (ht.subset (by simp)))
      have nn : 0 ≤ (t.map (wt L)).sum := wsum_nonneg fun i hi => (hw' i (List.mem_cons_of_mem _ (ht.subset (by simp [hi])))).1
      unfold bsum at hs
      simp only [List.map_cons, List.sum_cons] at hs
      omega
  refine Int.le_antisymm ?_ lo
  unfold mval
  rcases m3 with m3 | ⟨o, ho, hc, m3⟩
  · rw [m3]; exact u1
  · rw [m3]; exact u2 o ho (by simpa using hc)
theorem BL_nil : BL L s [] = 0 := rfl
end
/-! all rows, in the law's order -/
def pw : Nat → List (List Int)
  | 0 => [[]]
  | k + 1 => pw k ++ (pw k).map (· ++ [(k : Int)])
theorem pw_len : ∀ k, (pw k).length = 2 ^ k
  | 0 => rfl
  | k + 1 => by unfold pw; rw [List.length_append, List.length_map, pw_len k, Nat.pow_succ]; omega
theorem sub_snoc {q r : List Int} {x : Int} (h : q.Sublist (r ++ [x])) : q.Sublist r ∨ ∃ q0, q = q0 ++ [x] ∧ q0.Sublist r := by
  obtain ⟨l1, l2, e, h1, h2⟩ := List.sublist_append_iff.mp h
  cases h2 with
  | cons _ h2 =>
    cases h2
    exact .inl (by rw [e, List.append_nil]; exact h1)
  | cons_cons _ h2 =>
    cases h2
    exact .inr ⟨l1, e, h1⟩
theorem pw_sub : ∀ {k : Nat} {r : List Int}, r ∈ pw k → r.Sublist (idx k)
  | 0, r, h => by
    have : r = [] := by simpa [pw] using h
    rw [this]; exact List.nil_sublist _
  | k + 1, r, h => by
    rw [idx_succ]
    unfold pw at h
    rcases List.mem_append.mp h with h | h
    · exact (pw_sub h).trans (List.sublist_append_left _ _)
    · obtain ⟨r0, h0, rfl⟩ := List.mem_map.mp h
      exact (pw_sub h0).append (List.Sublist.refl _)
theorem pw_full : ∀ {k : Nat} {r : List Int}, r.Sublist (idx k) → r ∈ pw k
  | 0, r, h => by
    have : r = [] := by simpa [idx] using h
    rw [this]; simp [pw]
  | k + 1, r, h => by
    rw [idx_succ] at h
    unfold pw
    rcases sub_snoc h with h' | ⟨q0, rfl, h'⟩
    · exact List.mem_append_left _ (pw_full h')
    · exact List.mem_append_right _ (List.mem_map.mpr ⟨q0, pw_full h', rfl⟩)
theorem pw_ahead : ∀ {k : Nat} {pre post : List (List Int)} {r q : List Int}, pw k = pre ++ r :: post → q.Sublist r → q ≠ r → q ∈ pre
  | 0, pre, post, r, q, e, h, n => by
    have : pre = [] ∧ r = [] := by
      unfold pw at e
      cases pre with
      | nil => simp at e; exact ⟨rfl, e.1⟩
      | cons x xs => simp at e
    obtain ⟨rfl, rfl⟩ := this
    exact absurd (List.eq_nil_of_sublist_nil h) n
  | k + 1, pre, post, r, q, e, h, n => by
    unfold pw at e
    rcases List.append_eq_append_iff.mp e with ⟨m, e1, e2⟩ | ⟨m, e1, e2⟩
    · -- pre = pw k ++ m
      rw [e1]
      obtain ⟨p0, p1, f1, f2, f3⟩ := List.map_eq_append_iff.mp e2
      cases p1 with
      | nil => simp at f3
      | cons r0 p1 =>
        rw [List.map_cons] at f3
        injection f3 with f3 f4
        subst f3
        rcases sub_snoc h with h' | ⟨q0, rfl, h'⟩
        · refine List.mem_append_left _ (pw_full (h'.trans (pw_sub ?_)))
          rw [f1]; simp
        · refine List.mem_append_right _ ?_
          rw [← f2]
          exact List.mem_map.mpr ⟨q0, pw_ahead f1 h' fun e => n (by rw [e]), rfl⟩
    · cases m with
      | nil =>
        rw [List.append_nil] at e1
        rw [List.nil_append] at e2
        -- the second half begins with r
        cases hp : pw k with
        | nil => have := pw_len k; rw [hp] at this; have : 0 < 2 ^ k := Nat.pow_pos (by omega); simp at *; omega
        | cons r0 p1 =>
          rw [hp, List.map_cons] at e2
          injection e2 with f3 f4
          subst f3
          rw [← e1]
          rcases sub_snoc h with h' | ⟨q0, rfl, h'⟩
          · exact pw_full (h'.trans (pw_sub (by rw [hp]; simp)))
          · have := pw_ahead (k := k) (pre := []) (post := p1) (r := r0) (q := q0) (by rw [hp]; rfl) h' fun e => n (by rw [e])
            cases this
      | cons x m =>
        injection e2 with f1 f2
        subst f1
        exact pw_ahead e1 h n

/-! the law's table -/
abbrev kS (L : List Int) (s : Int) (o2 o3 : Option O) (j4 j5 j6 j7 : Option PyData) : Ro := [some (.d (eL L)), some (.d (.int s)), o2, o3, jd j4, jd j5, jd j6, jd j7, none]
theorem pw_rng {k n : Nat} {r : List Int} (h : r ∈ pw k) (hk : k ≤ n) : (∀ x ∈ r, 0 ≤ x ∧ x < (n : Int)) ∧ r.length ≤ k := by
  have s := pw_sub h
  refine ⟨fun x hx => by have := mem_idx.mp (s.subset hx); omega, ?_⟩
  have := s.length_le
  simpa [idx] using this
theorem mt_rows (l : Nat) (L : List Int) (s : Int) (hn : L.length ≤ 8) (o2 : Option O) : ∃ ro', ex (base.ge l) f__law_matched_2 (kS L s o2 (some (ol [eL []])) none none none none) = .nx ro' ∧ ∃ j4, ro' = kS L s o2 (some (ol ((pw L.length).map eL))) j4 none none none := by
  unfold f__law_matched_2
  rw [s_for']
  have e : evI (base.ge l) true (.rng (.cons (.prim .len (.cons (.var 0) .nil)) .nil)) (kS L s o2 (some (ol [eL []])) none none none none) = .ok ((List.range L.length).map fun (k : Nat) => .int (k : Int)) (kS L s o2 (some (ol [eL []])) none none none none) := by
    unfold kS
    walk_at "ev"
    rw [rangeD_nat L.length _ rfl]
  rw [e, Out.then_ok]
  refine (fLoop_ind (fun (k : Nat) => PyData.int (k : Int)) (List.range L.length) (fun pre ro => ∃ j4, ro = kS L s o2 (some (ol ((pw pre.length).map eL))) j4 none none none) ?_ (List.range L.length) [] _ rfl ⟨none, rfl⟩).imp fun ro' K => ⟨K.1, ?_⟩
  rotate_left
  · have := K.2
    rw [List.length_range] at this
    exact this
  · rintro pre k post ro hro ⟨j4, rfl⟩
    have hlt : pre.length < L.length := by
      have := congrArg List.length hro
      simp at this
      omega
    have hk : k = pre.length := by
      have h1 : (List.range L.length)[pre.length]? = some k := by rw [hro]; simp
      rw [List.getElem?_range hlt] at h1
      exact (Option.some.inj h1).symm
    rw [List.length_append, List.length_singleton]
    rw [← hk] at hlt ⊢
    have rr := fun r (h : r ∈ pw k) => pw_rng h (show k ≤ L.length by omega)
    have pl := pw_len k
    have p8 : 2 ^ k ≤ 256 := Nat.le_trans (Nat.pow_le_pow_right (by omega) (show k ≤ 8 by omega)) (by decide)
    have e1 : (pw (k + 1)).map eL = (pw k).map eL ++ ((pw k).map (· ++ [(k : Int)])).map eL := by rw [← List.map_append]; rfl
    rw [e1]
    generalize pw k = R at rr pl
    have hc : ev (base.ge l) e__law_matched_1 [some (.d (eL L)), some (.d (.int s)), o2, some (ol (R.map eL)), some (.d (.int (k : Int))), none, none, none, none] = .ok (.tm (ol ((R.map (· ++ [(k : Int)])).map eL))) [some (.d (eL L)), some (.d (.int s)), o2, some (ol (R.map eL)), some (.d (.int (k : Int))), none, none, none, none] := by
      rw [List.map_map]
      refine ev_map eL R _ ?_ rfl rfl (by omega) fun r hr => ?_
      · walk_at "ev"
      · have rl := (rr r hr).2
        have ml : (r.map PyData.int).length ≤ 8 := by rw [List.length_map]; omega
        have ee : (eL ∘ (· ++ [(k : Int)])) r = .tuple (r.map .int ++ [.int (k : Int)]) := by show PyData.tuple ((r ++ [(k : Int)]).map .int) = _; simp
        rw [ee]
        unfold eL
        generalize r.map PyData.int = bs at ml
        walk_at "ev"
    have l1 : (R.map eL).length ≤ 256 := by rw [List.length_map]; omega
    have l2 : ((R.map (· ++ [(k : Int)])).map eL).length ≤ 256 := by rw [List.length_map, List.length_map]; omega
    refine ⟨kS L s o2 (some (ol (R.map eL))) (some (.int (k : Int))) none none none, kS L s o2 (some (ol (R.map eL ++ (R.map (· ++ [(k : Int)])).map eL))) (some (.int (k : Int))) none none none, rfl, .inl ?_, _, rfl⟩
    unfold kS
    simp only [jd_some, jd_none]
    generalize (R.map (· ++ [(k : Int)])).map eL = M2 at hc l2
    generalize R.map eL = M at hc l1
    walk_at "ev"
    simp only [hc]; walk_at "ev"
theorem pw_cons : ∀ k, ∃ tl, pw k = [] :: tl ∧ ∀ r ∈ tl, r ≠ []
  | 0 => ⟨[], rfl, fun _ z => (nomatch z)⟩
  | k + 1 => by
    obtain ⟨tl, e, h⟩ := pw_cons k
    refine ⟨tl ++ (pw k).map (· ++ [(k : Int)]), ?_, fun r hr => ?_⟩
    · show pw k ++ (pw k).map (· ++ [(k : Int)]) = _
      conv => lhs; lhs; rw [e]
      rfl
    · rcases List.mem_append.mp hr with hr | hr
      · exact h r hr
      · obtain ⟨r0, _, rfl⟩ := List.mem_map.mp hr
        simp
theorem mt_inner (l : Nat) (L : List Int) (s : Int) (hn : L.length ≤ 8) (o3 : Option O) (j4 : Option PyData) (K : List (Bk × O)) (a : Int) (t : List Int) (hr : ∀ x ∈ a :: t, 0 ≤ x ∧ x < (L.length : Int)) (tl : t.length ≤ 8) (b0 : Int) (j7 : Option PyData)
    (hK : ∀ o ∈ t, getA (⟨rmv t o⟩ : Bk) K = some (.d (.int (BL L s (rmv t o))))) :
    ∃ ro', ex (base.ge l) f__law_matched_0 (kS L s (some (dcE K)) o3 j4 (some (eL (a :: t))) (some (.int b0)) j7) = .nx ro' ∧ ∃ j7, ro' = kS L s (some (dcE K)) o3 j4 (some (eL (a :: t))) (some (.int (t.foldl (mstep (fun o => decide (wt L a + wt L o ≤ s)) (fun o => BL L s (rmv t o))) b0))) j7 := by
  unfold f__law_matched_0
  rw [s_for']
  have e : evI (base.ge l) true (.seq (.slc (.var 5) (.cons (.int 1) .nil) .nil)) (kS L s (some (dcE K)) o3 j4 (some (eL (a :: t))) (some (.int b0)) j7) = .ok (t.map .int) (kS L s (some (dcE K)) o3 j4 (some (eL (a :: t))) (some (.int b0)) j7) := by
    unfold kS
    simp only [jd_some]
    walk_at "ev"
    simp only [List.drop_one, List.tail_cons]
  rw [e, Out.then_ok]
  refine fLoop_ind PyData.int t (fun pre ro => ∃ j7, ro = kS L s (some (dcE K)) o3 j4 (some (eL (a :: t))) (some (.int (pre.foldl (mstep (fun o => decide (wt L a + wt L o ≤ s)) (fun o => BL L s (rmv t o))) b0))) j7) ?_ t [] _ rfl ⟨j7, rfl⟩
  rintro pre o post ro hro ⟨j7, rfl⟩
  have ot : o ∈ t := by rw [hro]; simp
  have ra := hr a List.mem_cons_self
  have ro' := hr o (List.mem_cons_of_mem _ ot)
  have g1 := wt_get (L := L) ra.1 ra.2
  have g2 := wt_get (L := L) ro'.1 ro'.2
  have ra2 := ra.2
  have ro2 := ro'.2
  have e1 : (pre ++ [o]).foldl (mstep (fun o => decide (wt L a + wt L o ≤ s)) (fun o => BL L s (rmv t o))) b0 = mstep (fun o => decide (wt L a + wt L o ≤ s)) (fun o => BL L s (rmv t o)) (pre.foldl (mstep (fun o => decide (wt L a + wt L o ≤ s)) (fun o => BL L s (rmv t o))) b0) o := by rw [List.foldl_append]; rfl
  rw [e1]
  generalize pre.foldl (mstep (fun o => decide (wt L a + wt L o ≤ s)) (fun o => BL L s (rmv t o))) b0 = b
  have hc : ev (base.ge l) e__law_matched_0 [some (.d (eL L)), some (.d (.int s)), some (dcE K), o3, jd j4, some (.d (eL (a :: t))), some (.d (.int b)), some (.d (.int o)), none] = .ok (.tm (ol ((rmv t o).map .int))) [some (.d (eL L)), some (.d (.int s)), some (dcE K), o3, jd j4, some (.d (eL (a :: t))), some (.d (.int b)), some (.d (.int o)), none] := by
    have hl' : t.length ≤ 16777216 := by omega
    unfold rmv
    refine ev_filt PyData.int t (fun x => decide (x ≠ o)) PyData.int ?_ rfl rfl hl' fun x hx => ?_
    · walk_at "ev"
      simp
    · walk_at "ev"
      simp
  have dg := fun ro => dget_k (rmv t o) ro _ (hK o ot)
  have mn : ∀ i j : Int, (if j < i then j else i) = min i j := fun i j => by split <;> omega
  refine ⟨kS L s (some (dcE K)) o3 j4 (some (eL (a :: t))) (some (.int b)) (some (.int o)), kS L s (some (dcE K)) o3 j4 (some (eL (a :: t))) (some (.int (mstep (fun o => decide (wt L a + wt L o ≤ s)) (fun o => BL L s (rmv t o)) b o))) (some (.int o)), rfl, .inl ?_, _, rfl⟩
  unfold mstep
  dsimp only
  generalize BL L s (rmv t o) = g at dg ⊢
  generalize rmv t o = ro1 at hc dg
  unfold kS
  simp only [jd_some]
  by_cases c : wt L a + wt L o ≤ s
  · simp only [c, decide_true, if_true]
    walk_at "ev"
    simp only [g1]; walk_at "ev"
    simp only [g2]; walk_at "ev"
    simp only [c]; walk_at "ev"
    simp only [hc]; walk_at "ev"
    simp only [dg]; walk_at "ev"
    simp only [mn]
  · simp only [c, decide_false, Bool.false_eq_true, if_false]
    walk_at "ev"
    simp only [g1]; walk_at "ev"
    simp only [g2]; walk_at "ev"
    simp only [c]; walk_at "ev"
theorem std_d (K : List (Bk × O)) (r : List Int) (y : O) (ro : Ro) (i : Nat) (h : K.length < 1000000) : stdS (some (some (dcE K))) i (eL r) y ro = .nx (ro.set i (some (dcE (putA (⟨r⟩ : Bk) y K)))) := stdS_dcE i K (⟨r⟩ : Bk) y h
theorem putA_len (k : Bk) (v : O) : ∀ xs : List (Bk × O), (putA k v xs).length ≤ xs.length + 1
  | [] => Nat.le_refl _
  | p :: ps => by
    unfold putA
    split
    · simp
    · have := putA_len k v ps
      simp only [List.length_cons]; omega
structure KM (L : List Int) (s : Int) (rows : List (List Int)) (K : List (Bk × O)) : Prop where
  val : ∀ r ∈ rows, getA (⟨r⟩ : Bk) K = some (.d (.int (BL L s r)))
  len : K.length ≤ rows.length
theorem matched_ev (l : Nat) {L : List Int} {s : Int} (h : WOk L s) (hn : L.length ≤ 8) (h3 : ∀ w ∈ L, s < 3 * w) : callN base (l + 1) 10 [.d (eL L), .d (.int s)] = .ok (.d (.int (BL L s (idx L.length)))) [] := by
  have wti : ∀ i : Int, 0 ≤ i → i < L.length → 1 ≤ wt L i ∧ wt L i ≤ s ∧ s < 3 * wt L i := fun i h0 h1 => by
    have hm : wt L i ∈ L := by
      unfold wt
      have : i.toNat < L.length := by omega
      rw [List.getD_eq_getElem?_getD, List.getElem?_eq_getElem this]
      exact List.getElem_mem this
    exact ⟨(h.w _ hm).1, (h.w _ hm).2, h3 _ hm⟩
  obtain ⟨tl, pe, tn⟩ := pw_cons L.length
  have pl := pw_len L.length
  have p8 : 2 ^ L.length ≤ 256 := Nat.le_trans (Nat.pow_le_pow_right (by omega) hn) (by decide)
  obtain ⟨_, w1, j4, rfl⟩ := mt_rows l L s hn (some (dcE [((⟨[]⟩ : Bk), (.d (.int 0) : O))]))
  have loop : ∃ ro', ex (base.ge l) f__law_matched_1 (kS L s (some (dcE [((⟨[]⟩ : Bk), (.d (.int 0) : O))])) (some (ol ((pw L.length).map eL))) j4 none none none) = .nx ro' ∧ ∃ K j5 j6 j7, KM L s (pw L.length) K ∧ ro' = kS L s (some (dcE K)) (some (ol ((pw L.length).map eL))) j4 j5 j6 j7 := by
    unfold f__law_matched_1
    rw [s_for']
    have e : evI (base.ge l) true (.seq (.slc (.var 3) (.cons (.int 1) .nil) .nil)) (kS L s (some (dcE [((⟨[]⟩ : Bk), (.d (.int 0) : O))])) (some (ol ((pw L.length).map eL))) j4 none none none) = .ok (tl.map eL) (kS L s (some (dcE [((⟨[]⟩ : Bk), (.d (.int 0) : O))])) (some (ol ((pw L.length).map eL))) j4 none none none) := by
      rw [pe, List.map_cons]
      unfold kS
      walk_at "ev"
      simp
    rw [e, Out.then_ok]
    refine (fLoop_ind eL tl (fun pre ro => ∃ K j5 j6 j7, KM L s ([] :: pre) K ∧ ro = kS L s (some (dcE K)) (some (ol ((pw L.length).map eL))) j4 j5 j6 j7) ?_ tl [] _ rfl ⟨[((⟨[]⟩ : Bk), (.d (.int 0) : O))], none, none, none, ⟨fun r hr => ?_, Nat.le_refl _⟩, rfl⟩).imp fun ro' Q => ⟨Q.1, ?_⟩
    rotate_left 2
    · have := Q.2
      rw [← pe] at this
      exact this
    · rintro pre r post ro hro ⟨K, j5, j6, j7, k, rfl⟩
      have rmem : r ∈ pw L.length := by rw [pe, hro]; simp
      have rg := pw_rng rmem (Nat.le_refl _)
      have rn := tn r (by rw [hro]; simp)
      have ahead : ∀ q : List Int, q.Sublist r → q ≠ r → q ∈ [] :: pre := fun q hq hne => pw_ahead (k := L.length) (pre := [] :: pre) (post := post) (by rw [pe, hro]; rfl) hq hne
      cases r with
      | nil => exact absurd rfl rn
      | cons a t =>
        have up : Up (a :: t) := List.Pairwise.sublist (pw_sub rmem) (up_idx _)
        have tl8 : t.length ≤ 8 := by have := rg.2; simp at this; omega
        have k1 := k.val t (ahead t (List.sublist_cons_self a t) fun e => by have := congrArg List.length e; simp at this)
        have k2 : ∀ o ∈ t, getA (⟨rmv t o⟩ : Bk) K = some (.d (.int (BL L s (rmv t o)))) := fun o ho => by
          refine k.val _ (ahead _ ((List.filter_sublist).trans (List.sublist_cons_self a t)) fun e => ?_)
          have h1 : (rmv t o).length ≤ t.length := List.length_filter_le _ _
          have := congrArg List.length e
          simp only [List.length_cons] at this
          omega
        obtain ⟨_, w2, j7', rfl⟩ := mt_inner l L s hn (some (ol ((pw L.length).map eL))) j4 K a t rg.1 tl8 (1 + BL L s t) j7 k2
        have bc : t.foldl (mstep (fun o => decide (wt L a + wt L o ≤ s)) (fun o => BL L s (rmv t o))) (1 + BL L s t) = BL L s (a :: t) := (BL_cons up fun i hi => wti i (rg.1 i hi).1 (rg.1 i hi).2).symm
        rw [bc] at w2
        have plen : pre.length ≤ 256 := by
          have : tl.length + 1 ≤ 256 := by rw [pe] at pl; simp at pl; omega
          rw [hro] at this
          simp at this
          omega
        have kl := k.len
        have sd := fun ro => std_d K (a :: t) (.d (.int (BL L s (a :: t)))) ro 2 (by simp at kl; omega)
        have dg := fun ro => dget_k t ro _ k1
        refine ⟨kS L s (some (dcE K)) (some (ol ((pw L.length).map eL))) j4 (some (eL (a :: t))) j6 j7, kS L s (some (dcE (putA (⟨a :: t⟩ : Bk) (.d (.int (BL L s (a :: t)))) K))) (some (ol ((pw L.length).map eL))) j4 (some (eL (a :: t))) (some (.int (BL L s (a :: t)))) j7', rfl, .inl ?_, _, _, _, _, ⟨fun q hq => ?_, ?_⟩, rfl⟩
        · have sl : sliceD ((a :: t).map PyData.int) (some 1) none = t.map .int := by rw [sliceD_from _ _ (by omega)]; simp
          unfold kS at w2 ⊢
          simp only [jd_some] at w2 ⊢
          generalize ol ((pw L.length).map eL) = rws at *
          walk_at "ev"
          simp only [List.drop_one, List.tail_cons]
          have dg' : ∀ ro, dgetS (dcE K) (.tuple (t.map .int)) ro = .ok (.tm (.d (.int (BL L s t)))) ro := dg
          simp only [dg']; walk_at "ev"
          simp only [w2]; walk_at "ev"
          simp only [sd]; walk_at "ev"
        · have hq' : q ∈ [] :: pre ∨ q = a :: t := by
            rcases List.mem_cons.mp hq with z | z
            · exact .inl (by rw [z]; simp)
            · rcases List.mem_append.mp z with z | z
              · exact .inl (List.mem_cons_of_mem _ z)
              · exact .inr (List.mem_singleton.mp z)
          rw [getA_put]
          split
          · rename_i e
            have e : a :: t = q := congrArg (fun b : Bk => b.l) e
            subst e
            rfl
          · rename_i e
            rcases hq' with z | z
            · exact k.val q z
            · exact absurd (by rw [z]) e
        · have := putA_len (⟨a :: t⟩ : Bk) (.d (.int (BL L s (a :: t)))) K
          simp at kl ⊢
          omega
    · have : r = [] := by simpa using hr
      subst this
      rfl
  obtain ⟨_, w2, K, j5, j6, j7, k, rfl⟩ := loop
  have kf := k.val (idx L.length) (pw_full (List.Sublist.refl _))
  have dg := fun ro => dget_k (idx L.length) ro _ kf
  have e2 := rgl_idx L.length (by omega)
  have s0 := fun ro => std_d [] [] (.d (.int 0)) ro 2 (by simp)
  have d0 : (O.dct [] [] : O) = dcE ([] : List (Bk × O)) := rfl
  have p0 : putA (⟨[]⟩ : Bk) (.d (.int 0)) [] = [((⟨[]⟩ : Bk), (.d (.int 0) : O))] := rfl
  rw [p0] at s0
  have eL0 : eL [] = .tuple [] := rfl
  rw [eL0] at s0 w1
  rw [callN_eq t__law_matched rfl]
  unfold r10 b10
  unfold kS at w1 w2
  simp only [jd_none] at w1 w2
  walk_at "ev"
  simp only [d0, s0]; walk_at "ev"
  simp only [w1]; walk_at "ev"
  simp only [w2]; walk_at "ev"
  simp only [q_rglT]; walk_at "ev"
  simp only [e2]; walk_at "ev"
  simp only [dg]; walk_at "ev"

/-- what draws are -/
def Dr (ds : List Int) : Prop := ∀ d ∈ ds, 0 ≤ d ∧ d < 65521
theorem Dr.nil : Dr [] := fun _ z => nomatch z
theorem Dr.snoc {ds : List Int} {d : Int} (h : Dr ds) (h1 : 0 ≤ d) (h2 : d < 65521) : Dr (ds ++ [d]) := fun x hx => by
  rcases List.mem_append.mp hx with hx | hx
  · exact h x hx
  · rw [List.mem_singleton.mp hx]; exact ⟨h1, h2⟩
local macro_rules | `(tactic| walk_at "evd") => `(tactic| try simp (disch := first | assumption | omega | (simp only [List.length_cons, List.length_nil, List.length_append, List.length_map, List.length_zip] <;> omega)) only [seval, Lw.ol_toD, Lw.ol_flat, Lw.ol_slice, Lw.ge_call, Lw.ge_glob, Lw.ge_wf, Lw.ge_exm, Lw.bsel_some, Lw.osel_some, Lw.osel_none, Lw.q_var, Lw.q_int, Lw.q_bl, Lw.q_non, Lw.q_str, Lw.q_glob, Lw.q_bin, Lw.q_not, Lw.q_and, Lw.q_or, Lw.q_one, Lw.q_cmp, Lw.q_chain, Lw.q_ifx, Lw.q_tup, Lw.q_lst, Lw.q_idx, Lw.q_slc, Lw.fsel_ok, Lw.fsel_exc, Lw.q_call, Lw.q_prim, Lw.q_isi, Lw.q_nox, Lw.noxE_ok, Lw.q_nil, Lw.q_cons, Lw.qB_nil, Lw.qB_one, Lw.qI_seqT, Lw.qI_seqF, Lw.qI_enumT, Lw.qI_enumF, Lw.qI_zipT, Lw.qI_zipF, Lw.ssel_nx, Lw.ssel_ret, Lw.ssel_exc, Lw.ssel_brk, Lw.ssel_ct, Lw.s_nil', Lw.s_seq', Lw.s_ret', Lw.s_retN', Lw.s_set', Lw.s_setc', Lw.s_unp', Lw.s_par2', Lw.s_par3', Lw.dsel_d, Lw.s_aug', Lw.s_exp', Lw.s_ife', Lw.s_rai', Lw.s_pass', Lw.s_doc', Lw.s_brk', Lw.s_cnt', Lw.xsel_exc, Lw.xsel_nx, Lw.xsel_ret, Lw.s_try', Lw.nox_nx, Lw.nox_ret, Lw.s_hd', Lw.s_hnil', Lw.tst_eq, Lw.cBody_eq, Lw.bind_ok2, Lw.bind_exc2, Lw.bind_stuck2, Lw.then_ok2, Lw.then_exc2, Lw.then_stuck2, Lw.ofOpt_some2, Lw.ofOpt_none2, Lw.ite_okh, Lw.ite_tm, Lw.ite_od, Lw.ite_bool, Lw.ite_int, Lw.isiD_eq, Lw.flat_lst, Lw.whole_int, Lw.ite_else_false, Lw.ite_then_true, Lw.ite_not_false, Lw.flat_d, Lw.eqD_int, Lw.eqD_str, Lw.boolsD_map, Lw.look_tm2, Lw.look_sl2, Lw.join_some2, Lw.lookD_eq, Lw.lookF_eq, Lw.opd_tm, Lw.opd_sl, Lw.boolOf_bool, Lw.bool_eq, Lw.sto_tm, Lw.sto_sl, Lw.esc_tm, Lw.esc_sl, Lw.esel_d, Lw.esel_ol, Lw.arg_eq, Lw.asel_scr, Lw.asel_d, Lw.asel_ol, Lw.asel_lst, Lw.argsO_nil, Lw.argsO_cons, Lw.escs_nil, Lw.escs_cons, Lw.stos_nil, Lw.stos_cons, Lw.looksD_nil, Lw.looksD_cons, Lw.looksF_nil, Lw.looksF_cons, Lw.partD_nil, Lw.intOf_int, Lw.partD_one, Lw.okD_eq, Lw.deep_tm, Lw.deep_sl, Lw.isB_int_none, Lw.isB_int_bool, Lw.isB_int_int, Lw.isB_int_str, Lw.isB_int_list, Lw.isB_int_tuple, Lw.isB_bool_none, Lw.isB_bool_bool, Lw.isB_bool_int, Lw.isB_bool_str, Lw.isB_bool_list, Lw.isB_bool_tuple, Lw.isB_str_none, Lw.isB_str_bool, Lw.isB_str_int, Lw.isB_str_str, Lw.isB_str_list, Lw.isB_str_tuple, Lw.isB_tuple_none, Lw.isB_tuple_bool, Lw.isB_tuple_int, Lw.isB_tuple_str, Lw.isB_tuple_list, Lw.isB_tuple_tuple, Lw.isB_list_none, Lw.isB_list_bool, Lw.isB_list_int, Lw.isB_list_str, Lw.isB_list_list, Lw.isB_list_tuple, Lw.whole_none, Lw.whole_bool, Lw.whole_str, Lw.whole_list, Lw.whole_tuple, Lw.primO_len, Lw.primO_int, Lw.primO_abs, Lw.primO_max, Lw.primO_min, Lw.primO_sum, Lw.primO_all, Lw.primO_any, Lw.primO_tuple, Lw.primO_list, Lw.primO_sorted, Lw.lenO_l, Lw.lenO_t, Lw.intO_i, Lw.absO_i, Lw.maxO_2, Lw.minO_2, Lw.sumO_l, Lw.sumO_t, Lw.allO_l, Lw.anyO_l, Lw.tupleO_l, Lw.tupleO_t, Lw.listO_l, Lw.listO_t, Lw.sortedO_l, Lw.bin_add, Lw.bin_sub, Lw.cmp_Eq, Lw.cmp_NotEq, Lw.cmp_Lt, Lw.cmp_LtE, Lw.cmp_Gt, Lw.cmp_GtE, Lw.cmp_In, Lw.cmp_NotIn, Lw.cmp_Is, Lw.cmp_IsNot, Lw.notNone_none, Lw.notNone_bool, Lw.notNone_int, Lw.notNone_str, Lw.notNone_list, Lw.notNone_tuple, Lw.ltD_int, Lw.leD_int, Lw.gtD_int, Lw.geD_int, Lw.idx_t, Lw.idx_l, Lw.items_l, Lw.items_t, Lw.slice_t, Lw.slice_dl, Lw.slice_scr, Lw.zsel_l, Lw.zsel_t, Lw.zsel_lt, Lw.zsel_tl, Lw.outF_ret, Lw.outF_nx, Lw.outF_exc, Lw.outM_ret1, Lw.outM_ret2, Lw.outM_ret3, Lw.outM_ret4, Lw.outM_nx1, Lw.outM_nx2, Lw.outM_nx3, Lw.outM_nx4, Lw.outM_exc, Lw.asgT_var, Lw.asgT_tup, Lw.asgTs_nil, Lw.asgTs_cons, Lw.wipe_nil, Lw.wipe_cons, Lw.quiet_nil, Lw.quiet_cons, Lw.quiet_none, Lw.quiet_d, Lw.quiet_jd, Lw.aug_add2, Lw.aug_sub2, Lw.q_neg2, Lw.revO_t, Lw.revO_l, Lw.q_rev2, Lw.listOf_l, Lw.q_sset2, Lw.qI_rng1', Lw.rgsel_2, Lw.qI_rng2', Lw.bin_mul1, Lw.bin_mul3, Lw.bin_fdiv1, Lw.bin_fdiv2, Lw.bin_mod1, Lw.aug_mul1, Lw.bin_addT1, Lw.bin_addL1, Lw.bin_mulL1, Lw.bin_mulT1, Lw.ix_pos, Lw.ix_neg, Lw.lenOk_ok, Lw.rgD_ok', Lw.eqD_ints, Lw.eqD_tints, Lw.sliceD_from, Lw.sliceD_to, Lw.ltD_tints, Lw.leD_tints, Lw.ol_nil', Lw.ol_one', Lw.ol_two', Lw.ol_three', Lw.ol_four', Lw.ol_five', Lw.bin_pow1, Lw.lsel_ol, Lw.q_mth, Lw.appS_ok, Lw.mth_app, Lw.mth_ext, Lw.mth_extd, Lw.q_dnew, Lw.datO_d, Lw.dgetS_dct, Lw.q_dget, Lw.dinS_dct, Lw.q_din, Lw.bin_subB, Lw.lOf_ol, Lw.stI_sl, Lw.s_sti', Lw.stD_sl, Lw.s_std', Lw.q_dsort', Lw.insOf_i, Lw.fldT_d, Lw.fldT_dct, Lw.fldT_ol, Lw.fldT_ins, Lw.onC_yes, Lw.q_attrV, Lw.meS_ok, Lw.meT_ok, Lw.q_meth, Lw.meG_sl, Lw.meG_tm, Lw.q_attrC, Lw.atR_tm, Lw.stA_sl, Lw.tupOf_t, Lw.nxS_nx, Lw.unA_nil, Lw.unA_cons, Lw.s_sta', Lw.s_una', Lw.s_auga', Lw.fldS_sl, Lw.q_mv, Lw.q_new, Lw.mth_pop, Lw.deep_i, Lw.q_at, Lw.itR_sl, Lw.itS_last, Lw.itS_zero, Lw.look_i, Lw.lkI_last, Lw.lkI_zero, Lw.isLst_ol, Lw.q_mthA, Lw.mthH_sl, Lw.mthR_i, Lw.app_last, Lw.pop_last, Lw.lsel_lst, Lw.mth_push, Lw.pushS_ok, Lw.popS_last, Lw.getLast_concat, Lw.T.exm_BadLeast_BadLeast, Lw.T.exm_BadLeast_BadSize, Lw.T.exm_BadLeast_BadWidths, Lw.T.exm_BadSize_BadLeast, Lw.T.exm_BadSize_BadSize, Lw.T.exm_BadSize_BadWidths, Lw.T.exm_BadWidths_BadLeast, Lw.T.exm_BadWidths_BadSize, Lw.T.exm_BadWidths_BadWidths, Lw.T.gl_MOST_SIZE, Lw.T.gl_MOST_WIDTHS, Lw.T.sp_is_whole, Lw.T.insOf_sh, Lw.T.getN_w, Lw.T.getN_z, Lw.T.getN_k, Lw.T.fldT_dcE, Lw.T.isIns_r, Lw.T.isIns_b, Lw.T.insM_sh, Lw.T.newS_sh, Lw.T.deep_f, Lw.T.look_k, dec_yes, dec_no, O.walk, O.toD, O.toDs, O.flats, qt, List.getElem?_cons_zero, List.getElem?_cons_succ, List.set_cons_zero, List.set_cons_succ, List.map_cons, List.map_nil, List.cons_append, List.nil_append, List.append_nil, List.length_cons, List.length_nil, List.length_append, List.length_map, List.length_zip,  List.replicate, Option.bind_some, Option.bind_none, Option.map_some, Option.map_none, if_true, if_false, Bool.not_true, Bool.not_false, Bool.true_and, Bool.and_true, Bool.false_and, Bool.and_false, Bool.true_or, Bool.or_true, Bool.false_or, Bool.or_false, Bool.false_eq_true, Bool.and_self, and_self, true_and, and_true, decide_true, decide_false, Nat.zero_add, Nat.reduceAdd, Nat.reduceSub, Nat.reduceLeDiff, reduceCtorEq, Int.natCast_zero, Int.natCast_one, Int.cast_ofNat_Int, Int.reduceLT, Int.reduceLE, Int.reduceToNat, Int.reduceNeg, Int.reduceAdd, Int.reduceSub, Int.reducePow, Nat.reducePow, Int.reduceMul, Nat.reduceMul, List.reduceReplicate, List.flatten_cons, List.flatten_nil, ne_eq, not_false_eq_true, not_true_eq_false, List.cons_ne_nil])
theorem draws_in (l : Nat) (ns : List Int) (many : Nat) (ds : List Int) (seed num : Int) (j4 j5 : Option PyData) (hd : Dr ds) (hl : ds.length ≤ 100000) (hn : 0 ≤ num) :
    ∃ ro', ex (base.ge l) f__law_draws_1 [some (.scr ns), some (.d (.int many)), some (ol (ds.map .int)), some (.d (.int seed)), jd j4, jd j5, some (.d (.int num))] = .nx ro' ∧ ∃ ds' num' j5', ro' = [some (.scr ns), some (.d (.int many)), some (ol (ds'.map .int)), some (.d (.int seed)), jd j4, jd j5', some (.d (.int num'))] ∧ Dr ds' ∧ ds'.length ≤ ds.length + 60 := by
  unfold f__law_draws_1
  rw [s_for']
  have e : evI (base.ge l) true (.rng (.cons (.int 60) .nil)) [some (.scr ns), some (.d (.int many)), some (ol (ds.map .int)), some (.d (.int seed)), jd j4, jd j5, some (.d (.int num))] = .ok ((List.range 60).map fun (k : Nat) => .int (k : Int)) [some (.scr ns), some (.d (.int many)), some (ol (ds.map .int)), some (.d (.int seed)), jd j4, jd j5, some (.d (.int num))] := by
    walk_at "ev"
    rw [rangeD_nat 60 60 rfl]
  rw [e, Out.then_ok]
  refine (fLoop_ind (fun (k : Nat) => PyData.int (k : Int)) (List.range 60) (fun pre ro => ∃ ds' num' j5', ro = [some (.scr ns), some (.d (.int many)), some (ol (ds'.map .int)), some (.d (.int seed)), jd j4, jd j5', some (.d (.int num'))] ∧ Dr ds' ∧ ds'.length ≤ ds.length + pre.length ∧ 0 ≤ num') ?_ (List.range 60) [] _ rfl ⟨ds, num, j5, rfl, hd, Nat.le_refl _, hn⟩).imp fun ro' K => ⟨K.1, ?_⟩
  rotate_left
  · obtain ⟨k1, ds', num', j5', rfl, k2, k3, k4⟩ := K
    exact ⟨ds', num', j5', rfl, k2, by simpa using k3⟩
  · rintro pre k post ro hro ⟨ds', num', j5', rfl, h1, h2, h3⟩
    have hp : pre.length < 60 := by
      have := congrArg List.length hro
      simp at this
      omega
    refine ⟨[some (.scr ns), some (.d (.int many)), some (ol (ds'.map .int)), some (.d (.int seed)), jd j4, some (.d (.int k)), some (.d (.int num'))], ?_⟩
    by_cases h : 0 < num'
    · have q1 := Int.emod_nonneg num' (show (1009 : Int) ≠ 0 by omega)
      have q2 := Int.emod_lt_of_pos num' (show (0 : Int) < 1009 by omega)
      refine ⟨[some (.scr ns), some (.d (.int many)), some (ol ((ds' ++ [num' % 1009]).map .int)), some (.d (.int seed)), jd j4, some (.d (.int k)), some (.d (.int (num' / 1009)))], rfl, .inl ?_, _, _, some (.int k), rfl, h1.snoc q1 (by omega), ?_, by omega⟩
      · walk_at "evd"
        simp
      · rw [List.length_append, List.length_append]; simp only [List.length_singleton]; omega
    · refine ⟨[some (.scr ns), some (.d (.int many)), some (ol (ds'.map .int)), some (.d (.int seed)), jd j4, some (.d (.int k)), some (.d (.int num'))], rfl, .inl ?_, ds', num', some (.int k), rfl, h1, ?_, h3⟩
      · walk_at "evd"
      · rw [List.length_append]; omega
theorem draws_out (l : Nat) (ns : List Int) (many : Nat) :
    ∃ ro', ex (base.ge l) f__law_draws_2 [some (.scr ns), some (.d (.int many)), some (ol []), some (.d (.int 7)), none, none, none] = .nx ro' ∧ ∃ ds seed j4 j5 j6, ro' = [some (.scr ns), some (.d (.int many)), some (ol (ds.map .int)), some (.d (.int seed)), jd j4, jd j5, jd j6] ∧ Dr ds ∧ ds.length ≤ 60 * 63 ∧ 0 ≤ seed ∧ seed < 2147483647 := by
  unfold f__law_draws_2
  rw [s_for']
  have e : evI (base.ge l) true (.seq (.slc (.var 0) .nil (.cons (.int 63) .nil))) [some (.scr ns), some (.d (.int many)), some (ol []), some (.d (.int 7)), none, none, none] = .ok ((ns.take 63).map .int) [some (.scr ns), some (.d (.int many)), some (ol []), some (.d (.int 7)), none, none, none] := by
    walk_at "ev"
    simp
  rw [e, Out.then_ok]
  refine (fLoop_ind PyData.int (ns.take 63) (fun pre ro => ∃ ds seed j4 j5 j6, ro = [some (.scr ns), some (.d (.int many)), some (ol (ds.map .int)), some (.d (.int seed)), jd j4, jd j5, jd j6] ∧ Dr ds ∧ ds.length ≤ 60 * pre.length ∧ 0 ≤ seed ∧ seed < 2147483647) ?_ (ns.take 63) [] _ rfl ⟨[], 7, none, none, none, rfl, Dr.nil, Nat.le_refl _, by omega, by omega⟩).imp fun ro' K => ⟨K.1, ?_⟩
  rotate_left
  · obtain ⟨k1, ds, seed, j4, j5, j6, rfl, k2, k3, k4, k5⟩ := K
    refine ⟨ds, seed, j4, j5, j6, rfl, k2, ?_, k4, k5⟩
    rw [List.length_take] at k3
    omega
  · rintro pre c post ro hro ⟨ds, seed, j4, j5, j6, rfl, h1, h2, h3, h4⟩
    have hp : pre.length < 63 := by
      have := congrArg List.length hro
      simp at this
      omega
    have q0 : (0 : Int) ≤ (if c < 0 then -c else c) := by split <;> omega
    generalize hc : (if c < 0 then -c else c) = num at q0
    have q1 := Int.emod_nonneg (seed * 48271 + num + 11) (show (2147483647 : Int) ≠ 0 by omega)
    have q2 := Int.emod_lt_of_pos (seed * 48271 + num + 11) (show (0 : Int) < 2147483647 by omega)
    generalize hs : (seed * 48271 + num + 11) % 2147483647 = seed' at q1 q2
    refine ⟨[some (.scr ns), some (.d (.int many)), some (ol (ds.map .int)), some (.d (.int seed)), some (.d (.int c)), jd j5, jd j6], ?_⟩
    by_cases h : 10 ^ 18 ≤ num
    · obtain ⟨ro', g1, ds', num', j5', rfl, g2, g3⟩ := draws_in l ns many ds seed' num (some (.int c)) j5 h1 (by omega) q0
      refine ⟨[some (.scr ns), some (.d (.int many)), some (ol (ds'.map .int)), some (.d (.int seed')), some (.d (.int c)), jd j5', some (.d (.int num'))], rfl, .inl ?_, ds', seed', some (.int c), j5', some (.int num'), rfl, g2, ?_, q1, q2⟩
      · rw [jd_some] at g1
        walk_at "ev"
        simp only [hc]; walk_at "ev"
        simp only [hs]; walk_at "evd"
        simp only [g1]; walk_at "ev"
      · rw [List.length_append, List.length_singleton]; omega
    · have r1 := Int.emod_nonneg ((seed' * 16807 + 5) / 3) (show (65521 : Int) ≠ 0 by omega)
      have r2 := Int.emod_lt_of_pos ((seed' * 16807 + 5) / 3) (show (0 : Int) < 65521 by omega)
      refine ⟨[some (.scr ns), some (.d (.int many)), some (ol ((ds ++ [(seed' * 16807 + 5) / 3 % 65521]).map .int)), some (.d (.int seed')), some (.d (.int c)), jd j5, some (.d (.int num))], rfl, .inl ?_, _, seed', some (.int c), j5, some (.int num), rfl, h1.snoc r1 r2, ?_, q1, q2⟩
      · walk_at "ev"
        simp only [hc]; walk_at "ev"
        simp only [hs]; walk_at "evd"
        simp
      · rw [List.length_append, List.length_append]; simp only [List.length_singleton]; omega
theorem sp_draws (l : Nat) (ns : List Int) (many : Nat) (hm : many ≤ 1000) : ∃ ds, ds.length = many ∧ Dr ds ∧ callN base (l + 1) 8 [.scr ns, .d (.int many)] = .ok (ol (ds.map .int)) [] := by
  obtain ⟨ro', g1, ds, seed, j4, j5, j6, rfl, g2, g3, g4, g5⟩ := draws_out l ns many
  have f : ∃ ro', ex (base.ge l) f__law_draws_0 [some (.scr ns), some (.d (.int many)), some (ol (ds.map .int)), some (.d (.int seed)), jd j4, jd j5, jd j6] = .nx ro' ∧ ∃ ds' seed' j5', ro' = [some (.scr ns), some (.d (.int many)), some (ol (ds'.map .int)), some (.d (.int seed')), jd j4, jd j5', jd j6] ∧ Dr ds' ∧ many ≤ ds'.length := by
    unfold f__law_draws_0
    rw [s_for']
    have e : evI (base.ge l) true (.rng (.cons (.var 1) .nil)) [some (.scr ns), some (.d (.int many)), some (ol (ds.map .int)), some (.d (.int seed)), jd j4, jd j5, jd j6] = .ok ((List.range many).map fun (k : Nat) => .int (k : Int)) [some (.scr ns), some (.d (.int many)), some (ol (ds.map .int)), some (.d (.int seed)), jd j4, jd j5, jd j6] := by
      walk_at "ev"
      rw [rangeD_nat many _ rfl]
    rw [e, Out.then_ok]
    refine (fLoop_ind (fun (k : Nat) => PyData.int (k : Int)) (List.range many) (fun pre ro => ∃ ds' seed' j5', ro = [some (.scr ns), some (.d (.int many)), some (ol (ds'.map .int)), some (.d (.int seed')), jd j4, jd j5', jd j6] ∧ Dr ds' ∧ pre.length ≤ ds'.length ∧ ds'.length ≤ ds.length + pre.length ∧ 0 ≤ seed' ∧ seed' < 2147483647) ?_ (List.range many) [] _ rfl ⟨ds, seed, j5, rfl, g2, Nat.zero_le _, Nat.le_refl _, g4, g5⟩).imp fun ro' K => ⟨K.1, ?_⟩
    rotate_left
    · obtain ⟨k1, ds', seed', j5', rfl, k2, k3, k4, k5, k6⟩ := K
      exact ⟨ds', seed', j5', rfl, k2, by simpa using k3⟩
    · rintro pre k post ro hro ⟨ds', seed', j5', rfl, h1, h2, h3, h4, h5⟩
      obtain ⟨hk, _, hlt⟩ : k = pre.length ∧ True ∧ pre.length < many := by
        have hl : pre.length < many := by
          have := congrArg List.length hro
          simp at this
          omega
        have h1 : (List.range many)[pre.length]? = some k := by rw [hro]; simp
        rw [List.getElem?_range hl] at h1
        exact ⟨(Option.some.inj h1).symm, trivial, hl⟩
      refine ⟨[some (.scr ns), some (.d (.int many)), some (ol (ds'.map .int)), some (.d (.int seed')), jd j4, some (.d (.int k)), jd j6], ?_⟩
      by_cases h : ds'.length < many
      · have hi : (ds'.length : Int) < many := by omega
        have q1 := Int.emod_nonneg (seed' * 69621 + k + 1) (show (2147483647 : Int) ≠ 0 by omega)
        have q2 := Int.emod_lt_of_pos (seed' * 69621 + k + 1) (show (0 : Int) < 2147483647 by omega)
        generalize hs : (seed' * 69621 + k + 1) % 2147483647 = s2 at q1 q2
        have r1 := Int.emod_nonneg (s2 / 7) (show (65521 : Int) ≠ 0 by omega)
        have r2 := Int.emod_lt_of_pos (s2 / 7) (show (0 : Int) < 65521 by omega)
        refine ⟨[some (.scr ns), some (.d (.int many)), some (ol ((ds' ++ [s2 / 7 % 65521]).map .int)), some (.d (.int s2)), jd j4, some (.d (.int k)), jd j6], rfl, .inl ?_, _, s2, some (.int k), rfl, h1.snoc r1 r2, ?_, ?_, q1, q2⟩
        · walk_at "evd"
          simp only [hs]; walk_at "evd"
          simp
        · rw [List.length_append, List.length_append]; simp only [List.length_singleton]; omega
        · rw [List.length_append, List.length_append]; simp only [List.length_singleton]; omega
      · have hi : ¬ (ds'.length : Int) < many := by omega
        refine ⟨[some (.scr ns), some (.d (.int many)), some (ol (ds'.map .int)), some (.d (.int seed')), jd j4, some (.d (.int k)), jd j6], rfl, .inl ?_, ds', seed', some (.int k), rfl, h1, ?_, ?_, h4, h5⟩
        · walk_at "evd"
        · rw [List.length_append, List.length_singleton]; omega
        · rw [List.length_append, List.length_singleton]; omega
  obtain ⟨ro', f1, ds', seed', j5', rfl, f2, f3⟩ := f
  refine ⟨ds'.take many, by rw [List.length_take]; omega, fun d hd => f2 d (List.mem_of_mem_take hd), ?_⟩
  rw [callN_eq t__law_draws rfl]
  unfold r8 b8
  walk_at "ev"
  simp only [g1]; walk_at "ev"
  simp only [f1]; walk_at "ev"
  simp

/-! the law -/
theorem draw_at {ds : List Int} (hd : Dr ds) {j : Int} (h0 : 0 ≤ j) (h1 : j < (ds.length : Int)) : ∃ n, (ds.map PyData.int)[j.toNat]? = some (.int n) ∧ 0 ≤ n ∧ n < 65521 := by
  have h2 : j.toNat < ds.length := by omega
  refine ⟨ds[j.toNat], ?_, hd _ (List.getElem_mem h2)⟩
  simp [List.getElem?_eq_getElem h2]
def brow (L : List Int) (s : Int) (k : Nat) : PyData := .tuple [.int (0 - bnd L s k), .int (k : Int)]
theorem best2 {L : List Int} {s : Int} (h : WOk L s) (l : Nat) (n : Nat) (hn : s / 2 = n) : ∃ v : Int × Int, minO [.list ((List.range (n + 1)).map (brow L s))] = some (.d (.tuple [.int (0 - v.1), .int v.2])) ∧ callN base (l + 4) 7 [.d (eL L), .d (.int s)] = .ok (.d (.tuple [.int v.1, .int v.2])) [] := by
  have h1 := check_ok h l
  have s1 := h.s1
  have s0 := h.s0
  have n1 : n ≤ 100 := by omega
  have hc : ev (base.ge (l + 3)) e_best_bound_0 [some (.d (eL L)), some (.d (.int s)), none, none] = .ok (.tm (ol ((List.range (n + 1)).map (brow L s)))) [some (.d (eL L)), some (.d (.int s)), none, none] := by
    refine ev_map (fun (k : Nat) => PyData.int (k : Int)) (List.range (n + 1)) _ ?_ rfl rfl (by rw [List.length_range]; omega) fun a ha => ?_
    · walk_at "ev"
      rw [hn]
      walk_at "ev"
      rw [rangeD_nat (n + 1) _ (by push_cast; rfl)]
    · have ha := List.mem_range.mp ha
      have h2 := bound_ev h (m := (a : Int)) ⟨by omega, by omega⟩ (l + 2)
      walk_at "ev"
      simp only [h2]; walk_at "ev"
      rfl
  have hr : ((List.range (n + 1)).map fun (k : Nat) => bpr L s k) = bpr L s 0 :: ((List.range n).map fun (k : Nat) => bpr L s ((k : Int) + 1)) := by
    rw [List.range_succ_eq_map, List.map_cons, List.map_map]
    rfl
  have hm := minO_pairs (bpr L s 0) ((List.range n).map fun (k : Nat) => bpr L s ((k : Int) + 1))
  rw [← hr, List.map_map] at hm
  generalize minE (bpr L s 0) ((List.range n).map fun (k : Nat) => bpr L s ((k : Int) + 1)) = v at hm
  have hm : minO [.list ((List.range (n + 1)).map (brow L s))] = some (.d (.tuple [.int v.1, .int v.2])) := hm
  refine ⟨(0 - v.1, v.2), ?_, ?_⟩
  · rw [hm]
    show some (O.d (PyData.tuple [.int v.1, .int v.2])) = some (O.d (PyData.tuple [.int (0 - (0 - v.1)), .int v.2]))
    rw [show (0 : Int) - (0 - v.1) = v.1 from by omega]
  · rw [callN_eq t_best_bound rfl]
    unfold r7 b7; walk_at "ev"
    simp only [h1]; walk_at "ev"
    simp only [hc]; walk_at "ev"
    simp only [hm]; walk_at "ev"
    simp only [hm]; walk_at "ev"
theorem told_mem {L : List Int} {s : Int} (h : WOk L s) : Bs L s (idx L.length) ∈ ways L s L.length ∧ ∀ r ∈ ways L s L.length, (Bs L s (idx L.length)).length ≤ r.length := by
  have w := wt_ok' h
  have b := bst_best L s _ (idx L.length) (Nat.le_refl _) (up_idx _) fun i hi => by
    have := mem_idx.mp hi
    have w := w i.toNat (by omega)
    rw [show ((i.toNat : Nat) : Int) = i from by omega] at w
    omega
  exact ⟨CP_ways (fun i hi => by have := w i hi; omega) b.1, fun r hr => (b.2 r (ways_CP (fun i hi => (w i hi).2) hr)).1⟩
theorem eR_len (r : List Bk) : lenO [eR r] = some (.d (.int (r.length : Int))) := by
  show some (O.d (PyData.int ((r.map eB).length : Int))) = _
  rw [List.length_map]
abbrev S13 (o0 o1 o2 o3 o4 o5 : Option O) (j6 : Option PyData) (o7 o8 o9 o10 o11 : Option O) (j12 : Option PyData) : Ro := [o0, o1, o2, o3, o4, o5, jd j6, o7, o8, o9, o10, o11, jd j12]
theorem bloop {L : List Int} {s : Int} (h : WOk L s) (n : Nat) (hn : s / 2 = n) (F : Nat) (hF : ∀ m : Int, 0 ≤ m → bnd L s m ≤ F) (o0 o1 o2 o3 o7 o10 o11 : Option O) (j6 j12 : Option PyData) :
    ∃ ro', ex (base.ge 40) f_law_0 (S13 o0 o1 o2 o3 (some (.d (eL L))) (some (.d (.int s))) j6 o7 (some (.d (.int (F : Int)))) (some (ol [])) o10 o11 j12) = .nx ro' ∧ ∃ j6 o10 o11, ro' = S13 o0 o1 o2 o3 (some (.d (eL L))) (some (.d (.int s))) j6 o7 (some (.d (.int (F : Int)))) (some (ol ((List.range (n + 1)).map (brow L s)))) o10 o11 j12 := by
  have s1 := h.s1
  have s0 := h.s0
  have n1 : n ≤ 100 := by omega
  unfold f_law_0
  rw [s_for']
  have e : evI (base.ge 40) true (.rng (.cons (.bin .Add (.bin .FloorDiv (.var 5) (.int 2)) (.int 1)) .nil)) (S13 o0 o1 o2 o3 (some (.d (eL L))) (some (.d (.int s))) j6 o7 (some (.d (.int (F : Int)))) (some (ol [])) o10 o11 j12) = .ok ((List.range (n + 1)).map fun (k : Nat) => .int (k : Int)) (S13 o0 o1 o2 o3 (some (.d (eL L))) (some (.d (.int s))) j6 o7 (some (.d (.int (F : Int)))) (some (ol [])) o10 o11 j12) := by
    unfold S13
    walk_at "ev"
    rw [hn]
    walk_at "ev"
    rw [rangeD_nat (n + 1) _ (by push_cast; rfl)]
  rw [e, Out.then_ok]
  refine fLoop_ind (fun (k : Nat) => PyData.int (k : Int)) (List.range (n + 1)) (fun pre ro => ∃ j6 o10 o11, ro = S13 o0 o1 o2 o3 (some (.d (eL L))) (some (.d (.int s))) j6 o7 (some (.d (.int (F : Int)))) (some (ol (pre.map (brow L s)))) o10 o11 j12) ?_ (List.range (n + 1)) [] _ rfl ⟨j6, o10, o11, rfl⟩
  rintro pre k post ro hro ⟨j6, o10, o11, rfl⟩
  have hk : k < n + 1 := by
    have : k ∈ List.range (n + 1) := by rw [hro]; simp
    simpa using this
  have pl : (pre.map (brow L s)).length ≤ 200 := by
    have := congrArg List.length hro
    simp at this
    rw [List.length_map]; omega
  have b1 := lbound_ev 39 h (m := (k : Int)) ⟨by omega, by omega⟩
  have b2 := boundby_ev h (m := (k : Int)) ⟨by omega, by omega⟩ 36
  have b3 : ¬ (F : Int) < bnd L s k := by have := hF (k : Int) (by omega); omega
  rw [List.map_append, List.map_singleton]
  simp only [Nat.reduceAdd] at b1 b2
  refine ⟨S13 o0 o1 o2 o3 (some (.d (eL L))) (some (.d (.int s))) (some (.int (k : Int))) o7 (some (.d (.int (F : Int)))) (some (ol (pre.map (brow L s)))) o10 o11 j12, S13 o0 o1 o2 o3 (some (.d (eL L))) (some (.d (.int s))) (some (.int (k : Int))) o7 (some (.d (.int (F : Int)))) (some (ol (pre.map (brow L s) ++ [brow L s k]))) (some (.d (.int (bnd L s k)))) (some (.d (.int (bnd L s k)))) j12, rfl, .inl ?_, _, _, _, rfl⟩
  have eb : brow L s k = .tuple [.int (0 - bnd L s k), .int (k : Int)] := rfl
  rw [eb]
  generalize pre.map (brow L s) = xs at pl
  generalize bnd L s k = v at *
  unfold S13
  simp only [jd_some]
  walk_at "ev"
  simp only [b1]; walk_at "ev"
  simp only [b2]; walk_at "ev"
  simp only [b3]; walk_at "ev"
def inn : CS → CS
  | .for_ _ _ b => b
  | c => c
/-- a row of widths from draws -/
theorem widths_of (ds : List Int) (hd : Dr ds) (n : Nat) (f : Nat → Int) (hf : ∀ k, k < n → 0 ≤ f k ∧ f k < ds.length) : ∃ d : Nat → Int, ∀ k, k < n → (ds.map PyData.int)[(f k).toNat]? = some (.int (d k)) ∧ 0 ≤ d k := by
  have dk : ∀ k : Nat, k < n → ∃ x, (ds.map PyData.int)[(f k).toNat]? = some (.int x) ∧ 0 ≤ x ∧ x < 65521 := fun k hk => draw_at hd (hf k hk).1 (hf k hk).2
  refine ⟨fun k => if h : k < n then (dk k h).choose else 0, fun k hk => ?_⟩
  have := (dk k hk).choose_spec
  show _ = some (PyData.int (if h : k < n then (dk k h).choose else 0)) ∧ 0 ≤ (if h : k < n then (dk k h).choose else 0)
  rw [dif_pos hk]
  exact ⟨this.1, this.2.1⟩
theorem turn (ns : List Int) (ds : List Int) (hd : Dr ds) (hl : ds.length = 60) (t : Nat) (ht : t < 6) (most : Int) (hm : ([.int 10, .int 30, .int 100, .int 12, .int 7, .int 60] : List PyData)[t]? = some (.int most))
    (m0 : 1 ≤ most) (m1 : most ≤ 100) (o3 o4 o5 o7 o8 o9 o10 o11 : Option O) (j6 j12 : Option PyData) :
    ∃ z3 z4 z5 z6 z7 z8 z9 z10 z11 z12, ex (base.ge 40) (inn f_law_1) (S13 (some (.scr ns)) (some (ol (ds.map .int))) (some (.d (.int (t : Int)))) o3 o4 o5 j6 o7 o8 o9 o10 o11 j12) = .nx (S13 (some (.scr ns)) (some (ol (ds.map .int))) (some (.d (.int (t : Int)))) z3 z4 z5 z6 z7 z8 z9 z10 z11 z12) := by
  obtain ⟨a, ea, a0, a1⟩ := draw_at hd (j := 45 + (t : Int)) (by omega) (by rw [hl]; omega)
  obtain ⟨b, eb, b0, b1⟩ := draw_at hd (j := 50 + (t : Int)) (by omega) (by rw [hl]; omega)
  obtain ⟨c, ec, c0, c1⟩ := draw_at hd (j := 40 + (t : Int)) (by omega) (by rw [hl]; omega)
  obtain ⟨n, hn⟩ := Int.eq_ofNat_of_zero_le (show 0 ≤ 1 + a % 9 from by omega)
  obtain ⟨n2, hn2⟩ := Int.eq_ofNat_of_zero_le (show 0 ≤ 1 + c % 8 from by omega)
  have n1 : 1 ≤ n := by omega
  have n9 : n ≤ 9 := by omega
  have n21 : 1 ≤ n2 := by omega
  have n28 : n2 ≤ 8 := by omega
  obtain ⟨d, hdk⟩ := widths_of ds hd n (fun k => 8 * (t : Int) + k) fun k hk => ⟨by omega, by rw [hl]; omega⟩
  obtain ⟨g, hgk⟩ := widths_of ds hd n2 (fun k => 30 + (k : Int)) fun k hk => ⟨by omega, by rw [hl]; omega⟩
  have L0 : ∀ k, k < n → 0 ≤ d k % most ∧ d k % most < most := fun k hk => ⟨Int.emod_nonneg _ (by omega), Int.emod_lt_of_pos _ (by omega)⟩
  obtain ⟨L, hL⟩ : ∃ L, L = (List.range n).map fun k => 1 + d k % most := ⟨_, rfl⟩
  have Ln : L.length = n := by rw [hL]; simp
  have Lw : ∀ x ∈ L, 1 ≤ x ∧ x ≤ most := fun x hx => by
    rw [hL] at hx
    obtain ⟨k, hk, rfl⟩ := List.mem_map.mp hx
    have := L0 k (by simpa using hk)
    omega
  have mx := mxL_spec (L := L) (by omega)
  have mo := maxO_T (L := L) (by omega)
  have mw := Lw _ mx.1
  have e0 := Int.emod_nonneg b (show most ≠ 0 by omega)
  obtain ⟨s, hs⟩ : ∃ s, s = (if mxL L + b % most < 100 then mxL L + b % most else 100) := ⟨_, rfl⟩
  have W : WOk L s := by
    refine ⟨by omega, by omega, fun x hx => ?_, by rw [hs]; split <;> omega⟩
    have h1 := Lw x hx
    have h2 := mx.2 x hx
    refine ⟨h1.1, ?_⟩
    rw [hs]
    split <;> omega
  have s0 := W.s0
  have s1 := W.s1
  obtain ⟨G, hG⟩ : ∃ G, G = (List.range n2).map fun k => s / 3 + 1 + g k % (s - s / 3) := ⟨_, rfl⟩
  have Gn : G.length = n2 := by rw [hG]; simp
  have Gw : ∀ x ∈ G, 1 ≤ x ∧ x ≤ s ∧ s < 3 * x := fun x hx => by
    rw [hG] at hx
    obtain ⟨k, hk, rfl⟩ := List.mem_map.mp hx
    have q0 := Int.emod_nonneg (g k) (show s - s / 3 ≠ 0 by omega)
    have q1 := Int.emod_lt_of_pos (g k) (show 0 < s - s / 3 by omega)
    omega
  have WG : WOk G s := ⟨by omega, by omega, fun x hx => ⟨(Gw x hx).1, (Gw x hx).2.1⟩, s1⟩
  obtain ⟨h2, hh2⟩ := Int.eq_ofNat_of_zero_le (show 0 ≤ s / 2 from by omega)
  have tv := few_ev W 28
  have tG := few_ev WG 28
  have iv := turn_ev W 36
  have mG := matched_ev 39 WG (by omega) fun w hw => (Gw w hw).2.2
  have TO := told_mem W
  have iw := itn_ways L s L.length
  have il := TO.2 _ iw
  have bl : ∀ m : Int, 0 ≤ m → bnd L s m ≤ (Bs L s (idx L.length)).length := fun m _ => bnd_le s0 (fun w hw => W.w w hw) TO.1
  have ts := turn_sum W
  have bz := boundby_ev W (m := 0) ⟨by omega, by omega⟩ 36
  have bg := bnd0_ge W
  obtain ⟨v, bm, bb⟩ := best2 W 36 h2 hh2
  obtain ⟨_, w1, u6, u10, u11, rfl⟩ := bloop W h2 hh2 _ bl (some (.scr ns)) (some (ol (ds.map .int))) (some (.d (.int (t : Int)))) (some (.d (.int most))) o7 o10 o11 j6 j12
  have lT := eR_len (Bs L s (idx L.length))
  have lG := eR_len (Bs G s (idx G.length))
  have lI := eR_len (itn L s L.length)
  have moG := maxO_T (L := G) (by omega)
  have mxG := mxL_spec (L := G) (by omega)
  have mGs := (Gw _ mxG.1).2.1
  have eBL : BL G s (idx G.length) = ((Bs G s (idx G.length)).length : Int) := rfl
  rw [eBL] at mG
  have vv : eqD (.tuple [.int v.1, .int v.2]) (.tuple [.int v.1, .int v.2]) = some true := by
    have := eqD_tints [v.1, v.2] [v.1, v.2]
    simpa using this
  generalize Bs L s (idx L.length) = T at *
  generalize Bs G s (idx G.length) = TG at *
  generalize itn L s L.length = I at *
  generalize (List.range (h2 + 1)).map (brow L s) = RW at *
  have isL' : intsD (L.map PyData.int) = some L := intsD_int L
  have Il := TO.2
  have IL9 : I.length ≤ 9 := by
    have := (ways_CP (fun i hi => (wt_ok' W i hi).2) iw).lo.2.1
    omega
  have h5 : ∀ o4 o5 : Option O, ev (base.ge 40) e_law_1 (S13 (some (.scr ns)) (some (ol (ds.map .int))) (some (.d (.int (t : Int)))) (some (.d (.int most))) o4 o5 j6 o7 o8 o9 o10 o11 j12) = .ok (.tm (ol (L.map .int))) (S13 (some (.scr ns)) (some (ol (ds.map .int))) (some (.d (.int (t : Int)))) (some (.d (.int most))) o4 o5 j6 o7 o8 o9 o10 o11 j12) := fun o4 o5 => by
    rw [hL, List.map_map]
    refine ev_map (fun (k : Nat) => PyData.int (k : Int)) (List.range n) _ ?_ (by cases j12 <;> rfl) rfl (by rw [List.length_range]; omega) fun k hk => ?_
    · have ht' : (t : Int) < 6 := by omega
      unfold S13
      walk_at "ev"
      simp only [ea]; walk_at "ev"
      rw [hn]
      walk_at "ev"
      rw [rangeD_nat n _ rfl]
    · have hk := List.mem_range.mp hk
      have q1 := (hdk k hk).1
      unfold S13
      walk_at "ev"
      simp only [q1]; walk_at "ev"
      rfl
  have h7 : ∀ (x6 : Option PyData) (x10 x11 : Option O), ev (base.ge 40) e_law_0 (S13 (some (.scr ns)) (some (ol (ds.map .int))) (some (.d (.int (t : Int)))) (some (.d (.int most))) (some (.d (eL L))) (some (.d (.int s))) x6 o7 (some (.d (.int (T.length : Int)))) (some (ol RW)) x10 x11 j12) = .ok (.tm (ol (G.map .int))) (S13 (some (.scr ns)) (some (ol (ds.map .int))) (some (.d (.int (t : Int)))) (some (.d (.int most))) (some (.d (eL L))) (some (.d (.int s))) x6 o7 (some (.d (.int (T.length : Int)))) (some (ol RW)) x10 x11 j12) := fun x6 x10 x11 => by
    rw [hG, List.map_map]
    refine ev_map (fun (k : Nat) => PyData.int (k : Int)) (List.range n2) _ ?_ (by cases j12 <;> rfl) rfl (by rw [List.length_range]; omega) fun k hk => ?_
    · have ht' : (t : Int) < 6 := by omega
      unfold S13
      walk_at "ev"
      simp only [ec]; walk_at "ev"
      rw [hn2]
      walk_at "ev"
      rw [rangeD_nat n2 _ rfl]
    · have hk := List.mem_range.mp hk
      have q1 := (hgk k hk).1
      have p0 : 0 < s - s / 3 := by omega
      unfold S13
      walk_at "ev"
      simp only [q1]; walk_at "ev"
      rfl
  refine ⟨some (.d (.int most)), some (.d (eL L)), some (.d (.int s)), u6, some (.d (eL G)), some (.d (.int (T.length : Int))), some (ol RW), u10, u11, j12, ?_⟩
  have ht' : (t : Int) < 6 := by omega
  have il' : ¬ (I.length : Int) < T.length := by omega
  have bg' : ¬ bnd L s 0 < (L.sum + s - 1) / s := by omega
  have ts' : ¬ 2 * L.sum < s * ((I.length : Int) - 1) := by omega
  have v0 : (0 : Int) - (0 - v.1) = v.1 := by omega
  have sr := sum_rng (f := fun w => w) (lo := 0) (hi := 100) (L := L) fun w hw => by have := W.w w hw; omega
  rw [List.map_id'] at sr
  have sr0 : 0 ≤ L.sum := by omega
  have sr1 : L.sum ≤ 900 := by omega
  unfold S13 at h5 h7 w1 ⊢
  simp only [Nat.reduceAdd] at tv tG iv mG bz bb
  unfold f_law_1 inn
  walk_at "ev"
  simp only [Int.toNat_natCast, hm]; walk_at "ev"
  simp only [h5]; walk_at "ev"
  simp only [mo]; walk_at "ev"
  simp only [eb]; walk_at "ev"
  simp only [← hs]
  simp only [tv]; walk_at "ev"
  simp only [lT]; walk_at "ev"
  simp only [w1]; walk_at "ev"
  simp only [bb]; walk_at "ev"
  simp only [bm]; walk_at "ev"
  simp only [bm]; walk_at "ev"
  simp only [v0, vv]; walk_at "ev"
  simp only [bz]; walk_at "ev"
  simp only [isL']; walk_at "ev"
  simp only [bg']; walk_at "ev"
  simp only [iv]; walk_at "ev"
  simp only [lI]; walk_at "ev"
  simp only [il']; walk_at "ev"
  simp only [isL']; walk_at "ev"
  simp only [iv]; walk_at "ev"
  simp only [lI]; walk_at "ev"
  simp only [ts']; walk_at "ev"
  simp only [h7]; walk_at "ev"
  simp only [moG]; walk_at "ev"
  simp only [mGs]; walk_at "ev"
  simp only [tG]; walk_at "ev"
  simp only [lG]; walk_at "ev"
  simp only [mG]; walk_at "ev"

theorem turns (ns : List Int) (ds : List Int) (hd : Dr ds) (hl : ds.length = 60) :
    ∃ ro', ex (base.ge 40) f_law_1 (S13 (some (.scr ns)) (some (ol (ds.map .int))) none none none none none none none none none none none) = .nx ro' ∧ ∃ z2 z3 z4 z5 z6 z7 z8 z9 z10 z11 z12, ro' = S13 (some (.scr ns)) (some (ol (ds.map .int))) z2 z3 z4 z5 z6 z7 z8 z9 z10 z11 z12 := by
  have hf : f_law_1 = .for_ (.var 2) (.rng (.cons (.int 6) .nil)) (inn f_law_1) := rfl
  rw [hf]
  generalize hB : inn f_law_1 = B
  rw [s_for']
  have e : evI (base.ge 40) true (.rng (.cons (.int 6) .nil)) (S13 (some (.scr ns)) (some (ol (ds.map .int))) none none none none none none none none none none none) = .ok ((List.range 6).map fun (k : Nat) => .int (k : Int)) (S13 (some (.scr ns)) (some (ol (ds.map .int))) none none none none none none none none none none none) := by
    walk_at "ev"
    rw [rangeD_nat 6 6 rfl]
  rw [e, Out.then_ok]
  refine (fLoop_ind (fun (k : Nat) => PyData.int (k : Int)) (List.range 6) (fun pre ro => ∃ z2 z3 z4 z5 z6 z7 z8 z9 z10 z11 z12, ro = S13 (some (.scr ns)) (some (ol (ds.map .int))) z2 z3 z4 z5 z6 z7 z8 z9 z10 z11 z12) ?_ (List.range 6) [] _ rfl ⟨_, _, _, _, _, _, _, _, _, _, _, rfl⟩)
  rintro pre k post ro hro ⟨z2, z3, z4, z5, z6, z7, z8, z9, z10, z11, z12, rfl⟩
  have hk : k < 6 := by
    have : k ∈ List.range 6 := by rw [hro]; simp
    simpa using this
  have par : ∃ most : Int, ([.int 10, .int 30, .int 100, .int 12, .int 7, .int 60] : List PyData)[k]? = some (.int most) ∧ 1 ≤ most ∧ most ≤ 100 := by
    have : k = 0 ∨ k = 1 ∨ k = 2 ∨ k = 3 ∨ k = 4 ∨ k = 5 := by omega
    rcases this with rfl | rfl | rfl | rfl | rfl | rfl
    · exact ⟨10, rfl, by omega, by omega⟩
    · exact ⟨30, rfl, by omega, by omega⟩
    · exact ⟨100, rfl, by omega, by omega⟩
    · exact ⟨12, rfl, by omega, by omega⟩
    · exact ⟨7, rfl, by omega, by omega⟩
    · exact ⟨60, rfl, by omega, by omega⟩
  obtain ⟨most, p1, p2, p3⟩ := par
  obtain ⟨y3, y4, y5, y6, y7, y8, y9, y10, y11, y12, q⟩ := turn ns ds hd hl k hk most p1 p2 p3 z3 z4 z5 z7 z8 z9 z10 z11 z6 z12
  rw [hB] at q
  exact ⟨S13 (some (.scr ns)) (some (ol (ds.map .int))) (some (.d (.int (k : Int)))) z3 z4 z5 z6 z7 z8 z9 z10 z11 z12, _, rfl, .inl q, _, y3, y4, y5, y6, y7, y8, y9, y10, y11, y12, rfl⟩

theorem c1_ : callN base 40 6 [.d (.tuple [.int 6, .int 5, .int 4, .int 3, .int 2]), .d (.int 10), .d (.int 0)] = .ok (.d (.int 2)) [] := okIs_eq (by decide +kernel)
theorem c2_ : callN base 40 7 [.d (.tuple [.int 6, .int 6, .int 6]), .d (.int 10)] = .ok (.d (.tuple [.int 3, .int 0])) [] := okIs_eq (by decide +kernel)
theorem c3_ : callN base 40 7 [.d (.tuple [.int 5, .int 5, .int 5]), .d (.int 10)] = .ok (.d (.tuple [.int 2, .int 0])) [] := okIs_eq (by decide +kernel)
theorem c4_ : callN base 40 7 [.d (.tuple [.int 7, .int 4, .int 4]), .d (.int 10)] = .ok (.d (.tuple [.int 2, .int 0])) [] := okIs_eq (by decide +kernel)
theorem y3_ : eqD (.tuple [.int 3, .int 0]) (.tuple [.int 3, .int 0]) = some true := by decide +kernel
theorem y2_ : eqD (.tuple [.int 2, .int 0]) (.tuple [.int 2, .int 0]) = some true := by decide +kernel
def rt11 : CS := match b11 with
  | .seq _ (.seq _ t) => t
  | c => c
theorem b11_eq : b11 = .seq (.set 1 (.call 8 (.cons (.var 0) (.cons (.int 60) .nil)))) (.seq f_law_1 rt11) := rfl
theorem rt_ok (ro : Ro) : ex (base.ge 40) rt11 ro = .ret (.d (.bool true)) ro := by
  unfold rt11 b11
  simp only
  walk_at "ev"
  simp only [c1_]; walk_at "ev"
  simp only [c2_]; walk_at "ev"
  simp only [y3_]; walk_at "ev"
  simp only [c3_]; walk_at "ev"
  simp only [y2_]; walk_at "ev"
  simp only [c4_]; walk_at "ev"
  simp only [y2_]; walk_at "ev"
theorem law_shape (B : CS) (hb : b11 = .seq (.set 1 (.call 8 (.cons (.var 0) (.cons (.int 60) .nil)))) (.seq f_law_1 B)) (hB : ∀ ro, ex (base.ge 40) B ro = .ret (.d (.bool true)) ro) (ns : List Int) : callN base 41 11 [.scr ns] = .ok (.d (.bool true)) [] := by
  obtain ⟨ds, hl, hd, e0⟩ := sp_draws 39 ns 60 (by omega)
  obtain ⟨_, k1, z2, z3, z4, z5, z6, z7, z8, z9, z10, z11, z12, rfl⟩ := turns ns ds hd hl
  unfold S13 at k1
  simp only [jd_none] at k1
  rw [callN_eq t_law rfl]
  unfold r11
  rw [hb]
  walk_at "ev"
  simp only [show ((60 : Nat) : Int) = 60 from rfl] at e0
  simp only [e0]; walk_at "ev"
  simp only [k1]; walk_at "ev"
  simp only [hB]; walk_at "ev"
theorem plain : ∀ ns : List Int, ns.length ≤ 63 → ∃ back, callN base 41 11 [.scr ns] = .ok (.d (.bool true)) back := fun ns _ => ⟨[], law_shape rt11 b11_eq rt_ok ns⟩

end Lw.T
open PySem PySem.W PyProof.Rows Lw L2
set_option maxRecDepth 100000 in
set_option maxHeartbeats 0 in
theorem PySem.Challenge.cw_leadwright_k27_whole_bounds_of_sheets_holds : PySem.Challenge.rw_leadwright_k27_whole_bounds_of_sheets.Holds := by
  w_on; o_law; k_head; (case hw => w_witness2)
  k_fill
  refine Lw.law_walk (l := PySem.Challenge.rw_leadwright_k27_whole_bounds_of_sheets) (n := 2 * (40 + 1)) rfl rfl ⟨rfl, by decide, by decide⟩ (fun w h Y => PySem.W.kIn_of Y) ?F
  case F =>
    intro w mg fa h KX G hmg
    refine' Lw.cut_def (fns := Lw.T.fns) (blt := Lw.T.blt) (gls := Lw.T.gls) (exs := Lw.T.exs) (hds := Lw.T.hds) (cls := Lw.T.cls) (B := Lw.T.base) (i := 0) (name := "is_whole") (st := Lw.T.top 6) (ps := ["value", "least", "most"]) (N := Lw.T.N0) (r := Lw.T.r0) KX G ?a_1 ?l_1 ?c_1 ?k_1 Lw.T.s0 rfl rfl rfl Lw.T.c0 (fun _ _ _ _ _ _ us hl => match us, hl with | [_, _, _], _ => rfl) ?next_1
    (case a_1 => k_is); (case l_1 => k_is); (case c_1 => k_is); (case k_1 => k_is)
    intro D0
    refine' Lw.cut_def (fns := Lw.T.fns) (blt := Lw.T.blt) (gls := Lw.T.gls) (exs := Lw.T.exs) (hds := Lw.T.hds) (cls := Lw.T.cls) (B := Lw.T.base) (i := 1) (name := "are_widths") (st := Lw.T.top 10) (ps := ["value"]) (N := Lw.T.N1) (r := Lw.T.r1) KX G ?a_2 ?l_2 ?c_2 ?k_2 Lw.T.s1 rfl rfl rfl Lw.T.c1 (fun _ _ _ _ _ _ us hl => match us, hl with | [_], _ => rfl) ?next_2
    (case a_2 => k_is); (case l_2 => k_is); (case c_2 => k_is); (case k_2 => k_is)
    intro D1
    refine' Lw.cut_def (fns := Lw.T.fns) (blt := Lw.T.blt) (gls := Lw.T.gls) (exs := Lw.T.exs) (hds := Lw.T.hds) (cls := Lw.T.cls) (B := Lw.T.base) (i := 2) (name := "_check") (st := Lw.T.top 11) (ps := ["widths", "size"]) (N := Lw.T.N2) (r := Lw.T.r2) KX G ?a_3 ?l_3 ?c_3 ?k_3 Lw.T.s2 rfl rfl rfl Lw.T.c2 (fun _ _ _ _ _ _ us hl => match us, hl with | [_, _], _ => rfl) ?next_3
    (case a_3 => k_is); (case l_3 => k_is); (case c_3 => k_is); (case k_3 => k_is)
    intro D2
    refine' Lw.cut_def (fns := Lw.T.fns) (blt := Lw.T.blt) (gls := Lw.T.gls) (exs := Lw.T.exs) (hds := Lw.T.hds) (cls := Lw.T.cls) (B := Lw.T.base) (i := 3) (name := "fewest_sheets") (st := Lw.T.top 13) (ps := ["widths", "size"]) (N := Lw.T.N3) (r := Lw.T.r3) KX G ?a_4 ?l_4 ?c_4 ?k_4 Lw.T.s3 rfl rfl rfl Lw.T.c3 (fun _ _ _ _ _ _ us hl => match us, hl with | [_, _], _ => rfl) ?next_4
    (case a_4 => k_is); (case l_4 => k_is); (case c_4 => k_is); (case k_4 => k_is)
    intro D3
    refine' Lw.cut_def (fns := Lw.T.fns) (blt := Lw.T.blt) (gls := Lw.T.gls) (exs := Lw.T.exs) (hds := Lw.T.hds) (cls := Lw.T.cls) (B := Lw.T.base) (i := 4) (name := "in_turn") (st := Lw.T.top 14) (ps := ["widths", "size"]) (N := Lw.T.N4) (r := Lw.T.r4) KX G ?a_5 ?l_5 ?c_5 ?k_5 Lw.T.s4 rfl rfl rfl Lw.T.c4 (fun _ _ _ _ _ _ us hl => match us, hl with | [_, _], _ => rfl) ?next_5
    (case a_5 => k_is); (case l_5 => k_is); (case c_5 => k_is); (case k_5 => k_is)
    intro D4
    refine' Lw.cut_def (fns := Lw.T.fns) (blt := Lw.T.blt) (gls := Lw.T.gls) (exs := Lw.T.exs) (hds := Lw.T.hds) (cls := Lw.T.cls) (B := Lw.T.base) (i := 5) (name := "_bound") (st := Lw.T.top 15) (ps := ["widths", "size", "least"]) (N := Lw.T.N5) (r := Lw.T.r5) KX G ?a_6 ?l_6 ?c_6 ?k_6 Lw.T.s5 rfl rfl rfl Lw.T.c5 (fun _ _ _ _ _ _ us hl => match us, hl with | [_, _, _], _ => rfl) ?next_6
    (case a_6 => k_is); (case l_6 => k_is); (case c_6 => k_is); (case k_6 => k_is)
    intro D5
    refine' Lw.cut_def (fns := Lw.T.fns) (blt := Lw.T.blt) (gls := Lw.T.gls) (exs := Lw.T.exs) (hds := Lw.T.hds) (cls := Lw.T.cls) (B := Lw.T.base) (i := 6) (name := "bound_by") (st := Lw.T.top 16) (ps := ["widths", "size", "least"]) (N := Lw.T.N6) (r := Lw.T.r6) KX G ?a_7 ?l_7 ?c_7 ?k_7 Lw.T.s6 rfl rfl rfl Lw.T.c6 (fun _ _ _ _ _ _ us hl => match us, hl with | [_, _, _], _ => rfl) ?next_7
    (case a_7 => k_is); (case l_7 => k_is); (case c_7 => k_is); (case k_7 => k_is)
    intro D6
    refine' Lw.cut_def (fns := Lw.T.fns) (blt := Lw.T.blt) (gls := Lw.T.gls) (exs := Lw.T.exs) (hds := Lw.T.hds) (cls := Lw.T.cls) (B := Lw.T.base) (i := 7) (name := "best_bound") (st := Lw.T.top 17) (ps := ["widths", "size"]) (N := Lw.T.N7) (r := Lw.T.r7) KX G ?a_8 ?l_8 ?c_8 ?k_8 Lw.T.s7 rfl rfl rfl Lw.T.c7 (fun _ _ _ _ _ _ us hl => match us, hl with | [_, _], _ => rfl) ?next_8
    (case a_8 => k_is); (case l_8 => k_is); (case c_8 => k_is); (case k_8 => k_is)
    intro D7
    refine' Lw.cut_def (fns := Lw.T.fns) (blt := Lw.T.blt) (gls := Lw.T.gls) (exs := Lw.T.exs) (hds := Lw.T.hds) (cls := Lw.T.cls) (B := Lw.T.base) (i := 8) (name := "_law_draws") (st := Lw.T.top 19) (ps := ["script", "many"]) (N := Lw.T.N8) (r := Lw.T.r8) KX G ?a_9 ?l_9 ?c_9 ?k_9 Lw.T.s8 rfl rfl rfl Lw.T.c8 (fun _ _ _ _ _ _ us hl => match us, hl with | [_, _], _ => rfl) ?next_9
    (case a_9 => k_is); (case l_9 => k_is); (case c_9 => k_is); (case k_9 => k_is)
    intro D8
    refine' Lw.cut_def (fns := Lw.T.fns) (blt := Lw.T.blt) (gls := Lw.T.gls) (exs := Lw.T.exs) (hds := Lw.T.hds) (cls := Lw.T.cls) (B := Lw.T.base) (i := 9) (name := "_law_bound") (st := Lw.T.top 20) (ps := ["widths", "size", "least"]) (N := Lw.T.N9) (r := Lw.T.r9) KX G ?a_10 ?l_10 ?c_10 ?k_10 Lw.T.s9 rfl rfl rfl Lw.T.c9 (fun _ _ _ _ _ _ us hl => match us, hl with | [_, _, _], _ => rfl) ?next_10
    (case a_10 => k_is); (case l_10 => k_is); (case c_10 => k_is); (case k_10 => k_is)
    intro D9
    refine' Lw.cut_def (fns := Lw.T.fns) (blt := Lw.T.blt) (gls := Lw.T.gls) (exs := Lw.T.exs) (hds := Lw.T.hds) (cls := Lw.T.cls) (B := Lw.T.base) (i := 10) (name := "_law_matched") (st := Lw.T.top 21) (ps := ["widths", "size"]) (N := Lw.T.N10) (r := Lw.T.r10) KX G ?a_11 ?l_11 ?c_11 ?k_11 Lw.T.s10 rfl rfl rfl Lw.T.c10 (fun _ _ _ _ _ _ us hl => match us, hl with | [_, _], _ => rfl) ?next_11
    (case a_11 => k_is); (case l_11 => k_is); (case c_11 => k_is); (case k_11 => k_is)
    intro D10
    refine' Lw.cut_def (fns := Lw.T.fns) (blt := Lw.T.blt) (gls := Lw.T.gls) (exs := Lw.T.exs) (hds := Lw.T.hds) (cls := Lw.T.cls) (B := Lw.T.base) (i := 11) (name := "law") (st := Lw.T.top 22) (ps := ["script"]) (N := Lw.T.N11) (r := Lw.T.r11) KX G ?a_12 ?l_12 ?c_12 ?k_12 Lw.T.s11 rfl rfl rfl Lw.T.c11 (fun _ _ _ _ _ _ us hl => match us, hl with | [_], _ => rfl) ?next_12
    (case a_12 => k_is); (case l_12 => k_is); (case c_12 => k_is); (case k_12 => k_is)
    intro D11
    refine' Lw.cut_cl0 (x := "Sheets") KX ?a_13 ?next_13
    (case a_13 => k_is)
    intro a_Sheets
    refine' Lw.cut_mth (fns := Lw.T.fns) (blt := Lw.T.blt) (gls := Lw.T.gls) (exs := Lw.T.exs) (hds := Lw.T.hds) (cls := Lw.T.cls) (B := Lw.T.base) (i := 12) (name := "__init__") (qn := "Sheets.__init__") (st := inClass (Lw.T.top 12) 0) (ps := ["self", "widths", "size"]) (N := Lw.T.N12) (r := Lw.T.r12) a_Sheets ?a_14 ?e_14 ?l_14 ?c_14 ?k_14 Lw.T.s12 rfl rfl rfl Lw.T.c12 (fun _ _ _ _ _ _ us hl => match us, hl with | [_, _, _], _ => rfl) ?next_14
    (case a_14 => k_is); (case e_14 => k_is); (case l_14 => k_is); (case c_14 => k_is); (case k_14 => k_is)
    intro M12
    refine' Lw.cut_mth (fns := Lw.T.fns) (blt := Lw.T.blt) (gls := Lw.T.gls) (exs := Lw.T.exs) (hds := Lw.T.hds) (cls := Lw.T.cls) (B := Lw.T.base) (i := 13) (name := "_rows") (qn := "Sheets._rows") (st := inClass (Lw.T.top 12) 1) (ps := ["self", "left"]) (N := Lw.T.N13) (r := Lw.T.r13) a_Sheets ?a_15 ?e_15 ?l_15 ?c_15 ?k_15 Lw.T.s13 rfl rfl rfl Lw.T.c13 (fun _ _ _ _ _ _ us hl => match us, hl with | [_, _], _ => rfl) ?next_15
    (case a_15 => k_is); (case e_15 => k_is); (case l_15 => k_is); (case c_15 => k_is); (case k_15 => k_is)
    intro M13
    refine' Lw.cut_mth (fns := Lw.T.fns) (blt := Lw.T.blt) (gls := Lw.T.gls) (exs := Lw.T.exs) (hds := Lw.T.hds) (cls := Lw.T.cls) (B := Lw.T.base) (i := 14) (name := "best") (qn := "Sheets.best") (st := inClass (Lw.T.top 12) 2) (ps := ["self", "left"]) (N := Lw.T.N14) (r := Lw.T.r14) a_Sheets ?a_16 ?e_16 ?l_16 ?c_16 ?k_16 Lw.T.s14 rfl rfl rfl Lw.T.c14 (fun _ _ _ _ _ _ us hl => match us, hl with | [_, _], _ => rfl) ?next_16
    (case a_16 => k_is); (case e_16 => k_is); (case l_16 => k_is); (case c_16 => k_is); (case k_16 => k_is)
    intro M14
    refine' Lw.cut_no (f := "_widths") a_Sheets ?a_17 ?next_17
    (case a_17 => k_is)
    intro f_Sheets_0
    refine' Lw.cut_no (f := "_size") a_Sheets ?a_18 ?next_18
    (case a_18 => k_is)
    intro f_Sheets_1
    refine' Lw.cut_no (f := "_known") a_Sheets ?a_19 ?next_19
    (case a_19 => k_is)
    intro f_Sheets_2
    refine' Lw.cut_cls (fns := Lw.T.fns) (blt := Lw.T.blt) (gls := Lw.T.gls) (exs := Lw.T.exs) (hds := Lw.T.hds) (cls := Lw.T.cls) (B := Lw.T.base) (d := Lw.T.k_Sheets) KX G a_Sheets ?a_20 ?e_20 ?l_20 ?c_20 (by intro f hf; simp only [Lw.T.k_Sheets, List.mem_cons, List.not_mem_nil, or_false] at hf; rcases hf with rfl | rfl | rfl <;> assumption) ?s_20 ?t_20 M12 (by intro m i hm; simp only [Lw.T.k_Sheets, List.mem_cons, List.not_mem_nil, or_false, Prod.mk.injEq] at hm; rcases hm with ⟨rfl, rfl⟩ | ⟨rfl, rfl⟩ <;> assumption) ?next_20
    (case a_20 => k_is); (case e_20 => k_is); (case l_20 => k_is); (case c_20 => k_is); (case s_20 => k_is); (case t_20 => k_is)
    intro K_Sheets
    refine' Lw.cut_none (x := "abs") KX G ?a_21 ?next_21
    (case a_21 => k_is)
    intro z_abs
    refine' Lw.cut_none (x := "all") KX G ?a_22 ?next_22
    (case a_22 => k_is)
    intro z_all
    refine' Lw.cut_none (x := "bool") KX G ?a_23 ?next_23
    (case a_23 => k_is)
    intro z_bool
    refine' Lw.cut_none (x := "enumerate") KX G ?a_24 ?next_24
    (case a_24 => k_is)
    intro z_enumerate
    refine' Lw.cut_none (x := "int") KX G ?a_25 ?next_25
    (case a_25 => k_is)
    intro z_int
    refine' Lw.cut_none (x := "isinstance") KX G ?a_26 ?next_26
    (case a_26 => k_is)
    intro z_isinstance
    refine' Lw.cut_none (x := "len") KX G ?a_27 ?next_27
    (case a_27 => k_is)
    intro z_len
    refine' Lw.cut_none (x := "max") KX G ?a_28 ?next_28
    (case a_28 => k_is)
    intro z_max
    refine' Lw.cut_none (x := "min") KX G ?a_29 ?next_29
    (case a_29 => k_is)
    intro z_min
    refine' Lw.cut_none (x := "range") KX G ?a_30 ?next_30
    (case a_30 => k_is)
    intro z_range
    refine' Lw.cut_none (x := "sorted") KX G ?a_31 ?next_31
    (case a_31 => k_is)
    intro z_sorted
    refine' Lw.cut_none (x := "sum") KX G ?a_32 ?next_32
    (case a_32 => k_is)
    intro z_sum
    refine' Lw.cut_none (x := "tuple") KX G ?a_33 ?next_33
    (case a_33 => k_is)
    intro z_tuple
    refine' Lw.cut_int (B := Lw.T.base) (x := "MOST_SIZE") (n := 100) KX G ?a_34 Lw.T.gl_MOST_SIZE ?next_34
    (case a_34 => k_is)
    intro g_MOST_SIZE
    refine' Lw.cut_int (B := Lw.T.base) (x := "MOST_WIDTHS") (n := 9) KX G ?a_35 Lw.T.gl_MOST_WIDTHS ?next_35
    (case a_35 => k_is)
    intro g_MOST_WIDTHS
    refine' Lw.cut_exc (x := "BadLeast") KX G F.excBase_ValueError ?a_36 ?e_36 ?k_36 ?s_36 ?t_36 ?next_36
    (case a_36 => k_is); (case e_36 => k_exc); (case k_36 => k_is); (case s_36 => k_is); (case t_36 => k_is)
    intro C_BadLeast m_BadLeast x_BadLeast
    refine' Lw.cut_exc (x := "BadSize") KX G F.excBase_ValueError ?a_37 ?e_37 ?k_37 ?s_37 ?t_37 ?next_37
    (case a_37 => k_is); (case e_37 => k_exc); (case k_37 => k_is); (case s_37 => k_is); (case t_37 => k_is)
    intro C_BadSize m_BadSize x_BadSize
    refine' Lw.cut_exc (x := "BadWidths") KX G F.excBase_ValueError ?a_38 ?e_38 ?k_38 ?s_38 ?t_38 ?next_38
    (case a_38 => k_is); (case e_38 => k_exc); (case k_38 => k_is); (case s_38 => k_is); (case t_38 => k_is)
    intro C_BadWidths m_BadWidths x_BadWidths
    refine' Lw.cut_exm (x := "BadLeast") (y := "BadLeast") (b := true) KX G ?a_39 ?c_39 ?s_39 ?k_39 ?t_39 ?e_39 ?next_39
    (case a_39 => k_is); (case c_39 => k_is); (case s_39 => k_is); (case k_39 => k_is); (case t_39 => k_is); (case e_39 => first | rfl | k_is)
    intro e_BadLeast_BadLeast
    refine' Lw.cut_exm (x := "BadLeast") (y := "BadSize") (b := false) KX G ?a_40 ?c_40 ?s_40 ?k_40 ?t_40 ?e_40 ?next_40
    (case a_40 => k_is); (case c_40 => k_is); (case s_40 => k_is); (case k_40 => k_is); (case t_40 => k_is); (case e_40 => first | rfl | k_is)
    intro e_BadLeast_BadSize
    refine' Lw.cut_exm (x := "BadLeast") (y := "BadWidths") (b := false) KX G ?a_41 ?c_41 ?s_41 ?k_41 ?t_41 ?e_41 ?next_41
    (case a_41 => k_is); (case c_41 => k_is); (case s_41 => k_is); (case k_41 => k_is); (case t_41 => k_is); (case e_41 => first | rfl | k_is)
    intro e_BadLeast_BadWidths
    refine' Lw.cut_exm (x := "BadSize") (y := "BadLeast") (b := false) KX G ?a_42 ?c_42 ?s_42 ?k_42 ?t_42 ?e_42 ?next_42
    (case a_42 => k_is); (case c_42 => k_is); (case s_42 => k_is); (case k_42 => k_is); (case t_42 => k_is); (case e_42 => first | rfl | k_is)
    intro e_BadSize_BadLeast
    refine' Lw.cut_exm (x := "BadSize") (y := "BadSize") (b := true) KX G ?a_43 ?c_43 ?s_43 ?k_43 ?t_43 ?e_43 ?next_43
    (case a_43 => k_is); (case c_43 => k_is); (case s_43 => k_is); (case k_43 => k_is); (case t_43 => k_is); (case e_43 => first | rfl | k_is)
    intro e_BadSize_BadSize
    refine' Lw.cut_exm (x := "BadSize") (y := "BadWidths") (b := false) KX G ?a_44 ?c_44 ?s_44 ?k_44 ?t_44 ?e_44 ?next_44
    (case a_44 => k_is); (case c_44 => k_is); (case s_44 => k_is); (case k_44 => k_is); (case t_44 => k_is); (case e_44 => first | rfl | k_is)
    intro e_BadSize_BadWidths
    refine' Lw.cut_exm (x := "BadWidths") (y := "BadLeast") (b := false) KX G ?a_45 ?c_45 ?s_45 ?k_45 ?t_45 ?e_45 ?next_45
    (case a_45 => k_is); (case c_45 => k_is); (case s_45 => k_is); (case k_45 => k_is); (case t_45 => k_is); (case e_45 => first | rfl | k_is)
    intro e_BadWidths_BadLeast
    refine' Lw.cut_exm (x := "BadWidths") (y := "BadSize") (b := false) KX G ?a_46 ?c_46 ?s_46 ?k_46 ?t_46 ?e_46 ?next_46
    (case a_46 => k_is); (case c_46 => k_is); (case s_46 => k_is); (case k_46 => k_is); (case t_46 => k_is); (case e_46 => first | rfl | k_is)
    intro e_BadWidths_BadSize
    refine' Lw.cut_exm (x := "BadWidths") (y := "BadWidths") (b := true) KX G ?a_47 ?c_47 ?s_47 ?k_47 ?t_47 ?e_47 ?next_47
    (case a_47 => k_is); (case c_47 => k_is); (case s_47 => k_is); (case k_47 => k_is); (case t_47 => k_is); (case e_47 => first | rfl | k_is)
    intro e_BadWidths_BadWidths
    refine' Lw.law_at (n := 40) (i := 11) (B := Lw.T.base) (fns := Lw.T.fns) (blt := Lw.T.blt) (gls := Lw.T.gls) (exs := Lw.T.exs) (hds := Lw.T.hds) (cls := Lw.T.cls) (st := Lw.T.top 22) (N := Lw.T.N11) (r := Lw.T.r11) KX G hmg ?a_48 ?l_48 ?c_48 ?k_48 Lw.T.s11 rfl rfl rfl Lw.T.c11 (fun _ _ _ _ _ _ _ => rfl) ?hd ?hblt ?hgls ?hexs ?hexm ?hcls ?hhds Lw.T.plain
    (case a_48 => k_is); (case l_48 => k_is); (case c_48 => k_is); (case k_48 => k_is)
    case hd =>
      intro i name hi
      rcases i with _ | i
      · cases hi; exact D0
      rcases i with _ | i
      · cases hi; exact D1
      rcases i with _ | i
      · cases hi; exact D2
      rcases i with _ | i
      · cases hi; exact D3
      rcases i with _ | i
      · cases hi; exact D4
      rcases i with _ | i
      · cases hi; exact D5
      rcases i with _ | i
      · cases hi; exact D6
      rcases i with _ | i
      · cases hi; exact D7
      rcases i with _ | i
      · cases hi; exact D8
      rcases i with _ | i
      · cases hi; exact D9
      rcases i with _ | i
      · cases hi; exact D10
      rcases i with _ | i
      · cases hi; exact D11
      cases hi
    case hblt =>
      intro x hx
      simp only [Lw.T.blt, List.mem_cons, List.not_mem_nil, or_false] at hx
      rcases hx with rfl | rfl | rfl | rfl | rfl | rfl | rfl | rfl | rfl | rfl | rfl | rfl | rfl <;> assumption
    case hgls =>
      intro x hx
      simp only [Lw.T.gls, List.mem_cons, List.not_mem_nil, or_false] at hx
      rcases hx with rfl | rfl <;> assumption
    case hexs =>
      intro x hx
      simp only [Lw.T.exs, List.mem_cons, List.not_mem_nil, or_false] at hx
      rcases hx with rfl | rfl | rfl <;> assumption
    case hexm =>
      intro x y b hb
      obtain ⟨hx, hy, rfl⟩ := Lw.T.exm_of hb
      simp only [Lw.T.exs, Lw.T.hds, List.mem_cons, List.not_mem_nil, or_false] at hx hy
      rcases hx with rfl | rfl | rfl <;> rcases hy with rfl | rfl | rfl <;> first | assumption | exact hy.elim
    case hhds =>
      intro x hx
      simp only [Lw.T.hds, List.mem_cons, List.not_mem_nil, or_false] at hx
    case hcls =>
      intro d hd
      simp only [Lw.T.cls, List.mem_cons, List.not_mem_nil, or_false] at hd
      rcases hd with rfl <;> assumption
