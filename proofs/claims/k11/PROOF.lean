import PyProof.Rows.All
import Wide.All
import OpenK.AllK
import Wide.FinOn
import HandS.ForMost
import HandS.Deep
import HandS.Small
import HandS.TupLen
import KE.KDictKeyed
import KE.SortData
import HandS.ForExc
import HandS.TryMany
import HandS.CallSlots
import HandS.TupAny
import HandS.TupMul
import HandS.Conv
import HandS.IsInst
import HandS.ExcIs
import HandS.DictComp
import HandS.RevRange
import HandS.Strs
import KE.DatumOrd
import KE.KDictExact
import KE.KDictSum
import HandS.Iter
import KE.KDictDisplayH
import HandS.Head2
import HandS.HeadEnd
import HandS.HeadHook2
import PySem.Challenge.RW_lawsofdeeds_k11_exchange
set_option Elab.async false
set_option linter.all false
set_option maxRecDepth 100000
set_option maxHeartbeats 4000000
/-! Dicts whose keys are nested tuples of ints, tracked by what is true of their one object. -/
namespace DL
open PySem PySem.Spec PyProof.Rows L2

/-! ### keys without texts hash alike in all worlds -/
mutual
def nkPlain : NestedKey → Bool
  | .none => true
  | .num _ => true
  | .text _ => false
  | .tup ks => nkPlainAll ks
def nkPlainAll : List NestedKey → Bool
  | [] => true
  | k :: ks => nkPlain k && nkPlainAll ks
end
mutual
theorem hash_plain (w w' : World) : ∀ k : NestedKey, nkPlain k = true → k.hash w = k.hash w'
  | .none, _ => rfl
  | .num _, _ => rfl
  | .text _, h => by simp [nkPlain] at h
  | .tup ks, h => by
    rw [NestedKey.hash, NestedKey.hash, hashes_plain w w' ks (by simpa [nkPlain] using h)]
theorem hashes_plain (w w' : World) : ∀ ks : List NestedKey, nkPlainAll ks = true → NestedKey.hashes w ks = NestedKey.hashes w' ks
  | [], _ => rfl
  | k :: ks, h => by
    rw [nkPlainAll, Bool.and_eq_true] at h
    rw [NestedKey.hashes, NestedKey.hashes, hash_plain w w' k h.1, hashes_plain w w' ks h.2]
end
/-- a key that a dict may have here -/
def nkOk (k : NestedKey) : Prop := nkPlain k = true ∧ k.depth ≤ 8

/-! ### values that are keys -/
mutual
inductive NkV (K : PySem.W.Frag) (H : Hp) : V → NestedKey → Prop
  | non : NkV K H .non .none
  | int (i : Int) : NkV K H (.int i) (.num i)
  | str (x : Str) : NkV K H (.str x) (.text x)
  | tup {a : Addr} {xs : List V} {ks : List NestedKey} : SqT K H a xs → NkVs K H xs ks → NkV K H (.ref a) (.tup ks)
inductive NkVs (K : PySem.W.Frag) (H : Hp) : List V → List NestedKey → Prop
  | nil : NkVs K H [] []
  | cons {v : V} {vs : List V} {k : NestedKey} {ks : List NestedKey} : NkV K H v k → NkVs K H vs ks → NkVs K H (v :: vs) (k :: ks)
end
section
variable {X : Cx} {pins : List (Addr × Obj)} {σ : L2.St} {H : Hp} {s : Shared}
mutual
theorem NkV.is (I : Inv X pins σ H s) : ∀ {v : V} {k : NestedKey} {u : Value}, NkV X.K H v k → RelV v u → NestedIs s.heap k u
  | _, _, _, .non, r => by cases (show _ = Value.none from r); exact .none
  | _, _, _, .int i, r => by obtain ⟨t, rfl⟩ := (show ∃ t, _ = Value.int i t from r); exact .int i t
  | _, _, _, .str x, r => by obtain ⟨t, rfl⟩ := (show ∃ t, _ = Value.str x t from r); exact .text x t
  | _, _, _, .tup (a := a) h q, r => by
    cases (show _ = Value.ref a from r)
    obtain ⟨its, rv, ⟨o, ho, hc, n, hd⟩, _⟩ := I.tuple h
    exact .tup ho hc hd (by simpa using NkVs.is I q rv)
theorem NkVs.is (I : Inv X pins σ H s) : ∀ {vs : List V} {ks : List NestedKey} {us : List Value}, NkVs X.K H vs ks → Vals vs us → NestedAll s.heap ks us
  | _, _, _, .nil, r => by cases r; exact .nil
  | _, _, _, .cons h q, r => by
    cases r with
    | cons r1 r2 => exact .cons (NkV.is I h r1) (NkVs.is I q r2)
end
end
theorem sqT_sm {K : PySem.W.Frag} {H H' : Hp} {a : Addr} {xs : List V} (ht : ∀ b o, H b = some o → (∃ ys, o = .tup ys ∨ ∃ ob, o = .frz ob (.tup ys)) → H' b = some o) (h : SqT K H a xs) : SqT K H' a xs := by
  rcases h with (h | ⟨o, h⟩) | h
  · exact .inl (.inl (ht a _ h ⟨_, .inl rfl⟩))
  · exact .inl (.inr ⟨o, ht a _ h ⟨_, .inr ⟨_, rfl⟩⟩⟩)
  · exact .inr h
mutual
theorem NkV.mv {K : PySem.W.Frag} {H H' : Hp} (ht : ∀ b o, H b = some o → (∃ ys, o = .tup ys ∨ ∃ ob, o = .frz ob (.tup ys)) → H' b = some o) : ∀ {v : V} {k : NestedKey}, NkV K H v k → NkV K H' v k
  | _, _, .non => .non
  | _, _, .int i => .int i
  | _, _, .str x => .str x
  | _, _, .tup h q => .tup (sqT_sm ht h) (NkVs.mv ht q)
theorem NkVs.mv {K : PySem.W.Frag} {H H' : Hp} (ht : ∀ b o, H b = some o → (∃ ys, o = .tup ys ∨ ∃ ob, o = .frz ob (.tup ys)) → H' b = some o) : ∀ {v : List V} {k : List NestedKey}, NkVs K H v k → NkVs K H' v k
  | _, _, .nil => .nil
  | _, _, .cons h q => .cons (NkV.mv ht h) (NkVs.mv ht q)
end

/-! ### the dict's own object -/
abbrev KQ (xs : List (NestedKey × Addr × V)) (ys : List (NestedKey × Addr × Value)) : Prop := Paired (fun p q => p.1 = q.1 ∧ p.2.1 = q.2.1 ∧ RelV p.2.2 q.2.2) xs ys
def dqE (w : World) (x : NestedKey × Addr × Value) : DictEntry := ⟨x.1.hash w, .ref x.2.1, x.2.2⟩
/-- at a stands a dict with these keys (their tuples' addresses) and values -/
def dq (w : World) (a : Addr) (xs : List (NestedKey × Addr × V)) : Heap → Prop := fun h =>
  ∃ o es ep ys, h.get? a = some o ∧ o.ExactDict ∧ o.data = .dict es ep ∧ KQ xs ys ∧ es.toList = ys.map (dqE w) ∧ (xs.map (·.1)).Nodup ∧ (a == sysModules) = false ∧ xs.length ≤ sizeLine
theorem dq_mono {w : World} {a : Addr} {xs : List (NestedKey × Addr × V)} : ∀ h1 h2 : Heap, dq w a xs h1 → (∀ o, h1.get? a = some o → h2.get? a = some o) → dq w a xs h2 :=
  fun _ _ ⟨o, es, ep, ys, h, r⟩ k => ⟨o, es, ep, ys, k _ h, r⟩
theorem dq_ok {P : Program} {w w' : World} {H : Hp} {h : Heap} {a : Addr} {xs : List (NestedKey × Addr × V)} (d : dq w' a xs h) : ObjOk P w H h a (.ext (dq w' a xs)) :=
  ⟨d, let ⟨o, _, _, _, h, _⟩ := d; ⟨o, h⟩, dq_mono⟩
/-- all its keys stand -/
def KeysAt (K : PySem.W.Frag) (H : Hp) (xs : List (NestedKey × Addr × V)) : Prop := ∀ x ∈ xs, NkV K H (.ref x.2.1) x.1 ∧ nkOk x.1
theorem KeysAt.mv {K : PySem.W.Frag} {H H' : Hp} {xs : List (NestedKey × Addr × V)} (ht : ∀ b o, H b = some o → (∃ ys, o = .tup ys ∨ ∃ ob, o = .frz ob (.tup ys)) → H' b = some o) (h : KeysAt K H xs) : KeysAt K H' xs := fun x hx => ⟨(h x hx).1.mv ht, (h x hx).2⟩
/-- what stands at a key -/
def qGet (xs : List (NestedKey × Addr × V)) (k : NestedKey) : Option V := (xs.find? fun x => decide (x.1 = k)).map (·.2.2)
def qPut (xs : List (NestedKey × Addr × V)) (k : NestedKey) (b : Addr) (v : V) : List (NestedKey × Addr × V) :=
  if (qGet xs k).isSome then xs.map fun x => if x.1 = k then (x.1, x.2.1, v) else x else xs ++ [(k, b, v)]
theorem KQ.val {xs : List (NestedKey × Addr × V)} {ys : List (NestedKey × Addr × Value)} (r : KQ xs ys) (k : NestedKey) : RelO (qGet xs k) ((atKey ys k).map (·.2)) := by
  induction r with
  | nil => exact True.intro
  | @cons p q ps qs h t ih =>
    obtain ⟨h1, _, h2⟩ := h
    unfold qGet atKey at *
    by_cases e : p.1 = k
    · have e' : q.1 = k := h1.symm.trans e
      simp only [List.find?_cons, e, e', decide_true, Option.map_some]
      exact h2
    · have e' : ¬ q.1 = k := fun z => e (h1.trans z)
      simp only [List.find?_cons, e, e', decide_false]
      exact ih
theorem KQ.repl {xs : List (NestedKey × Addr × V)} {ys : List (NestedKey × Addr × Value)} (r : KQ xs ys) (k : NestedKey) {y : V} {u : Value} (ry : RelV y u) :
    KQ (xs.map fun x => if x.1 = k then (x.1, x.2.1, y) else x) (ys.map (putAt k u)) := by
  induction r with
  | nil => exact .nil
  | @cons p q ps qs h t ih =>
    rw [List.map_cons, List.map_cons]
    refine .cons ?_ ih
    obtain ⟨h1, h2, h3⟩ := h
    unfold putAt
    by_cases e : p.1 = k
    · rw [if_pos e, if_pos (h1.symm.trans e)]; exact ⟨h1, h2, ry⟩
    · rw [if_neg e, if_neg (fun z => e (h1.trans z))]; exact ⟨h1, h2, h3⟩
theorem KQ.put {xs : List (NestedKey × Addr × V)} {ys : List (NestedKey × Addr × Value)} (r : KQ xs ys) (k : NestedKey) {b : Addr} {y : V} {u : Value} (ry : RelV y u) :
    KQ (qPut xs k b y) (storedH ys k b u) := by
  have e : (qGet xs k).isSome = (atKey ys k).isSome := by rw [(r.val k).isSome_eq, Option.isSome_map]
  unfold qPut storedH
  rw [e]
  by_cases q : (atKey ys k).isSome = true
  · rw [if_pos q, if_pos q]; exact r.repl k ry
  · rw [if_neg q, if_neg q]; exact Paired.snoc r ⟨rfl, rfl, ry⟩
theorem KQ.keys {xs : List (NestedKey × Addr × V)} {ys : List (NestedKey × Addr × Value)} (r : KQ xs ys) : xs.map (·.1) = ys.map (·.1) := by
  induction r with
  | nil => rfl
  | cons h t ih => rw [List.map_cons, List.map_cons, ih, h.1]
theorem qPut_len (xs : List (NestedKey × Addr × V)) (k : NestedKey) (b : Addr) (v : V) : (qPut xs k b v).length ≤ xs.length + 1 := by
  unfold qPut
  split
  · rw [List.length_map]; omega
  · simp
theorem qGet_in {xs : List (NestedKey × Addr × V)} {k : NestedKey} (h : (qGet xs k).isSome = true) : k ∈ xs.map (·.1) := by
  unfold qGet at h
  rw [Option.isSome_map, List.find?_isSome] at h
  obtain ⟨x, hx, e⟩ := h
  exact List.mem_map.mpr ⟨x, hx, of_decide_eq_true e⟩
theorem qGet_not {xs : List (NestedKey × Addr × V)} {k : NestedKey} (h : ¬ (qGet xs k).isSome = true) : k ∉ xs.map (·.1) := fun z => h (by
  unfold qGet
  rw [Option.isSome_map, List.find?_isSome]
  obtain ⟨x, hx, e⟩ := List.mem_map.mp z
  exact ⟨x, hx, decide_eq_true e⟩)
theorem nd_app {α : Type} {l : List α} {k : α} (h : l.Nodup) (n : k ∉ l) : (l ++ [k]).Nodup := by
  rw [List.nodup_append]
  exact ⟨h, by simp, fun a ha b hb => by
    have : b = k := by simpa using hb
    subst this
    intro e
    subst e
    exact n ha⟩
theorem qPut_keys (xs : List (NestedKey × Addr × V)) (k : NestedKey) (b : Addr) (v : V) : (qPut xs k b v).map (·.1) = if (qGet xs k).isSome then xs.map (·.1) else xs.map (·.1) ++ [k] := by
  unfold qPut
  split
  · rw [List.map_map]
    refine List.map_congr_left fun x _ => ?_
    by_cases e : x.1 = k <;> simp [e]
  · simp
theorem qPut_nd {xs : List (NestedKey × Addr × V)} {k : NestedKey} {b : Addr} {v : V} (h : (xs.map (·.1)).Nodup) : ((qPut xs k b v).map (·.1)).Nodup := by
  rw [qPut_keys]
  split
  · exact h
  · rename_i n
    exact nd_app h (qGet_not n)
theorem qPut_at {K : PySem.W.Frag} {H : Hp} {xs : List (NestedKey × Addr × V)} {k : NestedKey} {b : Addr} {v : V} (h : KeysAt K H xs) (hb : NkV K H (.ref b) k) (ok : nkOk k) : KeysAt K H (qPut xs k b v) := by
  intro x hx
  unfold qPut at hx
  split at hx
  · obtain ⟨y, hy, e⟩ := List.mem_map.mp hx
    by_cases c : y.1 = k
    · rw [if_pos c] at e; subst e; exact h y hy
    · rw [if_neg c] at e; subst e; exact h y hy
  · rcases List.mem_append.mp hx with hx | hx
    · exact h x hx
    · have : x = (k, b, v) := by simpa using hx
      subst this
      exact ⟨hb, ok⟩
/-- a dict's own object, tracked: the keyed dict of the library -/
theorem dictOfH_of {P : Program} {w w' : World} {h : Heap} {a : Addr} {xs : List (NestedKey × Addr × V)} (d : dq w' a xs h) (hk : ∀ x ∈ xs, NestedIs h x.1 (.ref x.2.1) ∧ nkOk x.1) :
    (a == sysModules) = false ∧ xs.length ≤ sizeLine ∧ ∃ ys, KQ xs ys ∧ h.DictOfH (nestedKind P w) a ys := by
  obtain ⟨o, es, ep, ys, h1, h2, h3, r, h4, h5, h6, h7⟩ := d
  have all : ∀ {l : List (NestedKey × Addr × V)} {m : List (NestedKey × Addr × Value)}, KQ l m → (∀ x ∈ l, NestedIs h x.1 (.ref x.2.1) ∧ nkOk x.1) → ∀ y ∈ m, NestedIs h y.1 (.ref y.2.1) ∧ nkOk y.1 := by
    intro l m q
    induction q with
    | nil => intro _ y hy; exact nomatch hy
    | @cons p q ps qs hq t ih =>
      intro hl y hy
      rcases List.mem_cons.mp hy with e | hy
      · subst e
        have := hl p (by simp)
        rw [hq.1, hq.2.1] at this
        exact this
      · exact ih (fun x hx => hl x (List.mem_cons_of_mem _ hx)) y hy
  have ha := all r hk
  refine ⟨h6, h7, ys, r, o, es, ep, h1, h2, h3, ?_, fun x hx => ⟨(ha x hx).1, (ha x hx).2.2⟩, by rw [← r.keys]; exact h5⟩
  rw [h4]
  refine List.map_congr_left fun x hx => ?_
  show dqE w' x = entryOfKey (nestedKind P w) x
  unfold dqE entryOfKey
  rw [hash_plain w' w x.1 (ha x hx).2.1]
  rfl
theorem dq_of {P : Program} {w : World} {h : Heap} {a : Addr} {xs : List (NestedKey × Addr × V)} {ys : List (NestedKey × Addr × Value)} (r : KQ xs ys) (d : h.DictOfH (nestedKind P w) a ys) (hs : (a == sysModules) = false) (hz : xs.length ≤ sizeLine) : dq w a xs h := by
  obtain ⟨o, es, ep, h1, h2, h3, h4, _, h5⟩ := d
  exact ⟨o, es, ep, ys, h1, h2, h3, r, h4, by rw [r.keys]; exact h5, hs, hz⟩

section
variable {X : Cx} {pins : List (Addr × Obj)} {σ : L2.St} {H : Hp} {s : Shared} {a : Addr} {w : World} {xs : List (NestedKey × Addr × V)}
theorem keys_is (I : Inv X pins σ H s) (k : KeysAt X.K H xs) : ∀ x ∈ xs, NestedIs s.heap x.1 (.ref x.2.1) ∧ nkOk x.1 := fun x hx => ⟨NkV.is I (k x hx).1 rfl, (k x hx).2⟩
theorem rd_ok {u : HO} (I : Inv X pins σ H s) (e : Rd H a u) : ObjOk X.prog X.w H s.heap a u := by
  rcases e with e | ⟨o, e⟩
  · exact I.hok a _ e
  · exact (I.hok a _ e).2
theorem dq_get (I : Inv X pins σ H s) (e : Rd H a (.ext (dq w a xs))) (k : KeysAt X.K H xs) : (a == sysModules) = false ∧ xs.length ≤ sizeLine ∧ ∃ ys, KQ xs ys ∧ s.heap.DictOfH (nestedKind X.prog X.w) a ys :=
  dictOfH_of (rd_ok I e).1 (keys_is I k)
/-- the empty dict is both -/
theorem dk_nil (I : Inv X pins σ H s) (e : Rd H a (.dK [])) : (a == sysModules) = false ∧ s.heap.DictOfH (nestedKind X.prog X.w) a [] := by
  obtain ⟨_, hs, vs, kv, o, es, ep, h1, h2, h3, _, h5, _⟩ := (show ObjOk X.prog X.w H s.heap a (.dK []) from rd_ok I e)
  cases kv
  refine ⟨hs, o, es, ep, h1, h2, h3, ?_, (fun _ hx => nomatch hx), List.nodup_nil⟩
  have := h5.length
  simpa using this
end
end DL

/-! Rules of such dicts. -/
namespace DL
open PySem PySem.Spec PyProof.Rows L2

/-- what the dict at a holds at the key y -/
def NGet (K : PySem.W.Frag) (H : Hp) (a : Addr) (y : V) (r : Option V) : Prop :=
  (∃ kvs k, Rd H a (.dK kvs) ∧ y = kV k ∧ r = valV kvs k) ∨ (∃ b k, Rd H a (.dK []) ∧ y = .ref b ∧ NkV K H y k ∧ nkOk k ∧ r = none) ∨
  ∃ w xs b k, Rd H a (.ext (dq w a xs)) ∧ KeysAt K H xs ∧ y = .ref b ∧ NkV K H y k ∧ nkOk k ∧ r = qGet xs k
/-- the heap behind a[y] = v -/
def NPut (K : PySem.W.Frag) (w : World) (H : Hp) (a : Addr) (y v : V) (H' : Hp) : Prop :=
  (∃ kvs k, H a = some (.dK kvs) ∧ y = kV k ∧ kvs.length < sizeLine ∧ H' = upd H a (.dK (putK kvs k v))) ∨
  (∃ b k, H a = some (.dK []) ∧ y = .ref b ∧ NkV K H y k ∧ nkOk k ∧ H' = upd H a (.ext (dq w a [(k, b, v)]))) ∨
  ∃ w' xs b k, H a = some (.ext (dq w' a xs)) ∧ KeysAt K H xs ∧ y = .ref b ∧ NkV K H y k ∧ nkOk k ∧ xs.length < sizeLine ∧ H' = upd H a (.ext (dq w a (qPut xs k b v)))
section
variable {X : Cx} {pins : List (Addr × Obj)} {σ : L2.St} {H : Hp} {s : Shared} {a : Addr} {y v : V} {u r : Value} {o : Option V} {A : Around} {E : Value → Shared → Prop}
theorem room_in1 (hu : A.units + 10 < cLine) : (nestedKind X.prog X.w).room A.in1 := by
  show A.in1.units + 8 < cLine
  have : A.in1.units ≤ A.units + 1 := by
    show (A.in1).units ≤ _
    simp [Around.in1, Around.units]
    try omega
  omega
theorem n_getItem {Q : Value → Shared → Prop} (hu : A.units + 10 < cLine) (I : Inv X pins σ H s) (g : NGet X.K H a y (some v)) (ry : RelV y u) (h : ∀ w' s', Inv X pins σ H s' → RelV v w' → Q w' s') :
    wpAny (model X.prog X.w) A (getItem (.ref a) u) Q E s := by
  rcases g with ⟨kvs, k, e, ey, l⟩ | ⟨b, k, e, ey, n, ok, l⟩ | ⟨w, xs, b, k, e, ks, ey, n, ok, l⟩
  · exact d_getItem (by omega) I (.inl ⟨kvs, k, e, ey, l⟩) ry h
  · cases l
  · subst ey
    cases (show u = Value.ref b from ry)
    obtain ⟨hd, z, ys, rel, dd⟩ := dq_get I e ks
    obtain ⟨w', hw, rw'⟩ := RelO.some_of (v := v) (o := (atKey ys k).map (·.2)) (by rw [l]; exact rel.val k)
    obtain ⟨p, hp, hp2⟩ := Option.map_eq_some_iff.mp hw
    refine wpAny_getItem_heap (room_in1 hu) ⟨n.is I rfl, ok.2⟩ dd hp ?_
    rw [hp2]
    exact h w' _ (I.tok _) rw'
theorem n_in {Q : Value → Shared → Prop} (hu : A.units + 10 < cLine) (I : Inv X pins σ H s) (g : NGet X.K H a y o) (ry : RelV y u) (h : ∀ s', Inv X pins σ H s' → Q (.bool o.isSome) s') :
    wpAny (model X.prog X.w) A (compareOp .In u (.ref a)) Q E s := by
  rcases g with ⟨kvs, k, e, ey, l⟩ | ⟨b, k, e, ey, n, ok, l⟩ | ⟨w, xs, b, k, e, ks, ey, n, ok, l⟩
  · exact d_in (by omega) I (.inl ⟨kvs, k, e, ey, l⟩) ry h
  · subst ey l
    cases (show u = Value.ref b from ry)
    obtain ⟨hd, dd⟩ := dk_nil I e
    exact wpAny_in_heap (room_in1 hu) ⟨n.is I rfl, ok.2⟩ hd dd (h _ (I.tok _))
  · subst ey
    cases (show u = Value.ref b from ry)
    obtain ⟨hd, z, ys, rel, dd⟩ := dq_get I e ks
    refine wpAny_in_heap (room_in1 hu) ⟨n.is I rfl, ok.2⟩ hd dd ?_
    have q := (rel.val k).isSome_eq
    rw [Option.isSome_map] at q
    rw [← q, ← l]
    exact h _ (I.tok _)
theorem n_notIn {Q : Value → Shared → Prop} (hu : A.units + 10 < cLine) (I : Inv X pins σ H s) (g : NGet X.K H a y o) (ry : RelV y u) (h : ∀ s', Inv X pins σ H s' → Q (.bool (!o.isSome)) s') :
    wpAny (model X.prog X.w) A (compareOp .NotIn u (.ref a)) Q E s := by
  rcases g with ⟨kvs, k, e, ey, l⟩ | ⟨b, k, e, ey, n, ok, l⟩ | ⟨w, xs, b, k, e, ks, ey, n, ok, l⟩
  · exact d_notIn (by omega) I (.inl ⟨kvs, k, e, ey, l⟩) ry h
  · subst ey l
    cases (show u = Value.ref b from ry)
    obtain ⟨hd, dd⟩ := dk_nil I e
    exact wpAny_notIn_heap (room_in1 hu) ⟨n.is I rfl, ok.2⟩ hd dd (h _ (I.tok _))
  · subst ey
    cases (show u = Value.ref b from ry)
    obtain ⟨hd, z, ys, rel, dd⟩ := dq_get I e ks
    refine wpAny_notIn_heap (room_in1 hu) ⟨n.is I rfl, ok.2⟩ hd dd ?_
    have q := (rel.val k).isSome_eq
    rw [Option.isSome_map] at q
    rw [← q, ← l]
    exact h _ (I.tok _)
theorem n_setItem {H' : Hp} {Q : Unit → Shared → Prop} (hu : A.units + 10 < cLine) (I : Inv X pins σ H s) (g : NPut X.K X.w H a y v H') (ry : RelV y u) (rv : RelV v r) (h : ∀ s', Inv X pins σ H' s' → Q () s') :
    wpAny (model X.prog X.w) A (setItem (.ref a) u r) Q E s := by
  rcases g with ⟨kvs, k, e, ey, l, eH⟩ | ⟨b, k, e, ey, n, ok, eH⟩ | ⟨w, xs, b, k, e, ks, ey, n, ok, hl, eH⟩
  · exact d_setItem (by omega) I (.inl ⟨kvs, k, e, ey, l, eH⟩) ry rv h
  · subst ey eH
    cases (show u = Value.ref b from ry)
    obtain ⟨hd, dd⟩ := dk_nil I (.inl e)
    refine wpAny_setItem_heap (hsz := Nat.zero_le _) (room_in1 hu) ⟨n.is I rfl, ok.2⟩ dd fun h' dd' hs => h _ ?_
    have d' : dq X.w a [(k, b, v)] h' := dq_of (P := X.prog) (ys := [(k, b, r)]) (.cons ⟨rfl, rfl, rv⟩ .nil) dd' hd (by simp [sizeLine_eq])
    obtain ⟨q, _, _, _, hq, _⟩ := id d'
    exact d_write I (by rw [e]; exact True.intro) hs ⟨q, hq⟩ (dq_ok d')
  · subst ey eH
    cases (show u = Value.ref b from ry)
    obtain ⟨hd, z, ys, rel, dd⟩ := dq_get I (.inl e) ks
    have hz : ys.length ≤ sizeLine := by rw [← Paired.length rel]; exact z
    have hl : (qPut xs k b v).length ≤ sizeLine := by have := qPut_len xs k b v; omega
    refine wpAny_setItem_heap (hsz := hz) (room_in1 hu) ⟨n.is I rfl, ok.2⟩ dd fun h' dd' hs => h _ ?_
    have d' : dq X.w a (qPut xs k b v) h' := dq_of (P := X.prog) (rel.put k rv) dd' hd hl
    obtain ⟨q, _, _, _, hq, _⟩ := id d'
    exact d_write I (by rw [e]; exact True.intro) hs ⟨q, hq⟩ (dq_ok d')
theorem nget_type (I : Inv X pins σ H s) (g : NGet X.K H a y o) : s.TypeIs (.ref a) "dict" := by
  rcases g with ⟨kvs, k, e, ey, l⟩ | ⟨b, k, e, ey, n, ok, l⟩ | ⟨w, xs, b, k, e, ks, ey, n, ok, l⟩
  · obtain ⟨_, _, vs, _, dd⟩ := dk_rd I.hok e
    exact dd.typeIs
  · exact (dk_nil I e).2.typeIs
  · obtain ⟨_, _, ys, _, dd⟩ := dq_get I e ks
    exact dd.typeIs
end
/-! ### as operators -/
def rNIn (K : PySem.W.Frag) : R2 := fun x y H Q => ∃ a o, y = .ref a ∧ NGet K H a x o ∧ Q (.bl o.isSome) H
def rNNotIn (K : PySem.W.Frag) : R2 := fun x y H Q => ∃ a o, y = .ref a ∧ NGet K H a x o ∧ Q (.bl (!o.isSome)) H
def rNIx (K : PySem.W.Frag) : R2 := fun x y H Q => ∃ a v, x = .ref a ∧ NGet K H a y (some v) ∧ Q v H
def rNSet (K : PySem.W.Frag) (w : World) : TSet := fun o i v H Q => ∃ a H', o = .ref a ∧ NPut K w H a i v H' ∧ Q H'
section
variable {X : Cx}
theorem op_nin (hu : X.A.units + 10 < cLine) : OpR X (compareOp .In) (rNIn X.K) := by
  intro pins s σ H x y v u Q I rx ry h
  obtain ⟨a, o, rfl, g, q⟩ := h
  obtain rfl : u = Value.ref a := ry
  exact n_in hu I g rx fun s' I' => ⟨.bl o.isSome, H, I', rfl, q⟩
theorem op_nnotIn (hu : X.A.units + 10 < cLine) : OpR X (compareOp .NotIn) (rNNotIn X.K) := by
  intro pins s σ H x y v u Q I rx ry h
  obtain ⟨a, o, rfl, g, q⟩ := h
  obtain rfl : u = Value.ref a := ry
  exact n_notIn hu I g rx fun s' I' => ⟨.bl (!o.isSome), H, I', rfl, q⟩
theorem set_nq (hu : X.A.units + 10 < cLine) : PSet X (rNSet X.K X.w) := by
  intro pins s σ H o i v ov iv u Q I ro ri rv h
  obtain ⟨a, H', rfl, g, q⟩ := h
  obtain rfl : ov = Value.ref a := ro
  exact n_setItem hu I g ri rv fun s' I' => ⟨H', I', q⟩
end
end DL

/-! The data layer: plain data, results, the relation between slots and data. -/
namespace DL
open PySem PySem.Spec PyProof.Rows L2

/-- plain data -/
inductive D where
  | non | bl (b : Bool) | int (i : Int) | str (s : Str)
  | tup (l : List D) | lst (l : List D) | frz (l : List D) | set (l : List D) | dct (ks vs : List D) | dcl (ks vs : List D) | lk (o : Obj) (u : HO) | obj (c : Str) (l : List D) | raw
inductive R (α : Type) where
  | ok (a : α) | exc (c : Str) | bad
def R.bind {α β : Type} : R α → (α → R β) → R β
  | .ok a, f => f a
  | .exc c, _ => .exc c
  | .bad, _ => .bad
instance : Monad R where
  pure := R.ok
  bind := R.bind
theorem R.ok_bind {α β : Type} (a : α) (f : α → R β) : ((R.ok a : R α) >>= f) = f a := rfl
theorem R.exc_bind {α β : Type} (c : Str) (f : α → R β) : ((R.exc c : R α) >>= f) = R.exc c := rfl
theorem R.bad_bind {α β : Type} (f : α → R β) : ((R.bad : R α) >>= f) = R.bad := rfl
theorem R.pure_eq {α : Type} (a : α) : (pure a : R α) = R.ok a := rfl

abbrev Env := List (Option D)

/-- what never changes: the text's part, the globals, the fields of the classes -/
structure Gx where
  K : PySem.W.Frag
  mg : Str → Option Value
  fl : Str → List Str

/-- may change -/
def isM : HO → Bool
  | .lst _ => true
  | .dK _ => true
  | .dT _ => true
  | .set _ _ => true
  | .ext _ => true
  | .ins _ _ fs => (fs.lookup ("operations" : Str)).isNone
  | _ => false

/-- a list that no one may change -/
def SqF (K : PySem.W.Frag) (H : Hp) (a : Addr) (xs : List V) : Prop :=
  (∃ o, H a = some (.frz o (.lst xs))) ∨ ∃ (o : Obj) (its : Array Value) (n : Nat), K.lookup a = some o ∧ o.cls = .type "list" ∧ o.dict = none ∧ o.data = .seq its n ∧ its.size ≤ sizeLine ∧ Vals xs its.toList
theorem SqF.sq {K : PySem.W.Frag} {H : Hp} {a : Addr} {xs : List V} (h : SqF K H a xs) : SqL K H a xs := by
  rcases h with ⟨o, h⟩ | h
  · exact .inl (.inr ⟨o, h⟩)
  · exact .inr h
/-! ### dicts -/
def keyNk : Key → NestedKey
  | .inl i => .num i
  | .inr x => .text x
mutual
/-- data that a dict may have as a key -/
def nk : D → Option NestedKey
  | .int i => some (.num i)
  | .str x => some (.text x)
  | .tup l => (nkAll l).map .tup
  | _ => none
def nkAll : List D → Option (List NestedKey)
  | [] => some []
  | d :: l => (nk d).bind fun k => (nkAll l).map fun ks => k :: ks
end
/-- at a stands a dict: its keys as values and as keys, its values; f: what stands around it -/
inductive DctW (f : HO → HO) (H : Hp) (a : Addr) : List V → List NestedKey → List V → Prop
  | k {kvs : List (Key × V)} : H a = some (f (.dK kvs)) → DctW f H a (kvs.map fun p => kV p.1) (kvs.map fun p => keyNk p.1) (kvs.map (·.2))
  | q {w : World} {xs : List (NestedKey × Addr × V)} : H a = some (f (.ext (dq w a xs))) → xs ≠ [] → (∀ x ∈ xs, nkOk x.1) → DctW f H a (xs.map fun x => .ref x.2.1) (xs.map (·.1)) (xs.map (·.2.2))
abbrev Dct : Hp → Addr → List V → List NestedKey → List V → Prop := DctW id
/-- frozen: no one may change it any more -/
abbrev DctL (o : Obj) : Hp → Addr → List V → List NestedKey → List V → Prop := DctW (HO.frz o)
theorem Dct.stay {H H' : Hp} {a : Addr} {vk : List V} {ns : List NestedKey} {vv : List V} (k : ∀ o, H a = some o → H' a = some o) : Dct H a vk ns vv → Dct H' a vk ns vv
  | .k h => .k (k _ h)
  | .q h n o => .q (k _ h) n o
theorem DctL.stay {H H' : Hp} {a : Addr} {ob : Obj} {vk : List V} {ns : List NestedKey} {vv : List V} (k : ∀ u, H a = some (.frz ob u) → H' a = some (.frz ob u)) : DctL ob H a vk ns vv → DctL ob H' a vk ns vv
  | .k h => .k (k _ h)
  | .q h n o => .q (k _ h) n o
theorem Dct.mut {H : Hp} {a : Addr} {vk : List V} {ns : List NestedKey} {vv : List V} : Dct H a vk ns vv → ∃ o, H a = some o ∧ isM o = true
  | .k h => ⟨_, h, rfl⟩
  | .q h _ _ => ⟨_, h, rfl⟩
theorem DctW.at {f : HO → HO} {H : Hp} {a : Addr} {vk : List V} {ns : List NestedKey} {vv : List V} : DctW f H a vk ns vv → ∃ u, H a = some (f u)
  | .k h => ⟨_, h⟩
  | .q h _ _ => ⟨_, h⟩

mutual
inductive Rp (G : Gx) (H : Hp) (P : Addr → Prop) : V → D → Prop
  | non : Rp G H P .non .non
  | bl (b : Bool) : Rp G H P (.bl b) (.bl b)
  | int (i : Int) : Rp G H P (.int i) (.int i)
  | str (x : Str) : Rp G H P (.str x) (.str x)
  | tup {a : Addr} {xs : List V} {ds : List D} : SqT G.K H a xs → xs.length ≤ sizeLine → RpAll G H P xs ds → Rp G H P (.ref a) (.tup ds)
  | lst {a : Addr} {xs : List V} {ds : List D} : H a = some (.lst xs) → xs.length ≤ sizeLine → ¬ P a → RpAll G H P xs ds → Rp G H P (.ref a) (.lst ds)
  | lstF {a : Addr} {xs : List V} {ds : List D} : SqF G.K H a xs → xs.length ≤ sizeLine → RpAll G H P xs ds → Rp G H P (.ref a) (.frz ds)
  | obj {a C dx : Addr} {fs : List (Str × V)} {c : Str} {ds : List D} : H a = some (.ins C dx fs) → isM (.ins C dx fs) = false → G.mg c = some (.ref C) → fs.map (·.1) = G.fl c → RpAll G H P (fs.map (·.2)) ds → Rp G H P (.ref a) (.obj c ds)
  | raw {a : Addr} : G.fl "<raw>" = List.replicate (a + 1) Str.empty → Rp G H P (.ref a) .raw
  | dct {a : Addr} {vk : List V} {ns : List NestedKey} {vv : List V} {ks vs : List D} : Dct H a vk ns vv → ¬ P a → RpAll G H P vk ks → nkAll ks = some ns → RpAll G H P vv vs → Rp G H P (.ref a) (.dct ks vs)
  | dcl {a : Addr} {ob : Obj} {vk : List V} {ns : List NestedKey} {vv : List V} {ks vs : List D} : DctL ob H a vk ns vv → RpAll G H P vk ks → nkAll ks = some ns → RpAll G H P vv vs → Rp G H P (.ref a) (.dcl ks vs)
  | lk {a : Addr} {ob : Obj} {u : HO} : H a = some (.frz ob u) → Rp G H P (.ref a) (.lk ob u)
inductive RpAll (G : Gx) (H : Hp) (P : Addr → Prop) : List V → List D → Prop
  | nil : RpAll G H P [] []
  | cons {v : V} {vs : List V} {d : D} {ds : List D} : Rp G H P v d → RpAll G H P vs ds → RpAll G H P (v :: vs) (d :: ds)
end

/-- how the heap may move under what stands -/
def Mv (H : Hp) (P : Addr → Prop) (H' : Hp) (P' : Addr → Prop) : Prop :=
  ∀ b o, H b = some o → (isM o = true → ¬ P b) → H' b = some o ∧ (isM o = true → ¬ P' b)

theorem Mv.same {H H' : Hp} {P : Addr → Prop} (s : Same H H') : Mv H P H' P := fun b o e n => ⟨s b o e, n⟩
theorem Mv.less {H : Hp} {P P' : Addr → Prop} (s : ∀ b, P' b → P b ∨ H b = none) : Mv H P H P' := fun b o e n => ⟨e, fun m q => (s b q).elim (n m) fun z => by rw [e] at z; cases z⟩

theorem Mv.sqT {K : PySem.W.Frag} {H H' : Hp} {P P' : Addr → Prop} {a : Addr} {xs : List V} (m : Mv H P H' P') (h : SqT K H a xs) : SqT K H' a xs := by
  rcases h with (h | ⟨o, h⟩) | h
  · exact .inl (.inl (m a _ h (fun z => by cases z)).1)
  · exact .inl (.inr ⟨o, (m a _ h (fun z => by cases z)).1⟩)
  · exact .inr h
theorem Mv.sqF {K : PySem.W.Frag} {H H' : Hp} {P P' : Addr → Prop} {a : Addr} {xs : List V} (m : Mv H P H' P') (h : SqF K H a xs) : SqF K H' a xs := by
  rcases h with ⟨o, h⟩ | h
  · exact .inl ⟨o, (m a _ h (fun z => by cases z)).1⟩
  · exact .inr h

mutual
theorem Rp.mv {G : Gx} {H H' : Hp} {P P' : Addr → Prop} (m : Mv H P H' P') : ∀ {v : V} {d : D}, Rp G H P v d → Rp G H' P' v d
  | _, _, .non => .non
  | _, _, .bl b => .bl b
  | _, _, .int i => .int i
  | _, _, .str x => .str x
  | _, _, .tup h z r => .tup (m.sqT h) z (RpAll.mv m r)
  | _, _, .lst h z n r => .lst (m _ _ h (fun _ => n)).1 z ((m _ _ h (fun _ => n)).2 rfl) (RpAll.mv m r)
  | _, _, .lstF h z r => .lstF (m.sqF h) z (RpAll.mv m r)
  | _, _, .obj h y g f r => .obj (m _ _ h (fun z => by rw [y] at z; cases z)).1 y g f (RpAll.mv m r)
  | _, _, .raw h => .raw h
  | _, _, .dct h n r e q => .dct (h.stay fun o z => (m _ o z (fun _ => n)).1) (by obtain ⟨o, z, y⟩ := h.mut; exact (m _ o z (fun _ => n)).2 y) (RpAll.mv m r) e (RpAll.mv m q)
  | _, _, .dcl h r e q => .dcl (h.stay fun u z => (m _ _ z (fun z => by cases z)).1) (RpAll.mv m r) e (RpAll.mv m q)
  | _, _, .lk h => .lk (m _ _ h (fun z => by cases z)).1
theorem RpAll.mv {G : Gx} {H H' : Hp} {P P' : Addr → Prop} (m : Mv H P H' P') : ∀ {vs : List V} {ds : List D}, RpAll G H P vs ds → RpAll G H' P' vs ds
  | _, _, .nil => .nil
  | _, _, .cons h r => .cons (Rp.mv m h) (RpAll.mv m r)
end
theorem Rp.sm {G : Gx} {H H' : Hp} {P : Addr → Prop} {v : V} {d : D} (h : Rp G H P v d) (s : Same H H') : Rp G H' P v d := h.mv (.same s)
theorem RpAll.sm {G : Gx} {H H' : Hp} {P : Addr → Prop} {v : List V} {d : List D} (h : RpAll G H P v d) (s : Same H H') : RpAll G H' P v d := h.mv (.same s)
theorem Rp.le {G : Gx} {H : Hp} {P P' : Addr → Prop} {v : V} {d : D} (h : Rp G H P v d) (s : ∀ b, P' b → P b) : Rp G H P' v d := h.mv (.less fun b q => .inl (s b q))
theorem RpAll.le {G : Gx} {H : Hp} {P P' : Addr → Prop} {v : List V} {d : List D} (h : RpAll G H P v d) (s : ∀ b, P' b → P b) : RpAll G H P' v d := h.mv (.less fun b q => .inl (s b q))

section
variable {G : Gx} {H : Hp} {P : Addr → Prop}
theorem RpAll.length : ∀ {vs : List V} {ds : List D}, RpAll G H P vs ds → vs.length = ds.length
  | _, _, .nil => rfl
  | _, _, .cons _ r => by simp [RpAll.length r]
theorem RpAll.get : ∀ {vs : List V} {ds : List D} {i : Nat} {d : D}, RpAll G H P vs ds → ds[i]? = some d → ∃ v, vs[i]? = some v ∧ Rp G H P v d
  | _, _, _, _, .nil, e => by simp at e
  | _, _, 0, _, .cons r _, e => by simp at e; subst e; exact ⟨_, rfl, r⟩
  | _, _, i + 1, d, .cons _ t, e => by
    obtain ⟨u, h1, h2⟩ := RpAll.get (i := i) (d := d) t (by simpa using e)
    exact ⟨u, by simpa using h1, h2⟩
theorem RpAll.getV : ∀ {vs : List V} {ds : List D} {i : Nat} {v : V}, RpAll G H P vs ds → vs[i]? = some v → ∃ d, ds[i]? = some d ∧ Rp G H P v d
  | _, _, _, _, .nil, e => by simp at e
  | _, _, 0, _, .cons r _, e => by simp at e; subst e; exact ⟨_, rfl, r⟩
  | _, _, i + 1, d, .cons _ t, e => by
    obtain ⟨u, h1, h2⟩ := RpAll.getV (i := i) (v := d) t (by simpa using e)
    exact ⟨u, by simpa using h1, h2⟩
theorem RpAll.append : ∀ {xs ys : List V} {us ws : List D}, RpAll G H P xs us → RpAll G H P ys ws → RpAll G H P (xs ++ ys) (us ++ ws)
  | _, _, _, _, .nil, s => s
  | _, _, _, _, .cons r t, s => .cons r (RpAll.append t s)
theorem RpAll.set {x : V} {u : D} (r : Rp G H P x u) : ∀ {xs : List V} {us : List D} (i : Nat), RpAll G H P xs us → RpAll G H P (xs.set i x) (us.set i u)
  | _, _, _, .nil => .nil
  | _, _, 0, .cons _ t => .cons r t
  | _, _, i + 1, .cons q t => .cons q (RpAll.set r i t)
theorem RpAll.take : ∀ {xs : List V} {us : List D} (n : Nat), RpAll G H P xs us → RpAll G H P (xs.take n) (us.take n)
  | _, _, 0, _ => .nil
  | _, _, _ + 1, .nil => .nil
  | _, _, n + 1, .cons r t => .cons r (RpAll.take n t)
theorem RpAll.drop : ∀ {xs : List V} {us : List D} (n : Nat), RpAll G H P xs us → RpAll G H P (xs.drop n) (us.drop n)
  | _, _, 0, r => r
  | _, _, _ + 1, .nil => .nil
  | _, _, n + 1, .cons _ t => RpAll.drop n t
theorem RpAll.dropLast : ∀ {xs : List V} {us : List D}, RpAll G H P xs us → RpAll G H P xs.dropLast us.dropLast
  | _, _, r => by rw [List.dropLast_eq_take, List.dropLast_eq_take, r.length]; exact r.take _
theorem RpAll.reverse : ∀ {xs : List V} {us : List D}, RpAll G H P xs us → RpAll G H P xs.reverse us.reverse
  | _, _, .nil => .nil
  | _, _, .cons r t => by simpa using RpAll.append (RpAll.reverse t) (.cons r .nil)
theorem RpAll.rep {xs : List V} {us : List D} (h : RpAll G H P xs us) : ∀ k : Nat, RpAll G H P (List.replicate k xs).flatten (List.replicate k us).flatten
  | 0 => .nil
  | k + 1 => by simpa [List.replicate_succ] using h.append (h.rep k)
end

/-! ### the slots -/
def own (ow : List Bool) (i : Nat) : Prop := ow[i]? = some true
/-- the own roots, and what is to be avoided besides -/
def avo (av : Addr → Prop) (ow : List Bool) (dl : Env) (st : L2.St) : Addr → Prop := fun b => av b ∨ ∃ (i : Nat) (d : D), ow[i]? = some true ∧ dl[i]? = some (some d) ∧ st[i]? = some (some (V.ref b))
/-- what an own slot's object holds -/
inductive Own (G : Gx) (H : Hp) (P : Addr → Prop) (a : Addr) : D → Prop
  | lst {xs : List V} {ds : List D} : H a = some (.lst xs) → xs.length ≤ sizeLine → RpAll G H P xs ds → Own G H P a (.lst ds)
  | dct {vk : List V} {ns : List NestedKey} {vv : List V} {ks vs : List D} : Dct H a vk ns vv → RpAll G H P vk ks → nkAll ks = some ns → RpAll G H P vv vs → Own G H P a (.dct ks vs)
  | dcl {ob : Obj} {vk : List V} {ns : List NestedKey} {vv : List V} {ks vs : List D} : DctL ob H a vk ns vv → RpAll G H P vk ks → nkAll ks = some ns → RpAll G H P vv vs → Own G H P a (.dcl ks vs)
theorem Own.mv {G : Gx} {H H' : Hp} {P P' : Addr → Prop} {a : Addr} {d : D} (m : Mv H P H' P') (k : ∀ o, H a = some o → H' a = some o) : Own G H P a d → Own G H' P' a d
  | .lst h z r => .lst (k _ h) z (r.mv m)
  | .dct h r e q => .dct (h.stay k) (r.mv m) e (q.mv m)
  | .dcl h r e q => .dcl (h.stay fun u z => k _ z) (r.mv m) e (q.mv m)
def isL : D → Bool
  | .dcl _ _ => true
  | _ => false
theorem Own.some {G : Gx} {H : Hp} {P : Addr → Prop} {a : Addr} {d : D} : Own G H P a d → ∃ o, H a = some o
  | .lst h _ _ => ⟨_, h⟩
  | .dct h _ _ _ => let ⟨_, h⟩ := h.at; ⟨_, h⟩
  | .dcl h _ _ _ => let ⟨_, h⟩ := h.at; ⟨_, h⟩
theorem Own.isM {G : Gx} {H : Hp} {P : Addr → Prop} {a : Addr} {d : D} (h : Own G H P a d) (hl : isL d = false) : ∃ o, H a = Option.some o ∧ isM o = true := by
  cases h with
  | lst h _ _ => exact ⟨_, h, rfl⟩
  | dct h _ _ _ => exact h.mut
  | dcl => cases hl
theorem Own.rp {G : Gx} {H : Hp} {P : Addr → Prop} {a : Addr} {d : D} (n : ¬ P a) : Own G H P a d → Rp G H P (.ref a) d
  | .lst h z r => .lst h z n r
  | .dct h r e q => .dct h n r e q
  | .dcl h r e q => .dcl h r e q

structure ER (G : Gx) (av : Addr → Prop) (H0 : Hp) (hs : List (V × D)) (ow : List Bool) (dl : Env) (st : L2.St) (H : Hp) : Prop where
  same : Same H0 H
  avh : ∀ b, av b → ∃ o, H b = some o
  len : st.length = dl.length
  pl : ∀ (i : Nat) (d : D), dl[i]? = some (some d) → ow[i]? ≠ some true → ∃ v, st[i]? = some (some v) ∧ Rp G H (avo av ow dl st) v d
  on : ∀ (i : Nat) (d : D), dl[i]? = some (some d) → ow[i]? = some true → ∃ a, st[i]? = some (some (V.ref a)) ∧ H0 a = none ∧ ¬ av a ∧ Own G H (avo av ow dl st) a d
  ds : ∀ (i j : Nat) (a : Addr) (d d' : D), ow[i]? = some true → ow[j]? = some true → dl[i]? = some (some d) → dl[j]? = some (some d') → st[i]? = some (some (V.ref a)) → st[j]? = some (some (V.ref a)) → i = j
  hd : ∀ p ∈ hs, Rp G H (avo av ow dl st) p.1 p.2

section
variable {G : Gx} {av : Addr → Prop} {H0 : Hp} {hs : List (V × D)} {ow : List Bool} {dl : Env} {st : L2.St} {H H' : Hp}
theorem ER.avoh (e : ER G av H0 hs ow dl st H) : ∀ b, avo av ow dl st b → ∃ o, H b = some o := fun b h => by
  rcases h with h | ⟨i, d, h1, h2, h3⟩
  · exact e.avh b h
  · obtain ⟨a, q1, _, _, q2⟩ := e.on i d h2 h1
    rw [h3] at q1; cases q1
    exact q2.some
theorem ER.sm (e : ER G av H0 hs ow dl st H) (s : Same H H') : ER G av H0 hs ow dl st H' where
  same := e.same.trans s
  avh := fun b h => let ⟨o, q⟩ := e.avh b h; ⟨o, s _ _ q⟩
  len := e.len
  pl := fun i d h1 h2 => let ⟨v, q1, q2⟩ := e.pl i d h1 h2; ⟨v, q1, q2.sm s⟩
  on := fun i d h1 h2 => let ⟨a, q1, q2, q3, q4⟩ := e.on i d h1 h2; ⟨a, q1, q2, q3, q4.mv (.same s) fun o z => s _ _ z⟩
  ds := e.ds
  hd := fun p hp => (e.hd p hp).sm s
/-- more is held -/
theorem ER.hold (e : ER G av H0 hs ow dl st H) {more : List (V × D)} (h : ∀ p ∈ more, Rp G H (avo av ow dl st) p.1 p.2) : ER G av H0 (more ++ hs) ow dl st H :=
  ⟨e.same, e.avh, e.len, e.pl, e.on, e.ds, fun p hp => (List.mem_append.mp hp).elim (h p) (e.hd p)⟩
theorem ER.unhold {more : List (V × D)} (e : ER G av H0 (more ++ hs) ow dl st H) : ER G av H0 hs ow dl st H :=
  ⟨e.same, e.avh, e.len, e.pl, e.on, e.ds, fun p hp => e.hd p (List.mem_append_right _ hp)⟩
theorem ER.held {more : List (V × D)} (e : ER G av H0 (more ++ hs) ow dl st H) : ∀ p ∈ more, Rp G H (avo av ow dl st) p.1 p.2 := fun p hp => e.hd p (List.mem_append_left _ hp)

theorem avo_set {i : Nat} {x : Option D} {v : Option V} (h : ow[i]? ≠ some true) : avo av ow (dl.set i x) (st.set i v) = avo av ow dl st := by
  funext b
  unfold avo
  refine propext (or_congr Iff.rfl ⟨fun ⟨j, d, h1, h2, h3⟩ => ?_, fun ⟨j, d, h1, h2, h3⟩ => ?_⟩)
  · have hj : i ≠ j := fun z => h (z ▸ h1)
    rw [List.getElem?_set_ne hj] at h2 h3
    exact ⟨j, d, h1, h2, h3⟩
  · have hj : i ≠ j := fun z => h (z ▸ h1)
    exact ⟨j, d, h1, by rw [List.getElem?_set_ne hj]; exact h2, by rw [List.getElem?_set_ne hj]; exact h3⟩
/-- a plain slot is stored -/
theorem ER.put (e : ER G av H0 hs ow dl st H) {i : Nat} {d : D} {v : V} (h : ow[i]? ≠ some true) (r : Rp G H (avo av ow dl st) v d) : ER G av H0 hs ow (dl.set i (some d)) (st.set i (some v)) H where
  same := e.same
  avh := e.avh
  len := by simp [e.len]
  pl := fun j d' h1 h2 => by
    rw [avo_set h]
    by_cases hj : i = j
    · subst hj
      have hl : i < dl.length := by
        have := (List.getElem?_eq_some_iff.mp h1).1
        simpa using this
      rw [List.getElem?_set_self hl] at h1; cases h1
      exact ⟨v, by rw [List.getElem?_set_self (by rw [e.len]; exact hl)], r⟩
    · rw [List.getElem?_set_ne hj] at h1 ⊢
      exact e.pl j d' h1 h2
  on := fun j d' h1 h2 => by
    rw [avo_set h]
    have hj : i ≠ j := fun z => h (z ▸ h2)
    rw [List.getElem?_set_ne hj] at h1 ⊢
    exact e.on j d' h1 h2
  ds := fun j k a d1 d2 h1 h2 h3 h4 h5 h6 => by
    have hj : i ≠ j := fun z => h (z ▸ h1)
    have hk : i ≠ k := fun z => h (z ▸ h2)
    rw [List.getElem?_set_ne hj] at h3 h5
    rw [List.getElem?_set_ne hk] at h4 h6
    exact e.ds j k a d1 d2 h1 h2 h3 h4 h5 h6
  hd := fun p hp => by rw [avo_set h]; exact e.hd p hp
/-- a plain slot is forgotten -/
theorem ER.drop (e : ER G av H0 hs ow dl st H) {i : Nat} {v : Option V} (h : ow[i]? ≠ some true) : ER G av H0 hs ow (dl.set i none) (st.set i v) H where
  same := e.same
  avh := e.avh
  len := by simp [e.len]
  pl := fun j d' h1 h2 => by
    rw [avo_set h]
    by_cases hj : i = j
    · subst hj
      have hl : i < dl.length := by
        have := (List.getElem?_eq_some_iff.mp h1).1
        simpa using this
      rw [List.getElem?_set_self hl] at h1; cases h1
    · rw [List.getElem?_set_ne hj] at h1 ⊢
      exact e.pl j d' h1 h2
  on := fun j d' h1 h2 => by
    rw [avo_set h]
    have hj : i ≠ j := fun z => h (z ▸ h2)
    rw [List.getElem?_set_ne hj] at h1 ⊢
    exact e.on j d' h1 h2
  ds := fun j k a d1 d2 h1 h2 h3 h4 h5 h6 => by
    have hj : i ≠ j := fun z => h (z ▸ h1)
    have hk : i ≠ k := fun z => h (z ▸ h2)
    rw [List.getElem?_set_ne hj] at h3 h5
    rw [List.getElem?_set_ne hk] at h4 h6
    exact e.ds j k a d1 d2 h1 h2 h3 h4 h5 h6
  hd := fun p hp => by rw [avo_set h]; exact e.hd p hp

theorem avo_put {i : Nat} {d : D} {p : Addr} {b : Addr} (h : avo av ow (dl.set i (some d)) (st.set i (some (.ref p))) b) : avo av ow dl st b ∨ b = p := by
  rcases h with h | ⟨j, d', h1, h2, h3⟩
  · exact .inl (.inl h)
  · by_cases hj : i = j
    · subst hj
      have hl : i < st.length := by
        have := (List.getElem?_eq_some_iff.mp h3).1
        simpa using this
      rw [List.getElem?_set_self hl] at h3; cases h3
      exact .inr rfl
    · rw [List.getElem?_set_ne hj] at h2 h3
      exact .inl (.inr ⟨j, d', h1, h2, h3⟩)
/-- an own slot is stored: a new object -/
theorem ER.putO (e : ER G av H0 hs ow dl st H) {i : Nat} {d : D} {p : Addr} (ho : ow[i]? = some true) (hp : H p = none) (s : Same H H') (o : Own G H' (fun b => avo av ow dl st b ∨ b = p) p d) : ER G av H0 hs ow (dl.set i (some d)) (st.set i (some (.ref p))) H' := by
  have m : Mv H (avo av ow dl st) H' (avo av ow (dl.set i (some d)) (st.set i (some (.ref p)))) := fun b u h n => ⟨s b u h, fun hm q => (avo_put q).elim (n hm) fun z => by rw [z, hp] at h; cases h⟩
  have h0 : H0 p = none := e.same.free hp
  have ha : ¬ av p := fun z => by obtain ⟨u, q⟩ := e.avh p z; rw [hp] at q; cases q
  refine ⟨e.same.trans s, fun b h => let ⟨o, q⟩ := e.avh b h; ⟨o, s _ _ q⟩, by simp [e.len], fun j d' h1 h2 => ?_, fun j d' h1 h2 => ?_, fun j k a d1 d2 h1 h2 h3 h4 h5 h6 => ?_, fun q hq => (e.hd q hq).mv m⟩
  · have hj : i ≠ j := fun z => h2 (z ▸ ho)
    rw [List.getElem?_set_ne hj] at h1 ⊢
    obtain ⟨v, q1, q2⟩ := e.pl j d' h1 h2
    exact ⟨v, q1, q2.mv m⟩
  · by_cases hj : i = j
    · subst hj
      have hl : i < dl.length := by
        have := (List.getElem?_eq_some_iff.mp h1).1
        simpa using this
      rw [List.getElem?_set_self hl] at h1; cases h1
      exact ⟨p, by rw [List.getElem?_set_self (by rw [e.len]; exact hl)], h0, ha, o.mv (.less fun b q => .inl (avo_put q)) fun _ z => z⟩
    · rw [List.getElem?_set_ne hj] at h1 ⊢
      obtain ⟨a, q1, q2, q3, q4⟩ := e.on j d' h1 h2
      exact ⟨a, q1, q2, q3, q4.mv m fun _ z => s _ _ z⟩
  · have fresh : ∀ (j : Nat) (d1 : D), i ≠ j → ow[j]? = some true → dl[j]? = some (some d1) → st[j]? = some (some (V.ref p)) → False := fun j d1 _ h1 h3 h5 => by
      obtain ⟨a', q1, _, _, q4⟩ := e.on j d1 h3 h1
      rw [h5] at q1; cases q1
      obtain ⟨u, q⟩ := q4.some
      rw [hp] at q; cases q
    by_cases hj : i = j <;> by_cases hk : i = k
    · exact hj.symm.trans hk
    · subst hj
      have hl : i < st.length := by
        have := (List.getElem?_eq_some_iff.mp h5).1
        simpa using this
      rw [List.getElem?_set_self hl] at h5; cases h5
      rw [List.getElem?_set_ne hk] at h4 h6
      exact (fresh k d2 hk h2 h4 h6).elim
    · subst hk
      have hl : i < st.length := by
        have := (List.getElem?_eq_some_iff.mp h6).1
        simpa using this
      rw [List.getElem?_set_self hl] at h6; cases h6
      rw [List.getElem?_set_ne hj] at h3 h5
      exact (fresh j d1 hj h1 h3 h5).elim
    · rw [List.getElem?_set_ne hj] at h3 h5
      rw [List.getElem?_set_ne hk] at h4 h6
      exact e.ds j k a d1 d2 h1 h2 h3 h4 h5 h6
theorem avo_same {i : Nat} {d d' : D} (h : dl[i]? = some (some d)) : avo av ow (dl.set i (some d')) st = avo av ow dl st := by
  funext b
  unfold avo
  have hl : i < dl.length := (List.getElem?_eq_some_iff.mp h).1
  refine propext (or_congr Iff.rfl ⟨fun ⟨j, d, h1, h2, h3⟩ => ?_, fun ⟨j, d, h1, h2, h3⟩ => ?_⟩)
  · by_cases hj : i = j
    · subst hj; exact ⟨i, _, h1, h, h3⟩
    · rw [List.getElem?_set_ne hj] at h2; exact ⟨j, d, h1, h2, h3⟩
  · by_cases hj : i = j
    · subst hj; exact ⟨i, d', h1, by rw [List.getElem?_set_self hl], h3⟩
    · exact ⟨j, d, h1, by rw [List.getElem?_set_ne hj]; exact h2, h3⟩
/-- an own slot's object is changed -/
theorem ER.upd (e : ER G av H0 hs ow dl st H) {i : Nat} {d d' : D} {a : Addr} {u : HO} (ho : ow[i]? = some true) (hd : dl[i]? = some (some d)) (hs' : st[i]? = some (some (.ref a)))
    (o : Own G (upd H a u) (avo av ow dl st) a d') (hl2 : isL d = false := by rfl) : ER G av H0 hs ow (dl.set i (some d')) st (upd H a u) := by
  have hl : i < dl.length := (List.getElem?_eq_some_iff.mp hd).1
  obtain ⟨a', q1, q2, q3, q4⟩ := e.on i d hd ho
  rw [hs'] at q1; cases q1
  have pa : avo av ow dl st a := .inr ⟨i, d, ho, hd, hs'⟩
  obtain ⟨uo, q5, q6⟩ := q4.isM hl2
  have m : Mv H (avo av ow dl st) (L2.upd H a u) (avo av ow dl st) := fun b w h n => by
    have hb : b ≠ a := fun z => by
      subst z
      rw [q5] at h; cases h
      exact n q6 pa
    exact ⟨by rw [upd_ne hb]; exact h, n⟩
  have es := avo_same (av := av) (ow := ow) (st := st) (d' := d') hd
  refine ⟨fun b w h => ?_, fun b h => ?_, by simp [e.len], fun j d2 h1 h2 => ?_, fun j d2 h1 h2 => ?_, fun j k a' d1 d2 h1 h2 h3 h4 h5 h6 => ?_, fun p hp => by rw [es]; exact (e.hd p hp).mv m⟩
  · have hb : b ≠ a := fun z => by subst z; rw [q2] at h; cases h
    rw [upd_ne hb]; exact e.same b w h
  · obtain ⟨w, q⟩ := e.avh b h
    have hb : b ≠ a := fun z => by subst z; exact q3 h
    exact ⟨w, by rw [upd_ne hb]; exact q⟩
  · rw [es]
    have hj : i ≠ j := fun z => h2 (z ▸ ho)
    rw [List.getElem?_set_ne hj] at h1
    obtain ⟨v, z1, z2⟩ := e.pl j d2 h1 h2
    exact ⟨v, z1, z2.mv m⟩
  · rw [es]
    by_cases hj : i = j
    · subst hj
      rw [List.getElem?_set_self hl] at h1; cases h1
      exact ⟨a, hs', q2, q3, o⟩
    · rw [List.getElem?_set_ne hj] at h1
      obtain ⟨a2, z1, z2, z3, z4⟩ := e.on j d2 h1 h2
      refine ⟨a2, z1, z2, z3, z4.mv m fun w z => ?_⟩
      have hb : a2 ≠ a := fun y => by subst y; exact hj (e.ds i j a2 d d2 ho h2 hd h1 hs' z1)
      rw [upd_ne hb]; exact z
  · have get : ∀ (j : Nat) (d1 : D), (dl.set i (some d'))[j]? = some (some d1) → ∃ d, dl[j]? = some (some d) := fun j d1 h => by
      by_cases hj : i = j
      · subst hj; exact ⟨d, hd⟩
      · rw [List.getElem?_set_ne hj] at h; exact ⟨d1, h⟩
    obtain ⟨x1, y1⟩ := get j d1 h3
    obtain ⟨x2, y2⟩ := get k d2 h4
    exact e.ds j k a' x1 x2 h1 h2 y1 y2 h5 h6
theorem avo_gone {i : Nat} {b : Addr} (h : avo av ow (dl.set i none) st b) : avo av ow dl st b ∧ (¬ av b → ∃ (j : Nat) (d : D), j ≠ i ∧ ow[j]? = some true ∧ dl[j]? = some (some d) ∧ st[j]? = some (some (V.ref b))) := by
  rcases h with h | ⟨j, d, h1, h2, h3⟩
  · exact ⟨.inl h, fun n => (n h).elim⟩
  · by_cases hj : i = j
    · subst hj
      have hl : i < dl.length := by
        have := (List.getElem?_eq_some_iff.mp h2).1
        simpa using this
      rw [List.getElem?_set_self hl] at h2; cases h2
    · rw [List.getElem?_set_ne hj] at h2
      exact ⟨.inr ⟨j, d, h1, h2, h3⟩, fun _ => ⟨j, d, fun z => hj z.symm, h1, h2, h3⟩⟩
/-- an own slot is given away: its object is then plain -/
theorem ER.move (e : ER G av H0 hs ow dl st H) {i : Nat} {d : D} (ho : ow[i]? = some true) (hd : dl[i]? = some (some d)) :
    ER G av H0 hs ow (dl.set i none) st H ∧ ∃ a, st[i]? = some (some (.ref a)) ∧ Rp G H (avo av ow (dl.set i none) st) (.ref a) d := by
  have hl : i < dl.length := (List.getElem?_eq_some_iff.mp hd).1
  have m : Mv H (avo av ow dl st) H (avo av ow (dl.set i none) st) := .less fun b q => .inl (avo_gone q).1
  obtain ⟨a, q1, q2, q3, q4⟩ := e.on i d hd ho
  refine ⟨⟨e.same, e.avh, by simp [e.len], fun j d2 h1 h2 => ?_, fun j d2 h1 h2 => ?_, fun j k a' d1 d2 h1 h2 h3 h4 h5 h6 => ?_, fun p hp => (e.hd p hp).mv m⟩, a, q1, ?_⟩
  · have hj : i ≠ j := fun z => h2 (z ▸ ho)
    rw [List.getElem?_set_ne hj] at h1
    obtain ⟨v, z1, z2⟩ := e.pl j d2 h1 h2
    exact ⟨v, z1, z2.mv m⟩
  · by_cases hj : i = j
    · subst hj
      rw [List.getElem?_set_self hl] at h1; cases h1
    · rw [List.getElem?_set_ne hj] at h1
      obtain ⟨a2, z1, z2, z3, z4⟩ := e.on j d2 h1 h2
      exact ⟨a2, z1, z2, z3, z4.mv m fun _ z => z⟩
  · have get : ∀ (j : Nat) (d1 : D), (dl.set i none)[j]? = some (some d1) → dl[j]? = some (some d1) := fun j d1 h => by
      by_cases hj : i = j
      · subst hj; rw [List.getElem?_set_self hl] at h; cases h
      · rw [List.getElem?_set_ne hj] at h; exact h
    exact e.ds j k a' d1 d2 h1 h2 (get j d1 h3) (get k d2 h4) h5 h6
  · refine (q4.mv m fun _ z => z).rp fun z => ?_
    obtain ⟨j, d', hj, h1, h2, h3⟩ := (avo_gone z).2 q3
    exact hj (e.ds j i a d' d h1 ho h2 hd h3 q1)
end
end DL

/-! The data layer: the judgements; expressions. -/
namespace DL
open PySem PySem.Spec PyProof.Rows L2

abbrev gx (X : Cx) (fl : Str → List Str) : Gx := ⟨X.K, X.mg, fl⟩
/-- how a value stands to the own roots: t: it keeps off them; i: its items do; f: neither -/
inductive Md where | t | i | f
  deriving DecidableEq
def Md.isF : Md → Bool | .f => true | _ => false
def pm (m : Md) (av : Addr → Prop) (ow : List Bool) (dl : Env) (st : L2.St) : Addr → Prop := match m with | .f => av | _ => avo av ow dl st
theorem pm_le {m : Md} {av : Addr → Prop} {ow : List Bool} {dl : Env} {st : L2.St} (b : Addr) (h : pm m av ow dl st b) : avo av ow dl st b := by
  cases m
  · exact h
  · exact h
  · exact .inl h
theorem pm_eq {m m' : Md} {av : Addr → Prop} {ow : List Bool} {dl : Env} {st : L2.St} (h : (m.isF == m'.isF) = true) : pm m av ow dl st = pm m' av ow dl st := by
  cases m <;> cases m' <;> first | rfl | exact absurd h (by decide)
theorem ER.pmh {G : Gx} {av : Addr → Prop} {H0 : Hp} {hs : List (V × D)} {ow : List Bool} {dl : Env} {st : L2.St} {H : Hp} (e : ER G av H0 hs ow dl st H) (m : Md) : ∀ b, pm m av ow dl st b → ∃ o, H b = some o := fun b h => e.avoh b (pm_le b h)
/-- the value, or at least its items -/
def RpI (G : Gx) (H : Hp) (P : Addr → Prop) (v : V) (d : D) : Prop := Rp G H P v d ∨ ∃ a, v = .ref a ∧ Own G H P a d
def RpM (G : Gx) (H : Hp) (P : Addr → Prop) (m : Md) (v : V) (d : D) : Prop := match m with | .i => RpI G H P v d | _ => Rp G H P v d
theorem Rp.toM {G : Gx} {H : Hp} {P : Addr → Prop} {m : Md} {v : V} {d : D} (h : Rp G H P v d) : RpM G H P m v d := by
  cases m
  · exact h
  · exact .inl h
  · exact h
theorem RpM.toI {G : Gx} {H : Hp} {P : Addr → Prop} {m : Md} {v : V} {d : D} (h : RpM G H P m v d) : RpI G H P v d := by
  cases m
  · exact .inl h
  · exact h
  · exact .inl h
theorem rpM_rp {G : Gx} {H : Hp} {P : Addr → Prop} {m : Md} {v : V} {d : D} (hm : (m == .i) = false) (h : RpM G H P m v d) : Rp G H P v d := by
  cases m
  · exact h
  · exact absurd hm (by decide)
  · exact h
theorem RpI.sm {G : Gx} {H H' : Hp} {P : Addr → Prop} {v : V} {d : D} (h : RpI G H P v d) (s : Same H H') : RpI G H' P v d := by
  rcases h with h | ⟨a, e, o⟩
  · exact .inl (h.sm s)
  · exact .inr ⟨a, e, o.mv (.same s) fun _ z => s _ _ z⟩

/-- what a result asks; K of its value, E of its exception -/
def Asks {α : Type} (r : R α) (K : α → Prop) (E : Str → Prop) : Prop :=
  match r with
  | .ok a => K a
  | .exc c => E c
  | .bad => False
theorem Asks.bind {α β : Type} {r : R α} {f : α → R β} {K : β → Prop} {E : Str → Prop} (h : Asks (r >>= f) K E) : Asks r (fun a => Asks (f a) K E) E := by
  cases r with
  | ok a => exact h
  | exc c => exact h
  | bad => exact h
theorem Asks.mono {α : Type} {r : R α} {K K' : α → Prop} {E E' : Str → Prop} (h : Asks r K E) (k : ∀ a, r = .ok a → K a → K' a) (e : ∀ c, E c → E' c) : Asks r K' E' := by
  cases r with
  | ok a => exact k a rfl h
  | exc c => exact e c h
  | bad => exact h

/-- an exception of an expression -/
def EX (G : Gx) (H : Hp) (W : WX) (st : L2.St) (c : Str) : Prop := ∀ C H', G.mg c = some (.ref C) → Same H H' → W (.ref C) none st H'
theorem EX.sm {G : Gx} {H H1 : Hp} {W : WX} {st : L2.St} {c : Str} (h : EX G H W st c) (s : Same H H1) : EX G H1 W st c := fun C H' e q => h C H' e (s.trans q)

/-- a value's way on -/
def OkV (G : Gx) (H : Hp) (P : Addr → Prop) (m : Md) (Q : VK) (d : D) : Prop := ∀ v H', Same H H' → RpM G H' P m v d → Q v H'
theorem OkV.sm {G : Gx} {H H1 : Hp} {P : Addr → Prop} {m : Md} {Q : VK} {d : D} (h : OkV G H P m Q d) (s : Same H H1) : OkV G H1 P m Q d := fun v H' q r => h v H' (s.trans q) r
def OkA (G : Gx) (H : Hp) (P : Addr → Prop) (Q : List V → Hp → Prop) (d : List D) : Prop := ∀ v H', Same H H' → RpAll G H' P v d → Q v H'
def OkT (H : Hp) (Q : Bool → Hp → Prop) (b : Bool) : Prop := ∀ H', Same H H' → Q b H'
def OkF (G : Gx) (H : Hp) (P : Addr → Prop) (Q : VK) (d : D) : Prop := ∀ p H', H p = none → Same H H' → Own G H' (fun b => P b ∨ b = p) p d → Q (.ref p) H'

/-- an expression; m: its value keeps off the own roots -/
def DE (X : Cx) (fl : Str → List Str) (W : WX) (ow : List Bool) (m : Md) (e : Expr) (den : Env → R D) : Prop :=
  ∃ t, PE X e t ∧ ∀ av H0 hs dl st H Q, ER (gx X fl) av H0 hs ow dl st H → Asks (den dl) (OkV (gx X fl) H (pm m av ow dl st) m Q) (EX (gx X fl) H W st) → t st H Q
/-- an expression that makes a new object -/
def DF (X : Cx) (fl : Str → List Str) (W : WX) (ow : List Bool) (e : Expr) (den : Env → R D) : Prop :=
  ∃ t, PE X e t ∧ ∀ av H0 hs dl st H Q, ER (gx X fl) av H0 hs ow dl st H → Asks (den dl) (OkF (gx X fl) H (avo av ow dl st) Q) (EX (gx X fl) H W st) → t st H Q
/-- a test -/
def DT (X : Cx) (fl : Str → List Str) (W : WX) (ow : List Bool) (e : Expr) (den : Env → R Bool) : Prop :=
  ∃ t, PT X e t ∧ ∀ av H0 hs dl st H Q, ER (gx X fl) av H0 hs ow dl st H → Asks (den dl) (OkT H Q) (EX (gx X fl) H W st) → t st H Q
/-- a part of and, or -/
def DW (X : Cx) (fl : Str → List Str) (W : WX) (ow : List Bool) (e : Expr) (den : Env → R Bool) : Prop :=
  ∃ t, PW X e t ∧ ∀ av H0 hs dl st H Q, ER (gx X fl) av H0 hs ow dl st H → Asks (den dl) (OkT H Q) (EX (gx X fl) H W st) → t st H Q
/-- arguments -/
def DA (X : Cx) (fl : Str → List Str) (W : WX) (ow : List Bool) (m : Md) (es : List Expr) (den : Env → R (List D)) : Prop :=
  ∃ t, PA X es t ∧ ∀ av H0 hs dl st H Q, ER (gx X fl) av H0 hs ow dl st H → Asks (den dl) (OkA (gx X fl) H (pm m av ow dl st) Q) (EX (gx X fl) H W st) → t st H Q

section
variable {X : Cx} {fl : Str → List Str} {W : WX} {ow : List Bool} {m : Md} {e a b c : Expr} {da db dc : Env → R D} {pos : Pos}

theorem DE.weak (h : DE X fl W ow .t e da) : DE X fl W ow m e da := by
  obtain ⟨t, p, k⟩ := h
  refine ⟨t, p, fun av H0 hs dl st H Q e q => k av H0 hs dl st H Q e (q.mono (fun d _ w v H' s r => w v H' s (Rp.le r fun b z => pm_le b z).toM) fun _ z => z)⟩
theorem DF.de (h : DF X fl W ow e da) : DE X fl W ow m e da := by
  obtain ⟨t, p, k⟩ := h
  refine ⟨t, p, fun av H0 hs dl st H Q e q => k av H0 hs dl st H Q e (q.mono (fun d _ w p H' hp s o => w _ H' s ?_) fun _ z => z)⟩
  refine (((o.mv (.less fun b z => .inl (.inl z)) fun _ z => z).rp (P := avo av ow dl st) (fun z => ?_)).le fun b z => pm_le b z).toM
  obtain ⟨u, q⟩ := e.avoh p z
  rw [hp] at q; cases q

/-! ### names and constants -/
def gv (i : Nat) : Env → R D := fun dl => match dl[i]? with
  | some (some d) => .ok d
  | _ => .bad
theorem Asks.ok {α : Type} {r : R α} {K : α → Prop} {E : Str → Prop} {d : α} (h : r = .ok d) (q : K d) : Asks r K E := by rw [h]; exact q
theorem gv_some {i : Nat} {dl : Env} {K : D → Prop} {E : Str → Prop} (h : Asks (gv i dl) K E) : ∃ d, dl[i]? = some (some d) ∧ K d := by
  unfold gv at h
  split at h
  · rename_i d e
    exact ⟨d, e, h⟩
  · exact h.elim
/-- a plain name -/
theorem de_var {i : Nat} {x : Str} (ho : (ow[i]? == some true) = false) (hN : X.N[i]? = some x) (hv : Vis X.env.scope x) (hd : (x == ("__debug__" : Str)) = false := by decide) (hcd : (x == ("__classdict__" : Str)) = false := by decide) : DE X fl W ow m (.Name x pos) (gv i) := by
  refine ⟨_, pe_var hN hv hd hcd, fun av H0 hs dl st H Q e q => ?_⟩
  obtain ⟨d, e1, k⟩ := gv_some q
  obtain ⟨v, z1, z2⟩ := e.pl i d e1 (by simpa using ho)
  exact ⟨v, z1, k v H (.refl H) (z2.le fun b z => pm_le b z).toM⟩
/-- an own name, looked at -/
theorem de_own {i : Nat} {x : Str} (ho : (ow[i]? == some true) = true) (hmt : (m == .t) = false) (hN : X.N[i]? = some x) (hv : Vis X.env.scope x) (hd : (x == ("__debug__" : Str)) = false := by decide) (hcd : (x == ("__classdict__" : Str)) = false := by decide) : DE X fl W ow m (.Name x pos) (gv i) := by
  refine ⟨_, pe_var hN hv hd hcd, fun av H0 hs dl st H Q e q => ?_⟩
  obtain ⟨d, e1, k⟩ := gv_some q
  obtain ⟨a, z1, z2, z3, z4⟩ := e.on i d e1 (by simpa using ho)
  refine ⟨_, z1, k _ H (.refl H) ?_⟩
  cases m
  · exact absurd hmt (by decide)
  · exact .inr ⟨a, rfl, z4⟩
  · exact (z4.mv (.less fun b z => .inl (.inl z)) fun _ z => z).rp z3
def cst (d : D) : Env → R D := fun _ => .ok d
theorem de_int {i : Int} {j : Nat} : DE X fl W ow m (.Constant (.int i) j pos) (cst (.int i)) := ⟨_, pe_int, fun _ _ _ _ _ H _ _ q => q _ H (.refl H) (Rp.toM (.int i))⟩
theorem de_bl {i : Bool} {j : Nat} : DE X fl W ow m (.Constant (.bool i) j pos) (cst (.bl i)) := ⟨_, pe_bl, fun _ _ _ _ _ H _ _ q => q _ H (.refl H) (Rp.toM (.bl i))⟩
theorem de_non {j : Nat} : DE X fl W ow m (.Constant .none j pos) (cst .non) := ⟨_, pe_non, fun _ _ _ _ _ H _ _ q => q _ H (.refl H) (Rp.toM .non)⟩
theorem de_str {i : Str} {j : Nat} : DE X fl W ow m (.Constant (.str i) j pos) (cst (.str i)) := ⟨_, pe_str, fun _ _ _ _ _ H _ _ q => q _ H (.refl H) (Rp.toM (.str i))⟩
/-- a module's constant -/
theorem de_gint {x : Str} {i : Int} {u : Tok} (hm : X.mg x = some (.int i u)) (hg : Gl X x) (hd : (x == ("__debug__" : Str)) = false := by decide) : DE X fl W ow m (.Name x pos) (cst (.int i)) :=
  ⟨_, pe_glob hg hm (v := .int i) ⟨u, rfl⟩ hd, fun _ _ _ _ _ H _ _ q => q _ H (.refl H) (Rp.toM (.int i))⟩
theorem de_gstr {x : Str} {i : Str} {u : Tok} (hm : X.mg x = some (.str i u)) (hg : Gl X x) (hd : (x == ("__debug__" : Str)) = false := by decide) : DE X fl W ow m (.Name x pos) (cst (.str i)) :=
  ⟨_, pe_glob hg hm (v := .str i) ⟨u, rfl⟩ hd, fun _ _ _ _ _ H _ _ q => q _ H (.refl H) (Rp.toM (.str i))⟩

/-! ### arguments, displays -/
theorem da_nil : DA X fl W ow m [] (fun _ => .ok []) := ⟨_, pa_nil, fun _ _ _ _ _ H _ _ q => q [] H (.refl H) .nil⟩
theorem da_cons {es : List Expr} {ds : Env → R (List D)} (h : DE X fl W ow m e da) (r : DA X fl W ow m es ds) (hmi : (m == .i) = false := by rfl) (hs : starEach (e :: es) X.env = (false, eval e X.env) :: starEach es X.env := by rfl) :
    DA X fl W ow m (e :: es) (fun dl => da dl >>= fun d => ds dl >>= fun l => .ok (d :: l)) := by
  obtain ⟨t, p, k⟩ := h
  obtain ⟨t', p', k'⟩ := r
  refine ⟨_, pa_cons p p' hs, fun av H0 hs dl st H Q e q => ?_⟩
  refine k av H0 hs dl st H _ e (q.bind.mono (fun d _ w v H1 s r => ?_) fun _ z => z)
  refine k' av H0 hs dl st H1 _ (e.sm s) (w.bind.mono (fun l _ w' vs H2 s2 r2 => ?_) fun _ z => z.sm s)
  exact w' _ H2 (s.trans s2) (.cons ((rpM_rp hmi r).sm s2) r2)
def mkT (l : List D) : R D := if l.length ≤ sizeLine then .ok (.tup l) else .bad
def mkL (l : List D) : R D := if l.length ≤ sizeLine then .ok (.lst l) else .bad
theorem mkT_some {l : List D} {K : D → Prop} {E : Str → Prop} (h : Asks (mkT l) K E) : l.length ≤ sizeLine ∧ K (.tup l) := by
  unfold mkT at h; split at h
  · rename_i z; exact ⟨z, h⟩
  · exact h.elim
theorem mkL_some {l : List D} {K : D → Prop} {E : Str → Prop} (h : Asks (mkL l) K E) : l.length ≤ sizeLine ∧ K (.lst l) := by
  unfold mkL at h; split at h
  · rename_i z; exact ⟨z, h⟩
  · exact h.elim
theorem rp_new_tup {G : Gx} {H : Hp} {P : Addr → Prop} {p : Addr} {vs : List V} {l : List D} (hp : H p = none) (r : RpAll G H P vs l) (z : l.length ≤ sizeLine) : Rp G (upd H p (.tup vs)) P (.ref p) (.tup l) :=
  .tup (SqT.of upd_same) (by rw [r.length]; exact z) (r.sm fun b o e => by rw [upd_ne (ne_of_none e hp)]; exact e)
theorem same_new {H : Hp} {p : Addr} {o : HO} (hp : H p = none) : Same H (upd H p o) := fun b u e => by rw [upd_ne (ne_of_none e hp)]; exact e
theorem own_new {G : Gx} {H : Hp} {P : Addr → Prop} {p : Addr} {vs : List V} {l : List D} (hp : H p = none) (r : RpAll G H P vs l) (z : l.length ≤ sizeLine) : Own G (upd H p (.lst vs)) (fun b => P b ∨ b = p) p (.lst l) :=
  .lst upd_same (by rw [r.length]; exact z) (r.mv fun b o e n => ⟨same_new hp b o e, fun m q => q.elim (n m) fun w => by rw [w, hp] at e; cases e⟩)
theorem de_tup {es : List Expr} {ds : Env → R (List D)} {x1 : Nat} (h : DA X fl W ow m es ds) : DE X fl W ow m (.Tuple es x1 pos) (fun dl => ds dl >>= mkT) := by
  obtain ⟨t, p, k⟩ := h
  refine ⟨_, pe_tup p, fun av H0 hs dl st H Q e q => ?_⟩
  refine k av H0 hs dl st H _ e (q.bind.mono (fun l _ w vs H1 s r => ?_) fun _ z => z)
  obtain ⟨z, w⟩ := mkT_some w
  exact ⟨by rw [r.length]; exact z, fun p hp => w _ _ (s.trans (same_new hp)) (rp_new_tup hp r z).toM⟩
theorem df_lst {es : List Expr} {ds : Env → R (List D)} (h : DA X fl W ow .t es ds) : DF X fl W ow (.List es pos) (fun dl => ds dl >>= mkL) := by
  obtain ⟨t, p, k⟩ := h
  refine ⟨_, pe_lst p, fun av H0 hs dl st H Q e q => ?_⟩
  refine k av H0 hs dl st H _ e (q.bind.mono (fun l _ w vs H1 s r => ?_) fun _ z => z)
  obtain ⟨z, w⟩ := mkL_some w
  exact ⟨by rw [r.length]; exact z, fun p hp => w p _ (s.free hp) (s.trans (same_new hp)) (own_new hp r z)⟩
theorem de_lst {es : List Expr} {ds : Env → R (List D)} (h : DA X fl W ow m es ds) : DE X fl W ow m (.List es pos) (fun dl => ds dl >>= mkL) := by
  obtain ⟨t, p, k⟩ := h
  refine ⟨_, pe_lst p, fun av H0 hs dl st H Q e q => ?_⟩
  refine k av H0 hs dl st H _ e (q.bind.mono (fun l _ w vs H1 s r => ?_) fun _ z => z)
  obtain ⟨z, w⟩ := mkL_some w
  refine ⟨by rw [r.length]; exact z, fun p hp => w _ _ (s.trans (same_new hp)) ?_⟩
  refine (Rp.lst upd_same (by rw [r.length]; exact z) (fun q => ?_) (r.sm (same_new hp))).toM
  obtain ⟨o, q⟩ := (e.sm s).pmh m p q
  rw [hp] at q; cases q

/-! ### operators by values -/
/-- k: the result holds parts of what it is made of -/
def Op2 (G : Gx) (k : Bool) (r : R2) (f : D → D → R D) : Prop := ∀ H P P' x y a b Q, (k = true → P' = P) → (∀ b, P' b → ∃ o, H b = some o) → RpI G H P x a → RpI G H P y b → Asks (f a b) (OkV G H P' .t Q) (fun _ => False) → r x y H Q
def OpF (G : Gx) (r : R2) (f : D → D → R D) : Prop := ∀ H P x y a b Q, (∀ b, P b → ∃ o, H b = some o) → RpI G H P x a → RpI G H P y b → Asks (f a b) (OkF G H P Q) (fun _ => False) → r x y H Q
/-- no exception comes out -/
def nx (r : R D) : R D := match r with | .ok d => .ok d | _ => .bad
theorem nx_asks {r : R D} {K : D → Prop} {E : Str → Prop} (h : Asks (nx r) K E) : Asks r K (fun _ => False) := by
  cases r with
  | ok d => exact h
  | exc c => exact h.elim
  | bad => exact h.elim
theorem OkV.t {G : Gx} {H : Hp} {P : Addr → Prop} {m : Md} {Q : VK} {d : D} (h : OkV G H P m Q d) : OkV G H P .t Q d := fun v H' s r => h v H' s (Rp.toM r)
theorem de_two {r : R2} {f : D → D → R D} {k : Bool} {m1 m2 : Md} {e : Expr} (he : ∀ ta tb, PE X a ta → PE X b tb → PE X e (tOp r ta tb)) (ho : Op2 (gx X fl) k r f) (hm : (!k || m1.isF == m.isF) = true) (h12 : (m1.isF == m2.isF) = true) (ha : DE X fl W ow m1 a da) (hb : DE X fl W ow m2 b db) :
    DE X fl W ow m e (fun dl => da dl >>= fun x => db dl >>= fun y => nx (f x y)) := by
  obtain ⟨t, p, k1⟩ := ha
  obtain ⟨t', p', k2⟩ := hb
  refine ⟨_, he _ _ p p', fun av H0 hs dl st H Q e q => ?_⟩
  refine k1 av H0 hs dl st H _ e (q.bind.mono (fun d _ w v H1 s r => ?_) fun _ z => z)
  refine k2 av H0 hs dl st H1 _ (e.sm s) (w.bind.mono (fun d' _ w' v' H2 s2 r2 => ?_) fun _ z => z.sm s)
  rw [← pm_eq h12] at r2
  refine ho H2 (pm m1 av ow dl st) (pm m av ow dl st) v v' d d' Q (fun z => (pm_eq (by subst z; simpa using hm)).symm) ((e.sm (s.trans s2)).pmh m) (r.toI.sm s2) r2.toI ((nx_asks w').mono (fun _ _ z => (z.sm (s.trans s2)).t) fun _ z => z)
theorem df_two {r : R2} {f : D → D → R D} {m1 m2 : Md} {e : Expr} (he : ∀ ta tb, PE X a ta → PE X b tb → PE X e (tOp r ta tb)) (ho : OpF (gx X fl) r f) (h1 : m1.isF = false) (h2 : m2.isF = false) (ha : DE X fl W ow m1 a da) (hb : DE X fl W ow m2 b db) :
    DF X fl W ow e (fun dl => da dl >>= fun x => db dl >>= fun y => nx (f x y)) := by
  obtain ⟨t, p, k1⟩ := ha
  obtain ⟨t', p', k2⟩ := hb
  refine ⟨_, he _ _ p p', fun av H0 hs dl st H Q e q => ?_⟩
  refine k1 av H0 hs dl st H _ e (q.bind.mono (fun d _ w v H1 s r => ?_) fun _ z => z)
  refine k2 av H0 hs dl st H1 _ (e.sm s) (w.bind.mono (fun d' _ w' v' H2 s2 r2 => ?_) fun _ z => z.sm s)
  rw [pm_eq (m' := .t) (by rw [h1]; rfl)] at r
  rw [pm_eq (m' := .t) (by rw [h2]; rfl)] at r2
  exact ho H2 _ v v' d d' Q (e.sm (s.trans s2)).avoh (r.toI.sm s2) r2.toI ((nx_asks w').mono (fun _ _ z p H' hp s3 o => z p H' ((s.trans s2).free hp) ((s.trans s2).trans s3) o) fun _ z => z)
theorem de_bin {op : Operator} {r : R2} {f : D → D → R D} {k : Bool} {m1 m2 : Md} (hr : OpR X (binaryOp op) r) (ho : Op2 (gx X fl) k r f) (hm : (!k || m1.isF == m.isF) = true) (h12 : (m1.isF == m2.isF) = true) (ha : DE X fl W ow m1 a da) (hb : DE X fl W ow m2 b db) :
    DE X fl W ow m (.BinOp a op b pos) (fun dl => da dl >>= fun x => db dl >>= fun y => nx (f x y)) := de_two (fun _ _ p q => pe_op hr p q) ho hm h12 ha hb
theorem df_bin {op : Operator} {r : R2} {f : D → D → R D} {m1 m2 : Md} (hr : OpR X (binaryOp op) r) (ho : OpF (gx X fl) r f) (h1 : m1.isF = false) (h2 : m2.isF = false) (ha : DE X fl W ow m1 a da) (hb : DE X fl W ow m2 b db) :
    DF X fl W ow (.BinOp a op b pos) (fun dl => da dl >>= fun x => db dl >>= fun y => nx (f x y)) := df_two (fun _ _ p q => pe_op hr p q) ho h1 h2 ha hb
theorem de_cmp {op : CmpOp} {r : R2} {f : D → D → R D} (hr : OpR X (compareOp op) r) (ho : Op2 (gx X fl) false r f) (ha : DE X fl W ow .f a da) (hb : DE X fl W ow .f b db) (hm : behindInMarks op b = false := by rfl) :
    DE X fl W ow m (.Compare a [op] [b] pos) (fun dl => da dl >>= fun x => db dl >>= fun y => nx (f x y)) := de_two (fun _ _ p q => pe_cmpR hr p q hm) ho rfl rfl ha hb
end
end DL

/-! The data layer: what operators make of data. -/
namespace DL
open PySem PySem.Spec PyProof.Rows L2

/-! ### data that == sees through -/
mutual
def py : D → PyData
  | .non => .none
  | .bl b => .bool b
  | .int i => .int i
  | .str x => .str x
  | .tup l => .tuple (pyAll l)
  | .lst l => .list (pyAll l)
  | .frz l => .list (pyAll l)
  | _ => .dict []
def pyAll : List D → List PyData
  | [] => []
  | d :: ds => py d :: pyAll ds
end
def flatOk (d : D) : Bool := SeqAt.shaped (py d)
mutual
theorem Rp.dp {G : Gx} {H : Hp} {P : Addr → Prop} : ∀ {v : V} {d : D}, Rp G H P v d → (py d).canLay0 = true → Dp G.K H v (py d)
  | _, _, .non, _ => by unfold py; exact .non
  | _, _, .bl b, _ => by unfold py; exact .bl b
  | _, _, .int i, _ => by unfold py; exact .int i
  | _, _, .str x, _ => by unfold py; exact .str x
  | _, _, .tup h z r, c => by unfold py at *; exact .tup h (RpAll.dp r (by simpa [PyData.canLay0] using c))
  | _, _, .lst h z n r, c => by unfold py at *; exact .lst (SqL.of h) (RpAll.dp r (by simpa [PyData.canLay0] using c))
  | _, _, .lstF h z r, c => by unfold py at *; exact .lst h.sq (RpAll.dp r (by simpa [PyData.canLay0] using c))
  | _, _, .obj .., c => by simp [py, PyData.canLay0] at c
  | _, _, .raw .., c => by simp [py, PyData.canLay0] at c
  | _, _, .dct .., c => by simp [py, PyData.canLay0] at c
  | _, _, .dcl .., c => by simp [py, PyData.canLay0] at c
  | _, _, .lk .., c => by simp [py, PyData.canLay0] at c
theorem RpAll.dp {G : Gx} {H : Hp} {P : Addr → Prop} : ∀ {vs : List V} {ds : List D}, RpAll G H P vs ds → PyData.canLayAll0 (pyAll ds) = true → DpAll G.K H vs (pyAll ds)
  | _, _, .nil, _ => by unfold pyAll; exact .nil
  | _, _, .cons h r, c => by
    unfold pyAll at *
    rw [PyData.canLayAll0, Bool.and_eq_true] at c
    exact .cons (Rp.dp h c.1) (RpAll.dp r c.2)
end
theorem RpI.dp {G : Gx} {H : Hp} {P : Addr → Prop} {v : V} {d : D} (h : RpI G H P v d) (c : (py d).canLay0 = true) : Dp G.K H v (py d) := by
  rcases h with h | ⟨a, rfl, o⟩
  · exact h.dp c
  · cases o with
    | lst h z r => exact (Rp.lst (P := fun _ => False) h z (fun z => z) (r.le fun _ z => z.elim)).dp c
    | dct => simp [py, PyData.canLay0] at c
    | dcl => simp [py, PyData.canLay0] at c
def deq (a b : D) : Bool := PyData.eqv (py a) (py b)
def dEq (a b : D) : R D := if flatOk a && flatOk b then .ok (.bl (deq a b)) else .bad
def dNe (a b : D) : R D := if flatOk a && flatOk b then .ok (.bl (!deq a b)) else .bad
section
variable {G : Gx}
theorem o_eq : Op2 G false (rEqD G.K) dEq := by
  intro H P P' x y a b Q _ _ ra rb h
  unfold dEq at h
  split at h
  · rename_i c
    have c' : flatOk a = true ∧ flatOk b = true := by simpa using c
    exact ⟨py a, py b, ra.dp (SeqAt.canLay_of_shaped c'.1), rb.dp (SeqAt.canLay_of_shaped c'.2), c'.1, c'.2, h _ H (.refl H) (.bl _)⟩
  · exact h.elim
theorem o_ne : Op2 G false (rNeD G.K) dNe := by
  intro H P P' x y a b Q _ _ ra rb h
  unfold dNe at h
  split at h
  · rename_i c
    have c' : flatOk a = true ∧ flatOk b = true := by simpa using c
    exact ⟨py a, py b, ra.dp (SeqAt.canLay_of_shaped c'.1), rb.dp (SeqAt.canLay_of_shaped c'.2), c'.1, c'.2, h _ H (.refl H) (.bl _)⟩
  · exact h.elim

/-! ### ints -/
theorem RpI.int' {H : Hp} {P : Addr → Prop} {v : V} {i : Int} (h : RpI G H P v (.int i)) : v = .int i := by rcases h with h | ⟨_, _, h⟩ <;> cases h; rfl
theorem RpI.bl' {H : Hp} {P : Addr → Prop} {v : V} {i : Bool} (h : RpI G H P v (.bl i)) : v = .bl i := by rcases h with h | ⟨_, _, h⟩ <;> cases h; rfl
theorem RpI.str' {H : Hp} {P : Addr → Prop} {v : V} {i : Str} (h : RpI G H P v (.str i)) : v = .str i := by rcases h with h | ⟨_, _, h⟩ <;> cases h; rfl
theorem RpI.non' {H : Hp} {P : Addr → Prop} {v : V} (h : RpI G H P v .non) : v = .non := by rcases h with h | ⟨_, _, h⟩ <;> cases h; rfl
theorem RpI.tup' {H : Hp} {P : Addr → Prop} {v : V} {l : List D} (h : RpI G H P v (.tup l)) : ∃ a xs, v = .ref a ∧ SqT G.K H a xs ∧ xs.length ≤ sizeLine ∧ RpAll G H P xs l := by
  rcases h with h | ⟨_, _, h⟩
  · cases h with | tup h z r => exact ⟨_, _, rfl, h, z, r⟩
  · cases h
theorem RpI.tupR {H : Hp} {P : Addr → Prop} {v : V} {l : List D} (h : RpI G H P v (.tup l)) : Rp G H P v (.tup l) := by
  rcases h with h | ⟨_, _, h⟩
  · exact h
  · cases h
theorem RpI.lst' {H : Hp} {P : Addr → Prop} {v : V} {l : List D} (h : RpI G H P v (.lst l)) : ∃ a xs, v = .ref a ∧ H a = some (.lst xs) ∧ xs.length ≤ sizeLine ∧ RpAll G H P xs l := by
  rcases h with h | ⟨a, e, h⟩
  · cases h with | lst h z n r => exact ⟨_, _, rfl, h, z, r⟩
  · cases h with | lst h z r => exact ⟨_, _, e, h, z, r⟩
theorem RpI.frz' {H : Hp} {P : Addr → Prop} {v : V} {l : List D} (h : RpI G H P v (.frz l)) : ∃ a xs, v = .ref a ∧ SqF G.K H a xs ∧ xs.length ≤ sizeLine ∧ RpAll G H P xs l := by
  rcases h with h | ⟨_, _, h⟩
  · cases h with | lstF h z r => exact ⟨_, _, rfl, h, z, r⟩
  · cases h
theorem rp_new_lst {H : Hp} {P : Addr → Prop} {p : Addr} {vs : List V} {l : List D} (hP : ∀ b, P b → ∃ o, H b = some o) (hp : H p = none) (r : RpAll G H P vs l) (z : l.length ≤ sizeLine) : Rp G (upd H p (.lst vs)) P (.ref p) (.lst l) :=
  .lst upd_same (by rw [r.length]; exact z) (fun w => by obtain ⟨o, w⟩ := hP p w; rw [hp] at w; cases w) (r.sm (same_new hp))
def smallI (i : Int) : Bool := decide (i.natAbs < 18446744073709551616)
def rAddG (K : PySem.W.Frag) : R2 := fun x y H Q => (rI0 fun i j => .int (i + j)) x y H Q ∨ rCatA K x y H Q ∨ rCat x y H Q ∨ (∃ i j, x = .str i ∧ y = .str j ∧ i.length + j.length ≤ sizeLine ∧ Q (.str (i ++ j)) H)
theorem op_addG {X : Cx} : OpR X (binaryOp .Add) (rAddG X.K) := op_add.or (op_catA.or (op_cat.or op_add_str))
def dAdd : D → D → R D
  | .int i, .int j => .ok (.int (i + j))
  | .tup a, .tup b => mkT (a ++ b)
  | .lst a, .lst b => mkL (a ++ b)
  | .str a, .str b => if a.length + b.length ≤ sizeLine then .ok (.str (a ++ b)) else .bad
  | _, _ => .bad
theorem o_add : Op2 G true (rAddG G.K) dAdd := by
  intro H P P' x y a b Q hk hP ra rb h
  obtain rfl := hk rfl
  unfold dAdd at h
  split at h
  · cases ra.int'; cases rb.int'
    exact .inl ⟨_, _, rfl, rfl, h _ H (.refl H) (.int _)⟩
  · obtain ⟨z, h⟩ := mkT_some h
    obtain ⟨p, xs, ep, hx, zx, rx⟩ := ra.tup'
    obtain ⟨q, ys, eq, hy, zy, ry⟩ := rb.tup'
    have e1 := rx.length
    have e2 := ry.length
    refine .inr (.inl ⟨p, q, xs, ys, ep, eq, hx, hy, by rw [e1, e2]; simpa using z, fun n => ?_, fun _ n => ?_, fun _ _ l hl => ?_⟩)
    · subst n eq
      cases rx
      exact h _ H (.refl H) rb.tupR
    · subst n ep
      cases ry
      rw [List.append_nil] at h
      exact h _ H (.refl H) ra.tupR
    · exact h _ _ (same_new hl) (rp_new_tup hl (rx.append ry) z)
  · obtain ⟨z, h⟩ := mkL_some h
    obtain ⟨p, xs, ep, hx, zx, rx⟩ := ra.lst'
    obtain ⟨q, ys, eq, hy, zy, ry⟩ := rb.lst'
    have e1 := rx.length
    have e2 := ry.length
    refine .inr (.inr (.inl ⟨p, q, xs, ys, ep, eq, hx, hy, by rw [e1, e2]; simpa using z, fun l hl => ?_⟩))
    exact h _ _ (same_new hl) (rp_new_lst hP hl (rx.append ry) z)
  · cases ra.str'; cases rb.str'
    split at h
    · rename_i z
      exact .inr (.inr (.inr ⟨_, _, rfl, rfl, z, h _ H (.refl H) (.str _)⟩))
    · exact h.elim
  · exact h.elim
def dAddL : D → D → R D
  | .lst a, .lst b => mkL (a ++ b)
  | _, _ => .bad
/-- list + list, a new one -/
theorem o_addF : OpF G (rAddG G.K) dAddL := by
  intro H P x y a b Q hP ra rb h
  unfold dAddL at h
  split at h
  · obtain ⟨z, h⟩ := mkL_some h
    obtain ⟨p, xs, ep, hx, zx, rx⟩ := ra.lst'
    obtain ⟨q, ys, eq, hy, zy, ry⟩ := rb.lst'
    have e1 := rx.length
    have e2 := ry.length
    exact .inr (.inr (.inl ⟨p, q, xs, ys, ep, eq, hx, hy, by rw [e1, e2]; simpa using z, fun l hl => h l _ hl (same_new hl) (own_new hl (rx.append ry) z)⟩))
  · exact h.elim
def dSub : D → D → R D
  | .int i, .int j => .ok (.int (i - j))
  | _, _ => .bad
theorem o_sub : Op2 G false (rI0 fun i j => .int (i - j)) dSub := by
  intro H P P' x y a b Q _ _ ra rb h
  unfold dSub at h
  split at h
  · cases ra.int'; cases rb.int'
    exact ⟨_, _, rfl, rfl, h _ H (.refl H) (.int _)⟩
  · exact h.elim
def dMod : D → D → R D
  | .int i, .int j => if 0 < j then .ok (.int (i % j)) else .bad
  | _, _ => .bad
theorem o_mod : Op2 G false (rI (fun _ j => 0 < j) fun i j => .int (i % j)) dMod := by
  intro H P P' x y a b Q _ _ ra rb h
  unfold dMod at h
  split at h
  · cases ra.int'; cases rb.int'
    split at h
    · rename_i z
      exact ⟨_, _, rfl, rfl, z, h _ H (.refl H) (.int _)⟩
    · exact h.elim
  · exact h.elim
def dFdiv : D → D → R D
  | .int i, .int j => if 0 < j ∧ j.natAbs < 1073741824 then .ok (.int (i / j)) else .bad
  | _, _ => .bad
theorem o_fdiv : Op2 G false (rI CDiv fun i j => .int (i / j)) dFdiv := by
  intro H P P' x y a b Q _ _ ra rb h
  unfold dFdiv at h
  split at h
  · cases ra.int'; cases rb.int'
    split at h
    · rename_i z
      exact ⟨_, _, rfl, rfl, ⟨z.1, by omega⟩, h _ H (.refl H) (.int _)⟩
    · exact h.elim
  · exact h.elim
def dPow : D → D → R D
  | .int i, .int j => if 0 ≤ j ∧ j.natAbs ≤ 1000000 ∧ i.natAbs < 18446744073709551616 then .ok (.int (i ^ j.toNat)) else .bad
  | _, _ => .bad
theorem o_pow : Op2 G false (rI CPow fun i j => .int (i ^ j.toNat)) dPow := by
  intro H P P' x y a b Q _ _ ra rb h
  unfold dPow at h
  split at h
  · cases ra.int'; cases rb.int'
    split at h
    · rename_i z
      exact ⟨_, _, rfl, rfl, ⟨z.1, by omega, z.2.2⟩, h _ H (.refl H) (.int _)⟩
    · exact h.elim
  · exact h.elim
def rMulG : R2 := fun x y H Q => (rI CMul fun i j => .int (i * j)) x y H Q ∨ rRep x y H Q
theorem op_mulG {X : Cx} : OpR X (binaryOp .Mult) rMulG := op_mul.or op_rep
def dMul : D → D → R D
  | .int i, .int j => if smallI i || smallI j then .ok (.int (i * j)) else .bad
  | .lst a, .int k => if k.natAbs < 9223372036854775808 ∧ a.length * k.toNat ≤ sizeLine then .ok (.lst (List.replicate k.toNat a).flatten) else .bad
  | _, _ => .bad
theorem smallI_mul {i j : Int} (h : (smallI i || smallI j) = true) : CMul i j := by
  unfold smallI at h
  simp only [Bool.or_eq_true, decide_eq_true_eq] at h
  unfold CMul
  omega
theorem len_rep {α : Type} (a : List α) : ∀ k : Nat, (List.replicate k a).flatten.length = a.length * k
  | 0 => by simp
  | k + 1 => by rw [List.replicate_succ, List.flatten_cons, List.length_append, len_rep a k, Nat.mul_succ, Nat.add_comm]
theorem o_mul : Op2 G true rMulG dMul := by
  intro H P P' x y a b Q hk hP ra rb h
  obtain rfl := hk rfl
  unfold dMul at h
  split at h
  · cases ra.int'; cases rb.int'
    split at h
    · rename_i z
      exact .inl ⟨_, _, rfl, rfl, smallI_mul z, h _ H (.refl H) (.int _)⟩
    · exact h.elim
  · split at h
    · rename_i l k z
      obtain ⟨z1, z3⟩ := z
      obtain ⟨p, xs, ep, hx, zx, rx⟩ := ra.lst'
      cases rb.int'
      have e1 := rx.length
      refine .inr ⟨p, k, xs, ep, rfl, hx, by omega, by omega, by rw [e1]; exact z3, fun q hq => ?_⟩
      exact h _ _ (same_new hq) (rp_new_lst hP hq (rx.rep _) (by rw [len_rep]; exact z3))
    · exact h.elim
  · exact h.elim
def dMulL : D → D → R D
  | .lst a, .int k => if k.natAbs < 9223372036854775808 ∧ a.length * k.toNat ≤ sizeLine then .ok (.lst (List.replicate k.toNat a).flatten) else .bad
  | _, _ => .bad
theorem o_mulF : OpF G rMulG dMulL := by
  intro H P x y a b Q hP ra rb h
  unfold dMulL at h
  split at h
  · split at h
    · rename_i l k z
      obtain ⟨z1, z3⟩ := z
      obtain ⟨p, xs, ep, hx, zx, rx⟩ := ra.lst'
      cases rb.int'
      have e1 := rx.length
      refine .inr ⟨p, k, xs, ep, rfl, hx, by omega, by omega, by rw [e1]; exact z3, fun q hq => ?_⟩
      exact h q _ hq (same_new hq) (own_new hq (rx.rep _) (by rw [len_rep]; exact z3))
    · exact h.elim
  · exact h.elim
def dCmp (f : Int → Int → Bool) : D → D → R D
  | .int i, .int j => .ok (.bl (f i j))
  | _, _ => .bad
theorem o_cmp (f : Int → Int → Bool) : Op2 G false (rI0 fun i j => .bl (f i j)) (dCmp f) := by
  intro H P P' x y a b Q _ _ ra rb h
  unfold dCmp at h
  split at h
  · cases ra.int'; cases rb.int'
    exact ⟨_, _, rfl, rfl, h _ H (.refl H) (.bl _)⟩
  · exact h.elim
end
end DL

/-! The data layer: tests, subscripts, slices, built-ins. -/
namespace DL
open PySem PySem.Spec PyProof.Rows L2
section
variable {X : Cx} {fl : Str → List Str} {W : WX} {ow : List Bool} {m : Md} {e a b c : Expr} {da db dc : Env → R D} {ta tb tc : Env → R Bool} {pos : Pos} {rest : List Expr}

/-! ### tests -/
theorem _root_.DL.R.assoc {α β γ : Type} (r : R α) (f : α → R β) (g : β → R γ) : ((r >>= f) >>= g) = (r >>= fun a => f a >>= g) := by cases r <;> rfl
def asB : D → R Bool
  | .bl b => .ok b
  | _ => .bad
theorem asB_some {d : D} {K : Bool → Prop} {E : Str → Prop} (h : Asks (asB d) K E) : ∃ b, d = .bl b ∧ K b := by
  unfold asB at h; split at h
  · exact ⟨_, rfl, h⟩
  · exact h.elim
theorem rpM_bl {G : Gx} {H : Hp} {P : Addr → Prop} {v : V} {b : Bool} (h : RpM G H P m v (.bl b)) : v = .bl b := h.toI.bl'
/-- an expression whose value is a bool -/
theorem dt_val (h : DE X fl W ow .f e da) (he : ∀ whole, isTrue e X.env whole = (do let v ← whole; standAt e.pos; holding [v] (truthy v)) := by intro _; rfl) : DT X fl W ow e (fun dl => da dl >>= asB) := by
  obtain ⟨t, p, k⟩ := h
  refine ⟨_, pt_val p he, fun av H0 hs dl st H Q e q => k av H0 hs dl st H _ e (q.bind.mono (fun d _ w v H' s r => ?_) fun _ z => z)⟩
  obtain ⟨b, rfl, w⟩ := asB_some w
  exact ⟨b, rpM_bl (m := .f) r, w H' s⟩
theorem two_run {r : R2} {f : D → D → R D} {t t' : TE} {av : Addr → Prop} {H0 : Hp} {hs : List (V × D)} {dl : Env} {st : L2.St} {H : Hp} {Q : VK}
    (k1 : ∀ av H0 hs dl st H Q, ER (gx X fl) av H0 hs ow dl st H → Asks (da dl) (OkV (gx X fl) H (pm .f av ow dl st) .f Q) (EX (gx X fl) H W st) → t st H Q)
    (k2 : ∀ av H0 hs dl st H Q, ER (gx X fl) av H0 hs ow dl st H → Asks (db dl) (OkV (gx X fl) H (pm .f av ow dl st) .f Q) (EX (gx X fl) H W st) → t' st H Q)
    (ho : Op2 (gx X fl) false r f) (e : ER (gx X fl) av H0 hs ow dl st H) (q : Asks (da dl >>= fun x => db dl >>= fun y => nx (f x y)) (OkV (gx X fl) H (pm .f av ow dl st) .f Q) (EX (gx X fl) H W st)) : tOp r t t' st H Q := by
  refine k1 av H0 hs dl st H _ e (q.bind.mono (fun d _ w v H1 s r => ?_) fun _ z => z)
  refine k2 av H0 hs dl st H1 _ (e.sm s) (w.bind.mono (fun d' _ w' v' H2 s2 r2 => ?_) fun _ z => z.sm s)
  exact ho H2 (pm .f av ow dl st) (pm .f av ow dl st) v v' d d' Q (fun z => rfl) ((e.sm (s.trans s2)).pmh .f) (r.toI.sm s2) r2.toI ((nx_asks w').mono (fun _ _ z => (z.sm (s.trans s2)).t) fun _ z => z)
theorem dt_cmp {op : CmpOp} {r : R2} {f : D → D → R D} (hr : OpR X (compareOp op) r) (ho : Op2 (gx X fl) false r f) (ha : DE X fl W ow .f a da) (hb : DE X fl W ow .f b db) (hm : behindInMarks op b = false := by rfl) :
    DT X fl W ow (.Compare a [op] [b] pos) (fun dl => da dl >>= fun x => db dl >>= fun y => nx (f x y) >>= asB) := by
  obtain ⟨t, p, k1⟩ := ha
  obtain ⟨t', p', k2⟩ := hb
  refine ⟨_, pt_cmpR hr p p' hm, fun av H0 hs dl st H Q e q => ?_⟩
  refine two_run k1 k2 ho e ?_
  have q' : Asks ((da dl >>= fun x => db dl >>= fun y => nx (f x y)) >>= asB) (OkT H Q) (EX (gx X fl) H W st) := by
    simp only [R.assoc]
    exact q
  refine q'.bind.mono (fun d _ w v H1 s r => ?_) fun _ z => z
  obtain ⟨b, rfl, w⟩ := asB_some w
  exact ⟨b, rpM_bl (m := .f) r, w H1 s⟩
/-- a < b < c -/
theorem de_chain {op op' : CmpOp} {r r' : R2} {f f' : D → D → R D} (hr : OpR X (compareOp op) r) (hr' : OpR X (compareOp op') r') (ho : Op2 (gx X fl) false r f) (ho' : Op2 (gx X fl) false r' f') (ha : DE X fl W ow .f a da) (hb : DE X fl W ow .f b db) (hc : DE X fl W ow .f c dc)
    (hm : lastMarks [op, op'] [b, c] = false := by with_unfolding_all rfl) : DE X fl W ow m (.Compare a [op, op'] [b, c] pos) (fun dl => da dl >>= fun x => db dl >>= fun y => nx (f x y) >>= asB >>= fun k => if k then dc dl >>= fun z => nx (f' y z) else .ok (.bl false)) := by
  obtain ⟨t, p, k1⟩ := ha
  obtain ⟨t', p', k2⟩ := hb
  obtain ⟨t2, p2, k3⟩ := hc
  refine ⟨_, pe_chain hr hr' p p' p2 hm, fun av H0 hs dl st H Q e q => ?_⟩
  refine k1 av H0 hs dl st H _ e (q.bind.mono (fun d _ w v H1 s r => ?_) fun _ z => z)
  refine k2 av H0 hs dl st H1 _ (e.sm s) (w.bind.mono (fun d' _ w' v' H2 s2 r2 => ?_) fun _ z => z.sm s)
  have w1 := w'.bind
  refine ho H2 (pm .f av ow dl st) (pm .f av ow dl st) v v' d d' _ (fun z => rfl) ((e.sm (s.trans s2)).pmh .f) (r.toI.sm s2) r2.toI ((nx_asks (r := f d d') (E := EX (gx X fl) H W st) (w1.bind.mono (fun u _ z => z) fun _ z => z)).mono (fun u _ z v3 H3 s3 r3 => ?_) fun _ z => z)
  obtain ⟨k, rfl, z⟩ := asB_some z
  refine ⟨k, rpM_bl (m := .t) r3, ?_⟩
  cases k with
  | false => exact z _ H3 ((s.trans s2).trans s3) (Rp.toM (.bl false))
  | true =>
    refine k3 av H0 hs dl st H3 _ (e.sm ((s.trans s2).trans s3)) (z.bind.mono (fun g _ y v4 H4 s4 r4 => ?_) fun _ y => y.sm ((s.trans s2).trans s3))
    exact ho' H4 (pm .f av ow dl st) (pm m av ow dl st) v' v4 d' g Q (fun z => by cases z) ((e.sm (((s.trans s2).trans s3).trans s4)).pmh m) ((r2.toI.sm s3).sm s4) r4.toI ((nx_asks y).mono (fun _ _ y => (y.sm (((s.trans s2).trans s3).trans s4)).t) fun _ y => y)
theorem dt_chain {op op' : CmpOp} {r r' : R2} {f f' : D → D → R D} (hr : OpR X (compareOp op) r) (hr' : OpR X (compareOp op') r') (ho : Op2 (gx X fl) false r f) (ho' : Op2 (gx X fl) false r' f') (ha : DE X fl W ow .f a da) (hb : DE X fl W ow .f b db) (hc : DE X fl W ow .f c dc)
    (hm : lastMarks [op, op'] [b, c] = false := by with_unfolding_all rfl) : DT X fl W ow (.Compare a [op, op'] [b, c] pos) (fun dl => da dl >>= fun x => db dl >>= fun y => nx (f x y) >>= asB >>= fun k => if k then dc dl >>= fun z => nx (f' y z) >>= asB else .ok false) := by
  obtain ⟨t, p, k1⟩ := ha
  obtain ⟨t', p', k2⟩ := hb
  obtain ⟨t2, p2, k3⟩ := hc
  refine ⟨_, pt_chain hr hr' p p' p2 hm, fun av H0 hs dl st H Q e q => ?_⟩
  refine k1 av H0 hs dl st H _ e (q.bind.mono (fun d _ w v H1 s r => ?_) fun _ z => z)
  refine k2 av H0 hs dl st H1 _ (e.sm s) (w.bind.mono (fun d' _ w' v' H2 s2 r2 => ?_) fun _ z => z.sm s)
  have w1 := w'.bind
  refine ho H2 (pm .f av ow dl st) (pm .f av ow dl st) v v' d d' _ (fun z => rfl) ((e.sm (s.trans s2)).pmh .f) (r.toI.sm s2) r2.toI ((nx_asks (r := f d d') (E := EX (gx X fl) H W st) (w1.bind.mono (fun u _ z => z) fun _ z => z)).mono (fun u _ z v3 H3 s3 r3 => ?_) fun _ z => z)
  obtain ⟨k, rfl, z⟩ := asB_some z
  refine ⟨k, rpM_bl (m := .t) r3, ?_⟩
  cases k with
  | false => exact ⟨false, rfl, z H3 ((s.trans s2).trans s3)⟩
  | true =>
    refine k3 av H0 hs dl st H3 _ (e.sm ((s.trans s2).trans s3)) (z.bind.mono (fun g _ y v4 H4 s4 r4 => ?_) fun _ y => y.sm ((s.trans s2).trans s3))
    refine ho' H4 (pm .f av ow dl st) (pm .f av ow dl st) v' v4 d' g _ (fun z => by cases z) ((e.sm (((s.trans s2).trans s3).trans s4)).pmh .f) ((r2.toI.sm s3).sm s4) r4.toI ((nx_asks (r := f' d' g) (E := EX (gx X fl) H W st) (y.bind.mono (fun u _ z => z) fun _ z => z)).mono (fun u _ y v5 H5 s5 r5 => ?_) fun _ y => y)
    obtain ⟨k, rfl, y⟩ := asB_some y
    exact ⟨k, rpM_bl (m := .t) r5, y _ ((((s.trans s2).trans s3).trans s4).trans s5)⟩
/-- is None -/
def isNon : D → Bool
  | .non => true
  | _ => false
theorem isNon_eq {G : Gx} {H : Hp} {P : Addr → Prop} {v : V} {d : D} (h : RpM G H P m v d) : decide (v = .non) = isNon d := by
  rcases h.toI with h1 | ⟨a, rfl, h1⟩
  · cases h1 <;> simp [isNon]
  · cases h1 <;> simp [isNon]
theorem de_isN {j : Nat} {p' : Pos} (ha : DE X fl W ow .f a da) : DE X fl W ow m (.Compare a [.Is] [.Constant .none j p'] pos) (fun dl => da dl >>= fun x => .ok (.bl (isNon x))) := by
  obtain ⟨t, p, k⟩ := ha
  refine ⟨_, pe_cmp (pc_isN p) rfl, fun av H0 hs dl st H Q e q => k av H0 hs dl st H _ e (q.bind.mono (fun d _ w v H1 s r => ?_) fun _ z => z)⟩
  have e1 := isNon_eq (m := .f) r
  show Q (.bl (decide (v = .non))) H1
  rw [e1]
  exact w _ H1 s (Rp.toM (.bl _))
theorem de_notN {j : Nat} {p' : Pos} (ha : DE X fl W ow .f a da) : DE X fl W ow m (.Compare a [.IsNot] [.Constant .none j p'] pos) (fun dl => da dl >>= fun x => .ok (.bl (!isNon x))) := by
  obtain ⟨t, p, k⟩ := ha
  refine ⟨_, pe_cmp (pc_notN p) rfl, fun av H0 hs dl st H Q e q => k av H0 hs dl st H _ e (q.bind.mono (fun d _ w v H1 s r => ?_) fun _ z => z)⟩
  have e1 := isNon_eq (m := .f) r
  show Q (.bl (!decide (v = .non))) H1
  rw [e1]
  exact w _ H1 s (Rp.toM (.bl _))
theorem dt_isN {j : Nat} {p' : Pos} (ha : DE X fl W ow .f a da) : DT X fl W ow (.Compare a [.Is] [.Constant .none j p'] pos) (fun dl => da dl >>= fun x => .ok (isNon x)) := by
  obtain ⟨t, p, k⟩ := ha
  refine ⟨_, pt_cmp (pc_isN p) rfl, fun av H0 hs dl st H Q e q => k av H0 hs dl st H _ e (q.bind.mono (fun d _ w v H1 s r => ?_) fun _ z => z)⟩
  exact ⟨_, rfl, by rw [isNon_eq (m := .f) r]; exact w H1 s⟩
theorem dt_notN {j : Nat} {p' : Pos} (ha : DE X fl W ow .f a da) : DT X fl W ow (.Compare a [.IsNot] [.Constant .none j p'] pos) (fun dl => da dl >>= fun x => .ok (!isNon x)) := by
  obtain ⟨t, p, k⟩ := ha
  refine ⟨_, pt_cmp (pc_notN p) rfl, fun av H0 hs dl st H Q e q => k av H0 hs dl st H _ e (q.bind.mono (fun d _ w v H1 s r => ?_) fun _ z => z)⟩
  exact ⟨_, rfl, by rw [isNon_eq (m := .f) r]; exact w H1 s⟩
theorem dt_not (h : DT X fl W ow a ta) : DT X fl W ow (.UnaryOp .Not a pos) (fun dl => ta dl >>= fun k => .ok (!k)) := by
  obtain ⟨t, p, k⟩ := h
  exact ⟨_, pt_not p, fun av H0 hs dl st H Q e q => k av H0 hs dl st H _ e (q.bind.mono (fun d _ w H1 s => w H1 s) fun _ z => z)⟩
theorem dw_and1 (h : DT X fl W ow a ta) : DW X fl W ow (.BoolOp .And [a] pos) ta := by
  obtain ⟨t, p, k⟩ := h
  exact ⟨_, pw_and1 p, k⟩
theorem dw_or1 (h : DT X fl W ow a ta) : DW X fl W ow (.BoolOp .Or [a] pos) ta := by
  obtain ⟨t, p, k⟩ := h
  exact ⟨_, pw_or1 p, k⟩
theorem dw_and (h : DT X fl W ow a ta) (r : DW X fl W ow (.BoolOp .And (b :: rest) pos) tb) : DW X fl W ow (.BoolOp .And (a :: b :: rest) pos) (fun dl => ta dl >>= fun k => if k then tb dl else .ok false) := by
  obtain ⟨t, p, k⟩ := h
  obtain ⟨t', p', k'⟩ := r
  refine ⟨_, pw_and p p', fun av H0 hs dl st H Q e q => k av H0 hs dl st H _ e (q.bind.mono (fun d _ w H1 s => ?_) fun _ z => z)⟩
  cases d with
  | true => exact k' av H0 hs dl st H1 _ (e.sm s) (w.mono (fun _ _ w' H2 s2 => w' H2 (s.trans s2)) fun _ z => z.sm s)
  | false => exact w H1 s
theorem dw_or (h : DT X fl W ow a ta) (r : DW X fl W ow (.BoolOp .Or (b :: rest) pos) tb) : DW X fl W ow (.BoolOp .Or (a :: b :: rest) pos) (fun dl => ta dl >>= fun k => if k then .ok true else tb dl) := by
  obtain ⟨t, p, k⟩ := h
  obtain ⟨t', p', k'⟩ := r
  refine ⟨_, pw_or p p', fun av H0 hs dl st H Q e q => k av H0 hs dl st H _ e (q.bind.mono (fun d _ w H1 s => ?_) fun _ z => z)⟩
  cases d with
  | false => exact k' av H0 hs dl st H1 _ (e.sm s) (w.mono (fun _ _ w' H2 s2 => w' H2 (s.trans s2)) fun _ z => z.sm s)
  | true => exact w H1 s
theorem DW.dt (h : DW X fl W ow e ta) : DT X fl W ow e ta := by
  obtain ⟨t, p, k⟩ := h
  exact ⟨t, p.pt, k⟩
/-! ### .. as values -/
theorem de_one {op : BoolOp} (h : DE X fl W ow m a da) : DE X fl W ow m (.BoolOp op [a] pos) da := by
  obtain ⟨t, p, k⟩ := h
  exact ⟨_, pe_one p, k⟩
theorem de_and (h : DE X fl W ow .f a da) (r : DE X fl W ow m (.BoolOp .And (b :: rest) pos) db) : DE X fl W ow m (.BoolOp .And (a :: b :: rest) pos) (fun dl => da dl >>= asB >>= fun k => if k then db dl else .ok (.bl false)) := by
  obtain ⟨t, p, k⟩ := h
  obtain ⟨t', p', k'⟩ := r
  refine ⟨_, pe_and p p', fun av H0 hs dl st H Q e q => k av H0 hs dl st H _ e (q.bind.bind.mono (fun d _ w v H1 s r => ?_) fun _ z => z)⟩
  obtain ⟨c, rfl, w⟩ := asB_some w
  refine ⟨c, rpM_bl (m := .f) r, ?_⟩
  cases c with
  | true => exact k' av H0 hs dl st H1 _ (e.sm s) (Asks.mono (r := db dl) w (fun _ _ w' => OkV.sm w' s) fun _ z => EX.sm z s)
  | false => exact w _ H1 s (Rp.toM (.bl false))
theorem de_or (h : DE X fl W ow .f a da) (r : DE X fl W ow m (.BoolOp .Or (b :: rest) pos) db) : DE X fl W ow m (.BoolOp .Or (a :: b :: rest) pos) (fun dl => da dl >>= asB >>= fun k => if k then .ok (.bl true) else db dl) := by
  obtain ⟨t, p, k⟩ := h
  obtain ⟨t', p', k'⟩ := r
  refine ⟨_, pe_or p p', fun av H0 hs dl st H Q e q => k av H0 hs dl st H _ e (q.bind.bind.mono (fun d _ w v H1 s r => ?_) fun _ z => z)⟩
  obtain ⟨c, rfl, w⟩ := asB_some w
  refine ⟨c, rpM_bl (m := .f) r, ?_⟩
  cases c with
  | false => exact k' av H0 hs dl st H1 _ (e.sm s) (Asks.mono (r := db dl) w (fun _ _ w' => OkV.sm w' s) fun _ z => EX.sm z s)
  | true => exact w _ H1 s (Rp.toM (.bl true))
theorem de_not (h : DE X fl W ow .f a da) : DE X fl W ow m (.UnaryOp .Not a pos) (fun dl => da dl >>= asB >>= fun k => .ok (.bl (!k))) := by
  obtain ⟨t, p, k⟩ := h
  refine ⟨_, pe_not p, fun av H0 hs dl st H Q e q => k av H0 hs dl st H _ e (q.bind.bind.mono (fun d _ w v H1 s r => ?_) fun _ z => z)⟩
  obtain ⟨c, rfl, w⟩ := asB_some w
  exact ⟨c, rpM_bl (m := .f) r, w _ H1 s (Rp.toM (.bl _))⟩
theorem de_neg (h : DE X fl W ow .f a da) : DE X fl W ow m (.UnaryOp .USub a pos) (fun dl => da dl >>= fun x => match x with | .int i => .ok (.int (-i)) | _ => .bad) := by
  obtain ⟨t, p, k⟩ := h
  refine ⟨_, pe_un un_neg p, fun av H0 hs dl st H Q e q => k av H0 hs dl st H _ e (q.bind.mono (fun d _ w v H1 s r => ?_) fun _ z => z)⟩
  cases d with
  | int i => exact ⟨i, r.toI.int', w _ H1 s (Rp.toM (.int _))⟩
  | _ => exact w.elim
theorem de_if (hc : DT X fl W ow c tc) (ha : DE X fl W ow m a da) (hb : DE X fl W ow m b db) : DE X fl W ow m (.IfExp c a b pos) (fun dl => tc dl >>= fun k => if k then da dl else db dl) := by
  obtain ⟨t, p, k⟩ := hc
  obtain ⟨t1, p1, k1⟩ := ha
  obtain ⟨t2, p2, k2⟩ := hb
  refine ⟨_, pe_ifExp p p1 p2, fun av H0 hs dl st H Q e q => k av H0 hs dl st H _ e (q.bind.mono (fun d _ w H1 s => ?_) fun _ z => z)⟩
  cases d with
  | true => exact k1 av H0 hs dl st H1 _ (e.sm s) (w.mono (fun _ _ w' => w'.sm s) fun _ z => z.sm s)
  | false => exact k2 av H0 hs dl st H1 _ (e.sm s) (w.mono (fun _ _ w' => w'.sm s) fun _ z => z.sm s)

/-! ### subscripts, slices -/
def dAt (l : List D) (i : Int) : R D := match atI l i with | some d => .ok d | none => .bad
def dIx : D → D → R D
  | .tup l, .int i => dAt l i
  | .lst l, .int i => dAt l i
  | .frz l, .int i => dAt l i
  | .str z, .int i => if z.length ≤ sizeLine then (match atI z.cps.toList i with | some c => .ok (.str ⟨#[c]⟩) | none => .bad) else .bad
  | _, _ => .bad
theorem rpAll_atI {G : Gx} {H : Hp} {P : Addr → Prop} {vs : List V} {l : List D} (r : RpAll G H P vs l) {i : Int} {K : D → Prop} {E : Str → Prop} (h : Asks (dAt l i) K E) : ∃ v d, atI vs i = some v ∧ Rp G H P v d ∧ K d := by
  unfold dAt at h
  split at h
  · rename_i d q
    unfold atI at q ⊢
    rw [r.length]
    cases z : ixN l.length i with
    | none => rw [z] at q; cases q
    | some j =>
      rw [z] at q
      obtain ⟨v, e1, e2⟩ := r.get (i := j) (d := d) q
      exact ⟨v, d, e1, e2, h⟩
  · exact h.elim
theorem o_ix {G : Gx} : Op2 G true (rIx G.K) dIx := by
  intro H P P' x y a b Q hk hP ra rb h
  obtain rfl := hk rfl
  unfold dIx at h
  split at h
  · obtain ⟨p, xs, rfl, hx, zx, rx⟩ := ra.tup'
    cases rb.int'
    obtain ⟨v, d, e1, e2, h⟩ := rpAll_atI rx h
    exact .inr (.inl ⟨p, xs, _, v, rfl, rfl, hx, e1, h v H (.refl H) e2⟩)
  · obtain ⟨p, xs, rfl, hx, zx, rx⟩ := ra.lst'
    cases rb.int'
    obtain ⟨v, d, e1, e2, h⟩ := rpAll_atI rx h
    exact .inl ⟨p, xs, _, v, rfl, rfl, .of hx, e1, h v H (.refl H) e2⟩
  · obtain ⟨p, xs, rfl, hx, zx, rx⟩ := ra.frz'
    cases rb.int'
    obtain ⟨v, d, e1, e2, h⟩ := rpAll_atI rx h
    exact .inl ⟨p, xs, _, v, rfl, rfl, hx.sq, e1, h v H (.refl H) e2⟩
  · cases ra.str'; cases rb.int'
    split at h
    · rename_i z
      split at h
      · rename_i c ec
        exact .inr (.inr ⟨_, _, _, rfl, rfl, z, ec, h _ H (.refl H) (.str _)⟩)
      · exact h.elim
    · exact h.elim
  · exact h.elim
theorem de_ix {m1 m2 : Md} (hm : (m1.isF == m.isF) = true) (h12 : (m1.isF == m2.isF) = true) (ha : DE X fl W ow m1 a da) (hb : DE X fl W ow m2 b db) (hs : PlainIx b := by exact fun _ _ => rfl) : DE X fl W ow m (.Subscript a b pos) (fun dl => da dl >>= fun x => db dl >>= fun y => nx (dIx x y)) :=
  de_two (fun _ _ p q => pe_ix ix_seq p q hs) o_ix (by simpa using hm) h12 ha hb
/-- the bounds of a slice -/
def DP (X : Cx) (fl : Str → List Str) (W : WX) (ow : List Bool) (e : Option Expr) (den : Env → R (Option Int)) : Prop :=
  ∃ t, PO X e t ∧ ∀ av H0 hs dl st H Q, ER (gx X fl) av H0 hs ow dl st H → Asks (den dl) (fun o => ∀ H', Same H H' → Q o H') (EX (gx X fl) H W st) → t st H Q
theorem dp_none : DP X fl W ow none (fun _ => .ok none) := ⟨_, po_none, fun _ _ _ _ _ H _ _ q => q H (.refl H)⟩
def asI : D → R (Option Int)
  | .int i => .ok (some i)
  | _ => .bad
theorem dp_some (h : DE X fl W ow .f e da) : DP X fl W ow (some e) (fun dl => da dl >>= asI) := by
  obtain ⟨t, p, k⟩ := h
  refine ⟨_, po_some p, fun av H0 hs dl st H Q e q => k av H0 hs dl st H _ e (q.bind.mono (fun d _ w v H1 s r => ?_) fun _ z => z)⟩
  unfold asI at w
  split at w
  · exact ⟨_, r.toI.int', w H1 s⟩
  · exact w.elim
def cutD (l : List D) (lo hi : Option Int) : List D := (l.drop (HT.sIx l.length 0 lo)).take (HT.sIx l.length l.length hi - HT.sIx l.length 0 lo)
theorem rpAll_cut {G : Gx} {H : Hp} {P : Addr → Prop} {vs : List V} {l : List D} (r : RpAll G H P vs l) (lo hi : Option Int) : RpAll G H P (cutV vs lo hi) (cutD l lo hi) := by
  unfold cutV cutD
  rw [r.length]
  exact (r.drop _).take _
theorem cutD_length (l : List D) (lo hi : Option Int) : (cutD l lo hi).length ≤ l.length := by
  unfold cutD; rw [List.length_take, List.length_drop]; omega
def dSl : D → Option Int → Option Int → R D
  | .tup l, lo, hi => .ok (.tup (cutD l lo hi))
  | .lst l, lo, hi => .ok (.lst (cutD l lo hi))
  | .frz l, lo, hi => .ok (.lst (cutD l lo hi))
  | _, _, _ => .bad
theorem de_slice {lo hi : Option Expr} {m1 : Md} {p2 : Pos} {dlo dhi : Env → R (Option Int)} (hm : (m1.isF == m.isF) = true) (ha : DE X fl W ow m1 a da) (hl : DP X fl W ow lo dlo) (hh : DP X fl W ow hi dhi) :
    DE X fl W ow m (.Subscript a (.Slice lo hi none p2) pos) (fun dl => da dl >>= fun x => dlo dl >>= fun l => dhi dl >>= fun h => nx (dSl x l h)) := by
  obtain ⟨t, p, k⟩ := ha
  obtain ⟨t1, p1, k1⟩ := hl
  obtain ⟨t2, p2, k2⟩ := hh
  refine ⟨_, pe_slice (sl_tupA.or sl_list) p p1 p2, fun av H0 hs dl st H Q e q => ?_⟩
  refine k av H0 hs dl st H _ e (q.bind.mono (fun d _ w v H1 s r => ?_) fun _ z => z)
  refine k1 av H0 hs dl st H1 _ (e.sm s) (w.bind.mono (fun lo _ w H2 s2 => ?_) fun _ z => z.sm s)
  refine k2 av H0 hs dl st H2 _ (e.sm (s.trans s2)) (w.bind.mono (fun hi _ w H3 s3 => ?_) fun _ z => z.sm (s.trans s2))
  have S := (s.trans s2).trans s3
  have hP := (e.sm S).pmh m
  rw [pm_eq (m' := m) (by simpa using hm)] at r
  have r := (r.toI.sm s2).sm s3
  have w := nx_asks w
  unfold dSl at w
  split at w
  · obtain ⟨p, xs, rfl, hx, zx, rx⟩ := r.tup'
    refine .inl ⟨p, xs, rfl, hx, fun z => ?_, fun z l hl => ?_⟩
    · refine w _ H3 S (Rp.toM ?_)
      have e1 : ∀ l : List D, xs.length = l.length → cutD l lo hi = l := fun l el => by
        unfold cutD
        rw [← el, z.1, z.2]
        simp [el]
      rw [e1 _ rx.length]
      exact r.tupR
    · refine w _ _ (S.trans (same_new hl)) (Rp.toM (rp_new_tup hl (rpAll_cut rx lo hi) ?_))
      exact Nat.le_trans (cutD_length _ lo hi) (by rw [← rx.length]; exact zx)
  · obtain ⟨p, xs, rfl, hx, zx, rx⟩ := r.lst'
    refine .inr ⟨p, xs, rfl, .of hx, fun l hl => ?_⟩
    refine w _ _ (S.trans (same_new hl)) (Rp.toM (rp_new_lst hP hl (rpAll_cut rx lo hi) ?_))
    exact Nat.le_trans (cutD_length _ lo hi) (by rw [← rx.length]; exact zx)
  · obtain ⟨p, xs, rfl, hx, zx, rx⟩ := r.frz'
    refine .inr ⟨p, xs, rfl, hx.sq, fun l hl => ?_⟩
    refine w _ _ (S.trans (same_new hl)) (Rp.toM (rp_new_lst hP hl (rpAll_cut rx lo hi) ?_))
    exact Nat.le_trans (cutD_length _ lo hi) (by rw [← rx.length]; exact zx)
  · exact w.elim
end
end DL

/-! The data layer: built-in functions. -/
namespace DL
open PySem PySem.Spec PyProof.Rows L2
section
variable {X : Cx} {fl : Str → List Str} {W : WX} {ow : List Bool} {m : Md} {e a b c : Expr} {es : List Expr} {da db dc : Env → R D} {ds : Env → R (List D)} {pos p : Pos}

/-- arguments with at least their items kept off -/
def DAi (X : Cx) (fl : Str → List Str) (W : WX) (ow : List Bool) (m : Md) (es : List Expr) (den : Env → R (List D)) : Prop :=
  ∃ t, PA X es t ∧ ∀ av H0 hs dl st H Q, ER (gx X fl) av H0 hs ow dl st H → Asks (den dl) (fun d => ∀ v H', Same H H' → Paired (RpI (gx X fl) H' (pm m av ow dl st)) v d → Q v H') (EX (gx X fl) H W st) → t st H Q
theorem Paired.impl {α β : Type} {F F' : α → β → Prop} (f : ∀ a b, F a b → F' a b) : ∀ {l₁ : List α} {l₂ : List β}, Paired F l₁ l₂ → Paired F' l₁ l₂
  | _, _, .nil => .nil
  | _, _, .cons h r => .cons (f _ _ h) (Paired.impl f r)
theorem dai_nil : DAi X fl W ow m [] (fun _ => .ok []) := ⟨_, pa_nil, fun _ _ _ _ _ H _ _ q => q [] H (.refl H) .nil⟩
theorem dai_cons {m1 : Md} (hm : (m1.isF == m.isF) = true) (h : DE X fl W ow m1 e da) (r : DAi X fl W ow m es ds) (hs : starEach (e :: es) X.env = (false, eval e X.env) :: starEach es X.env := by rfl) :
    DAi X fl W ow m (e :: es) (fun dl => da dl >>= fun d => ds dl >>= fun l => .ok (d :: l)) := by
  obtain ⟨t, p, k⟩ := h
  obtain ⟨t', p', k'⟩ := r
  refine ⟨_, pa_cons p p' hs, fun av H0 hs dl st H Q e q => ?_⟩
  refine k av H0 hs dl st H _ e (q.bind.mono (fun d _ w v H1 s r => ?_) fun _ z => z)
  refine k' av H0 hs dl st H1 _ (e.sm s) (w.bind.mono (fun l _ w' vs H2 s2 r2 => ?_) fun _ z => z.sm s)
  rw [pm_eq hm] at r
  exact w' _ H2 (s.trans s2) (.cons (r.toI.sm s2) r2)

/-- a call by values -/
def OpL (G : Gx) (k : Bool) (r : List V → Hp → VK → Prop) (f : List D → R D) : Prop := ∀ H P P' vs l Q, (k = true → P' = P) → (∀ b, P' b → ∃ o, H b = some o) → Paired (RpI G H P) vs l → Asks (f l) (OkV G H P' .t Q) (fun _ => False) → r vs H Q
def OpLF (G : Gx) (r : List V → Hp → VK → Prop) (f : List D → R D) : Prop := ∀ H P vs l Q, (∀ b, P b → ∃ o, H b = some o) → Paired (RpI G H P) vs l → Asks (f l) (OkF G H P Q) (fun _ => False) → r vs H Q
theorem de_call {r : List V → Hp → VK → Prop} {f : List D → R D} {k : Bool} {m1 : Md} {e : Expr} (he : ∀ t, PA X es t → PE X e (tCB r t)) (ho : OpL (gx X fl) k r f) (hm : (!k || m1.isF == m.isF) = true) (ha : DAi X fl W ow m1 es ds) :
    DE X fl W ow m e (fun dl => ds dl >>= fun l => nx (f l)) := by
  obtain ⟨t, p, k1⟩ := ha
  refine ⟨_, he _ p, fun av H0 hs dl st H Q e q => ?_⟩
  refine k1 av H0 hs dl st H _ e (q.bind.mono (fun d _ w v H1 s r => ?_) fun _ z => z)
  exact ho H1 (pm m1 av ow dl st) (pm m av ow dl st) v d Q (fun z => (pm_eq (by subst z; simpa using hm)).symm) ((e.sm s).pmh m) r ((nx_asks w).mono (fun _ _ z => (z.sm s).t) fun _ z => z)
theorem df_call {r : List V → Hp → VK → Prop} {f : List D → R D} {e : Expr} (he : ∀ t, PA X es t → PE X e (tCB r t)) (ho : OpLF (gx X fl) r f) (ha : DAi X fl W ow .i es ds) :
    DF X fl W ow e (fun dl => ds dl >>= fun l => nx (f l)) := by
  obtain ⟨t, p, k1⟩ := ha
  refine ⟨_, he _ p, fun av H0 hs dl st H Q e q => ?_⟩
  refine k1 av H0 hs dl st H _ e (q.bind.mono (fun d _ w v H1 s r => ?_) fun _ z => z)
  exact ho H1 _ v d Q (e.sm s).avoh r ((nx_asks w).mono (fun _ _ z p H' hp s3 o => z p H' (s.free hp) (s.trans s3) o) fun _ z => z)
theorem de_callB {x : Str} {id : String} {r : List V → Hp → VK → Prop} {f : List D → R D} {k : Bool} {m1 : Md} (hc : CallR X (.builtin id) r) (ho : OpL (gx X fl) k r f) (hm : (!k || m1.isF == m.isF) = true) (hn : X.mg x = none) (hv : bootBuiltins x = some (.builtin id)) (hg : Gl X x) (ha : DAi X fl W ow m1 (e :: es) ds)
    (hn2 : x ≠ "__name__" := by decide) (hdb : (x == ("__debug__" : Str)) = false := by decide)
    (he : starEach (e :: es) X.env = (false, eval e X.env) :: starEach es X.env := by rfl) (hpl : (backTo pos (starEach es X.env)).any (·.1) = false := by rfl) : DE X fl W ow m (.Call (.Name x p) (e :: es) [] pos) (fun dl => ds dl >>= fun l => nx (f l)) :=
  de_call (fun _ q => pe_callB hc hg hn hv q hn2 hdb he hpl) ho hm ha
theorem de_callTy {x : Str} {T : String} {r : List V → Hp → VK → Prop} {f : List D → R D} {k : Bool} {m1 : Md} (hc : CallR X (.type T) r) (ho : OpL (gx X fl) k r f) (hm : (!k || m1.isF == m.isF) = true) (hn : X.mg x = none) (hv : bootBuiltins x = some (.type T)) (hg : Gl X x) (ha : DAi X fl W ow m1 (e :: es) ds)
    (hn2 : x ≠ "__name__" := by decide) (hdb : (x == ("__debug__" : Str)) = false := by decide)
    (he : starEach (e :: es) X.env = (false, eval e X.env) :: starEach es X.env := by rfl) (hpl : (backTo pos (starEach es X.env)).any (·.1) = false := by rfl) : DE X fl W ow m (.Call (.Name x p) (e :: es) [] pos) (fun dl => ds dl >>= fun l => nx (f l)) :=
  de_call (fun _ q => pe_callTy hc hg hn hv q hn2 hdb he hpl) ho hm ha
theorem df_callTy {x : Str} {T : String} {r : List V → Hp → VK → Prop} {f : List D → R D} (hc : CallR X (.type T) r) (ho : OpLF (gx X fl) r f) (hn : X.mg x = none) (hv : bootBuiltins x = some (.type T)) (hg : Gl X x) (ha : DAi X fl W ow .i (e :: es) ds)
    (hn2 : x ≠ "__name__" := by decide) (hdb : (x == ("__debug__" : Str)) = false := by decide)
    (he : starEach (e :: es) X.env = (false, eval e X.env) :: starEach es X.env := by rfl) (hpl : (backTo pos (starEach es X.env)).any (·.1) = false := by rfl) : DF X fl W ow (.Call (.Name x p) (e :: es) [] pos) (fun dl => ds dl >>= fun l => nx (f l)) :=
  df_call (fun _ q => pe_callTy hc hg hn hv q hn2 hdb he hpl) ho ha

/-! ### len, int, min, max -/
def dLen : List D → R D
  | [.tup l] => .ok (.int l.length)
  | [.lst l] => .ok (.int l.length)
  | [.frz l] => .ok (.int l.length)
  | [.str z] => if z.length ≤ sizeLine then .ok (.int z.length) else .bad
  | _ => .bad
theorem paired1 {α β : Type} {F : α → β → Prop} {vs : List α} {d : β} (h : Paired F vs [d]) : ∃ v, vs = [v] ∧ F v d := by
  cases h with | cons h r => cases r; exact ⟨_, rfl, h⟩
theorem paired2 {α β : Type} {F : α → β → Prop} {vs : List α} {d d' : β} (h : Paired F vs [d, d']) : ∃ v v', vs = [v, v'] ∧ F v d ∧ F v' d' := by
  cases h with | cons h r => cases r with | cons h' r => cases r; exact ⟨_, _, rfl, h, h'⟩
theorem o_len {G : Gx} : OpL G false (fun xs H Q => ∃ x n, xs = [x] ∧ LenV G.K x H n ∧ Q (.int n) H) dLen := by
  intro H P P' vs l Q _ hP r0 h
  unfold dLen at h
  split at h
  · obtain ⟨v, rfl, r⟩ := paired1 r0
    obtain ⟨p, xs, rfl, hx, zx, rx⟩ := r.tup'
    exact ⟨_, _, rfl, .inr ⟨xs, hx, rfl⟩, h _ H (.refl H) (by rw [rx.length]; exact .int _)⟩
  · obtain ⟨v, rfl, r⟩ := paired1 r0
    obtain ⟨p, xs, rfl, hx, zx, rx⟩ := r.lst'
    exact ⟨_, _, rfl, .inl ⟨xs, .of hx, rfl⟩, h _ H (.refl H) (by rw [rx.length]; exact .int _)⟩
  · obtain ⟨v, rfl, r⟩ := paired1 r0
    obtain ⟨p, xs, rfl, hx, zx, rx⟩ := r.frz'
    exact ⟨_, _, rfl, .inl ⟨xs, hx.sq, rfl⟩, h _ H (.refl H) (by rw [rx.length]; exact .int _)⟩
  · obtain ⟨v, rfl, r⟩ := paired1 r0
    cases r.str'
    split at h
    · rename_i z
      exact ⟨_, _, rfl, ⟨z, rfl⟩, h _ H (.refl H) (.int _)⟩
    · exact h.elim
  · exact h.elim
def dInt : List D → R D
  | [.int i] => .ok (.int i)
  | [.bl b] => .ok (.int (if b then 1 else 0))
  | _ => .bad
theorem o_int {G : Gx} : OpL G false (fun xs H Q => (∃ i, xs = [.int i] ∧ Q (.int i) H) ∨ ∃ k, xs = [.bl k] ∧ Q (.int (if k then 1 else 0)) H) dInt := by
  intro H P P' vs l Q _ hP r0 h
  unfold dInt at h
  split at h
  · obtain ⟨v, rfl, r⟩ := paired1 r0
    cases r.int'
    exact .inl ⟨_, rfl, h _ H (.refl H) (.int _)⟩
  · obtain ⟨v, rfl, r⟩ := paired1 r0
    cases r.bl'
    exact .inr ⟨_, rfl, h _ H (.refl H) (.int _)⟩
  · exact h.elim
def dMin2 : List D → R D
  | [.int i, .int j] => .ok (.int (if j < i then j else i))
  | _ => .bad
def dMax2 : List D → R D
  | [.int i, .int j] => .ok (.int (if j > i then j else i))
  | _ => .bad
theorem o_min2 {G : Gx} : OpL G false (fun xs H Q => ∃ i j, xs = [.int i, .int j] ∧ Q (.int (if j < i then j else i)) H) dMin2 := by
  intro H P P' vs l Q _ hP r0 h
  unfold dMin2 at h
  split at h
  · obtain ⟨v, v', rfl, r, r'⟩ := paired2 r0
    cases r.int'; cases r'.int'
    exact ⟨_, _, rfl, h _ H (.refl H) (.int _)⟩
  · exact h.elim
theorem o_max2 {G : Gx} : OpL G false (fun xs H Q => ∃ i j, xs = [.int i, .int j] ∧ Q (.int (if j > i then j else i)) H) dMax2 := by
  intro H P P' vs l Q _ hP r0 h
  unfold dMax2 at h
  split at h
  · obtain ⟨v, v', rfl, r, r'⟩ := paired2 r0
    cases r.int'; cases r'.int'
    exact ⟨_, _, rfl, h _ H (.refl H) (.int _)⟩
  · exact h.elim

/-! ### lists of ints, of bools -/
def unI : List D → Option (List Int)
  | [] => some []
  | .int i :: l => (unI l).map (i :: ·)
  | _ => none
def unB : List D → Option (List Bool)
  | [] => some []
  | .bl i :: l => (unB l).map (i :: ·)
  | _ => none
theorem unI_v {G : Gx} {H : Hp} {P : Addr → Prop} : ∀ {vs : List V} {l : List D} {ns : List Int}, RpAll G H P vs l → unI l = some ns → vs = ns.map V.int
  | _, _, _, .nil, e => by simp [unI] at e; subst e; rfl
  | _, _, ns, .cons h r, e => by
    unfold unI at e
    split at e
    · cases e; rename_i q; cases q
    · rename_i q; cases q
      cases z : unI _ with
      | none => rw [z] at e; cases e
      | some l => rw [z] at e; cases e; cases h; rw [unI_v r z]; rfl
    · cases e
theorem unB_v {G : Gx} {H : Hp} {P : Addr → Prop} : ∀ {vs : List V} {l : List D} {ns : List Bool}, RpAll G H P vs l → unB l = some ns → vs = ns.map V.bl
  | _, _, _, .nil, e => by simp [unB] at e; subst e; rfl
  | _, _, ns, .cons h r, e => by
    unfold unB at e
    split at e
    · cases e; rename_i q; cases q
    · rename_i q; cases q
      cases z : unB _ with
      | none => rw [z] at e; cases e
      | some l => rw [z] at e; cases e; cases h; rw [unB_v r z]; rfl
    · cases e
theorem unI_map (ns : List Int) : unI (ns.map D.int) = some ns := by
  induction ns with
  | nil => rfl
  | cons n ns ih => simp [unI, ih]
theorem unB_map (ns : List Bool) : unB (ns.map D.bl) = some ns := by
  induction ns with
  | nil => rfl
  | cons n ns ih => simp [unB, ih]
def dAll : List D → R D
  | [.lst l] => match unB l with | some bs => .ok (.bl (bs.all id)) | none => .bad
  | _ => .bad
def dAny : List D → R D
  | [.lst l] => match unB l with | some bs => .ok (.bl (bs.any id)) | none => .bad
  | _ => .bad
theorem o_all {G : Gx} : OpL G false (rAll G.K) dAll := by
  intro H P P' vs l Q _ hP r0 h
  unfold dAll at h
  split at h
  · obtain ⟨v, rfl, r⟩ := paired1 r0
    obtain ⟨p, xs, rfl, hx, zx, rx⟩ := r.lst'
    split at h
    · rename_i bs e
      refine ⟨p, bs, rfl, ?_, h _ H (.refl H) (.bl _)⟩
      rw [← unB_v rx e]; exact .of hx
    · exact h.elim
  · exact h.elim
theorem o_any {G : Gx} : OpL G false (rAny G.K) dAny := by
  intro H P P' vs l Q _ hP r0 h
  unfold dAny at h
  split at h
  · obtain ⟨v, rfl, r⟩ := paired1 r0
    obtain ⟨p, xs, rfl, hx, zx, rx⟩ := r.lst'
    split at h
    · rename_i bs e
      refine ⟨p, bs, rfl, ?_, h _ H (.refl H) (.bl _)⟩
      rw [← unB_v rx e]; exact .of hx
    · exact h.elim
  · exact h.elim
def dSum : List D → R D
  | [.lst l] => match unI l with | some ns => .ok (.int ns.sum) | none => .bad
  | _ => .bad
theorem o_sum {G : Gx} : OpL G false (rSum G.K) dSum := by
  intro H P P' vs l Q _ hP r0 h
  unfold dSum at h
  split at h
  · obtain ⟨v, rfl, r⟩ := paired1 r0
    obtain ⟨p, xs, rfl, hx, zx, rx⟩ := r.lst'
    split at h
    · rename_i bs e
      refine ⟨p, bs, rfl, ?_, h _ H (.refl H) (.int _)⟩
      rw [← unI_v rx e]; exact .of hx
    · exact h.elim
  · exact h.elim
/-! ### tuple(..), list(..) -/
def dTuple : List D → R D
  | [.lst l] => .ok (.tup l)
  | [.frz l] => .ok (.tup l)
  | [.tup l] => .ok (.tup l)
  | _ => .bad
theorem o_tuple {G : Gx} : OpL G true (fun xs H Q => ∃ p ys, xs = [.ref p] ∧ ((SqL G.K H p ys ∧ ∀ l, H l = none → Q (.ref l) (upd H l (.tup ys))) ∨ (SqT G.K H p ys ∧ Q (.ref p) H))) dTuple := by
  intro H P P' vs l Q hk hP r0 h
  obtain rfl := hk rfl
  unfold dTuple at h
  split at h
  · obtain ⟨v, rfl, r⟩ := paired1 r0
    obtain ⟨p, xs, rfl, hx, zx, rx⟩ := r.lst'
    exact ⟨p, xs, rfl, .inl ⟨.of hx, fun q hq => h _ _ (same_new hq) (rp_new_tup hq rx (by rw [← rx.length]; exact zx))⟩⟩
  · obtain ⟨v, rfl, r⟩ := paired1 r0
    obtain ⟨p, xs, rfl, hx, zx, rx⟩ := r.frz'
    exact ⟨p, xs, rfl, .inl ⟨hx.sq, fun q hq => h _ _ (same_new hq) (rp_new_tup hq rx (by rw [← rx.length]; exact zx))⟩⟩
  · obtain ⟨v, rfl, r⟩ := paired1 r0
    obtain ⟨p, xs, rfl, hx, zx, rx⟩ := r.tup'
    exact ⟨p, xs, rfl, .inr ⟨hx, h _ H (.refl H) r.tupR⟩⟩
  · exact h.elim
def dList : List D → R D
  | [.lst l] => .ok (.lst l)
  | [.frz l] => .ok (.lst l)
  | [.tup l] => .ok (.lst l)
  | _ => .bad
theorem o_list {G : Gx} : OpL G true (fun xs H Q => ∃ p ys, xs = [.ref p] ∧ (SqL G.K H p ys ∨ SqT G.K H p ys) ∧ ∀ l, H l = none → Q (.ref l) (upd H l (.lst ys))) dList := by
  intro H P P' vs l Q hk hP r0 h
  obtain rfl := hk rfl
  unfold dList at h
  split at h
  · obtain ⟨v, rfl, r⟩ := paired1 r0
    obtain ⟨p, xs, rfl, hx, zx, rx⟩ := r.lst'
    exact ⟨p, xs, rfl, .inl (.of hx), fun q hq => h _ _ (same_new hq) (rp_new_lst hP hq rx (by rw [← rx.length]; exact zx))⟩
  · obtain ⟨v, rfl, r⟩ := paired1 r0
    obtain ⟨p, xs, rfl, hx, zx, rx⟩ := r.frz'
    exact ⟨p, xs, rfl, .inl hx.sq, fun q hq => h _ _ (same_new hq) (rp_new_lst hP hq rx (by rw [← rx.length]; exact zx))⟩
  · obtain ⟨v, rfl, r⟩ := paired1 r0
    obtain ⟨p, xs, rfl, hx, zx, rx⟩ := r.tup'
    exact ⟨p, xs, rfl, .inr hx, fun q hq => h _ _ (same_new hq) (rp_new_lst hP hq rx (by rw [← rx.length]; exact zx))⟩
  · exact h.elim
theorem o_listF {G : Gx} : OpLF G (fun xs H Q => ∃ p ys, xs = [.ref p] ∧ (SqL G.K H p ys ∨ SqT G.K H p ys) ∧ ∀ l, H l = none → Q (.ref l) (upd H l (.lst ys))) dList := by
  intro H P vs l Q hP r0 h
  unfold dList at h
  split at h
  · obtain ⟨v, rfl, r⟩ := paired1 r0
    obtain ⟨p, xs, rfl, hx, zx, rx⟩ := r.lst'
    exact ⟨p, xs, rfl, .inl (.of hx), fun q hq => h q _ hq (same_new hq) (own_new hq rx (by rw [← rx.length]; exact zx))⟩
  · obtain ⟨v, rfl, r⟩ := paired1 r0
    obtain ⟨p, xs, rfl, hx, zx, rx⟩ := r.frz'
    exact ⟨p, xs, rfl, .inl hx.sq, fun q hq => h q _ hq (same_new hq) (own_new hq rx (by rw [← rx.length]; exact zx))⟩
  · obtain ⟨v, rfl, r⟩ := paired1 r0
    obtain ⟨p, xs, rfl, hx, zx, rx⟩ := r.tup'
    exact ⟨p, xs, rfl, .inr hx, fun q hq => h q _ hq (same_new hq) (own_new hq rx (by rw [← rx.length]; exact zx))⟩
  · exact h.elim
/-! ### range as a value for list, tuple -/
def rgD (a b : Int) : List D := (List.range (b - a).toNat).map fun (i : Nat) => D.int (a + (i : Int))
theorem rg_rp {G : Gx} {H : Hp} {P : Addr → Prop} (a b : Int) : RpAll G H P (rgV a b) (rgD a b) := by
  unfold rgV rgD
  generalize (b - a).toNat = n
  generalize List.range n = l
  induction l with
  | nil => exact .nil
  | cons x l ih => exact .cons (.int _) ih
theorem rgD_length (a b : Int) : (rgD a b).length = (b - a).toNat := by unfold rgD; rw [List.length_map, List.length_range]
def DRg (X : Cx) (fl : Str → List Str) (W : WX) (ow : List Bool) (e : Expr) (den : Env → R (Int × Int)) : Prop :=
  ∃ t, PRg X e t ∧ ∀ av H0 hs dl st H Q, ER (gx X fl) av H0 hs ow dl st H → Asks (den dl) (fun o => ∀ H', Same H H' → Q o.1 o.2 H') (EX (gx X fl) H W st) → t st H Q
def asInt : D → R Int
  | .int i => .ok i
  | _ => .bad
theorem asInt_some {d : D} {K : Int → Prop} {E : Str → Prop} (h : Asks (asInt d) K E) : ∃ b, d = .int b ∧ K b := by
  unfold asInt at h; split at h
  · exact ⟨_, rfl, h⟩
  · exact h.elim
theorem drg_1 (hn : X.mg "range" = none) (hg : Gl X "range") (ha : DE X fl W ow .f a da) (na : starEach [a] X.env = (false, eval a X.env) :: starEach [] X.env := by rfl) : DRg X fl W ow (.Call (.Name "range" p) [a] [] pos) (fun dl => da dl >>= asInt >>= fun n => .ok (0, n)) := by
  obtain ⟨t, q1, k⟩ := ha
  refine ⟨_, prg_1 hg hn q1 na, fun av H0 hs dl st H Q e q => k av H0 hs dl st H _ e (q.bind.bind.mono (fun d _ w v H1 s r => ?_) fun _ z => z)⟩
  obtain ⟨n, rfl, w⟩ := asInt_some w
  exact ⟨n, r.toI.int', w H1 s⟩
def rgOk (a b : Int) : Bool := decide (a.natAbs < 4611686018427387904) && decide (b.natAbs < 4611686018427387904) && decide ((b - a).toNat ≤ 16777216)
theorem rgOk_of {a b : Int} (h : rgOk a b = true) : RgOk a b := by
  unfold rgOk at h
  simp only [Bool.and_eq_true, decide_eq_true_eq] at h
  exact ⟨by omega, by omega, by omega, by omega, h.2⟩
def mkRg (f : List D → D) (o : Int × Int) : R D := if rgOk o.1 o.2 then .ok (f (rgD o.1 o.2)) else .bad
theorem mkRg_some {f : List D → D} {o : Int × Int} {K : D → Prop} {E : Str → Prop} (h : Asks (mkRg f o) K E) : RgOk o.1 o.2 ∧ K (f (rgD o.1 o.2)) := by
  unfold mkRg at h; split at h
  · rename_i z; exact ⟨rgOk_of z, h⟩
  · exact h.elim
theorem rgLine {a b : Int} (h : RgOk a b) : (rgD a b).length ≤ sizeLine := by rw [rgD_length, sizeLine_eq]; exact h.2.2.2.2
theorem df_listRg {dr : Env → R (Int × Int)} (hc : X.calm = true) (hn : X.mg "list" = none) (hg : Gl X "list") (hr : DRg X fl W ow a dr) (na : starEach [a] X.env = (false, eval a X.env) :: starEach [] X.env := by rfl) : DF X fl W ow (.Call (.Name "list" p) [a] [] pos) (fun dl => dr dl >>= mkRg .lst) := by
  obtain ⟨t, q1, k⟩ := hr
  refine ⟨_, pe_listRg hc hg hn q1 na, fun av H0 hs dl st H Q e q => k av H0 hs dl st H _ e (q.bind.mono (fun d _ w H1 s => ?_) fun _ z => z)⟩
  obtain ⟨ok, w⟩ := mkRg_some w
  exact ⟨ok, fun q hq => w q _ (s.free hq) (s.trans (same_new hq)) (own_new hq (rg_rp _ _) (rgLine ok))⟩
theorem de_tupRg {dr : Env → R (Int × Int)} (hc : X.calm = true) (hn : X.mg "tuple" = none) (hg : Gl X "tuple") (hr : DRg X fl W ow a dr) (na : starEach [a] X.env = (false, eval a X.env) :: starEach [] X.env := by rfl) : DE X fl W ow m (.Call (.Name "tuple" p) [a] [] pos) (fun dl => dr dl >>= mkRg .tup) := by
  obtain ⟨t, q1, k⟩ := hr
  refine ⟨_, pe_tupRg hc hg hn q1 na, fun av H0 hs dl st H Q e q => k av H0 hs dl st H _ e (q.bind.mono (fun d _ w H1 s => ?_) fun _ z => z)⟩
  obtain ⟨ok, w⟩ := mkRg_some w
  exact ⟨ok, fun q hq => w _ _ (s.trans (same_new hq)) (Rp.toM (rp_new_tup hq (rg_rp _ _) (rgLine ok)))⟩
end
end DL

/-! The data layer: what is walked; comprehensions. -/
namespace DL
open PySem PySem.Spec PyProof.Rows L2

/-- at this heap the iterator gives the items -/
def JStep (G : Gx) (J : It) (ds : List D) (P : Addr → Prop) (H : Hp) : Prop :=
  (∀ (i : Nat) (d : D), ds[i]? = some d → J.go i H ∧ ∀ x H3, J.yld i H x H3 → Same H H3 ∧ Rp G H3 P x d) ∧ ∀ i : Nat, ds.length ≤ i → J.stop i H
/-- nothing but what is in P has changed -/
def Keep (P : Addr → Prop) (H H' : Hp) : Prop := ∀ b o, H b = some o → (isM o = true → ¬ P b) → H' b = some o
theorem Keep.of {P : Addr → Prop} {H H' : Hp} (s : Same H H') : Keep P H H' := fun b o e _ => s b o e
theorem Keep.mv {P P' P2 : Addr → Prop} {H H' : Hp} (k : Keep P H H') (h : ∀ b, P b → P' b) (h2 : ∀ b, P2 b → P' b ∨ H b = none) : Mv H P' H' P2 := fun b o e n => ⟨k b o e fun m q => n m (h b q), fun m q => (h2 b q).elim (n m) fun z => by rw [e] at z; cases z⟩

section
variable {X : Cx} {fl : Str → List Str} {W : WX} {ow : List Bool} {m : Md} {e a b c tg iter : Expr} {es : List Expr} {da db dc : Env → R D} {ds : Env → R (List D)} {pos : Pos}
/-- what a for walks: held as it stands -/
def DH (X : Cx) (fl : Str → List Str) (W : WX) (ow : List Bool) (tg iter : Expr) (den : Env → R (List D)) : Prop :=
  ∃ wi, PI X tg iter wi ∧ ∀ av H0 hs dl st H (Rr : It → Hp → Prop), ER (gx X fl) av H0 hs ow dl st H →
    Asks (den dl) (fun l => ∀ (J : It) (H' : Hp) (more : List (V × D)), Same H H' → (∀ p ∈ more, Rp (gx X fl) H' (avo av ow dl st) p.1 p.2) → (∀ P H2, (∀ p ∈ more, Rp (gx X fl) H2 P p.1 p.2) → JStep (gx X fl) J l P H2) → Rr J H') (EX (gx X fl) H W st) → wi st H Rr
/-- what a comprehension walks -/
def DI (X : Cx) (fl : Str → List Str) (W : WX) (ow : List Bool) (tg iter : Expr) (den : Env → R (List D)) : Prop :=
  ∃ wi, PI X tg iter wi ∧ ∀ av H0 hs dl st H (Rr : It → Hp → Prop), ER (gx X fl) av H0 hs ow dl st H →
    Asks (den dl) (fun l => ∀ (J : It) (H' : Hp), Same H H' → (∀ (P : Addr → Prop) H2, Keep av H' H2 → (∀ b, P b → avo av ow dl st b ∨ H' b = none) → JStep (gx X fl) J l P H2) → Rr J H') (EX (gx X fl) H W st) → wi st H Rr
theorem DH.di (h : DH X fl W ow tg iter ds) : DI X fl W ow tg iter ds := by
  obtain ⟨t, p, k⟩ := h
  refine ⟨t, p, fun av H0 hs dl st H Rr e q => k av H0 hs dl st H Rr e (q.mono (fun l _ w J H' more s h1 h2 => ?_) fun _ z => z)⟩
  exact w J H' s fun P H2 kp hp2 => h2 P H2 fun p hp => (h1 p hp).mv (kp.mv (fun b z => .inl z) hp2)
def iSeq (K : PySem.W.Frag) (tl : TE) : TI := fun σ H R => tl σ H fun x H1 => (∃ a, x = .ref a ∧ (∃ xs, SqL K H1 a xs) ∧ R (Itl K a) H1) ∨ (∃ a, x = .ref a ∧ (∃ xs, SqT K H1 a xs) ∧ R (Itt K a) H1) ∨ (∃ y, x = .str y ∧ R (Its y) H1)
theorem pi_seq {l : Expr} {tl : TE} (hl : PE X l tl) : PI X tg l (iSeq X.K tl) := by
  refine ⟨fun pins s σ H R I h => ?_⟩
  refine thn (hl.run pins s σ H _ I h) fun v s1 ⟨x, H1, I1, r1, q1⟩ => ?_
  rcases q1 with ⟨a, e, hq, q⟩ | ⟨a, e, hq, q⟩ | ⟨y, e, q⟩
  · subst e
    cases r1
    obtain ⟨xs, hq⟩ := hq
    obtain ⟨its, rv, p, hz⟩ := I1.list hq
    refine wpAny_pyIter_list p.isList ?_
    refine ⟨s1.heap.objs.size, [s1.heap.objs.size], _, _, H1, rfl, I1.kept (t' := s1.toks) fun b o e => Heap.get?_push_of_some _ e, turn_list a _, ⟨_, Heap.get?_push_size _ rfl, rfl, rfl⟩, fun b hb => ?_, q⟩
    have e : b = s1.heap.objs.size := by simpa using hb
    subst e
    exact I1.fpOk (Nat.le_refl _) (I1.hok.fresh (Nat.le_refl _))
  · subst e
    cases r1
    obtain ⟨xs, hq⟩ := hq
    obtain ⟨its, rv, p, hz⟩ := I1.tuple hq
    refine wpAny_pyIter_tuple (show s1.heap.IsTuple a its.toArray from p) ?_
    refine ⟨s1.heap.objs.size, [s1.heap.objs.size], _, _, H1, rfl, I1.kept (t' := s1.toks) fun b o e => Heap.get?_push_of_some _ e, turn_tuple a _, ⟨_, Heap.get?_push_size _ rfl, rfl, rfl⟩, fun b hb => ?_, q⟩
    have e : b = s1.heap.objs.size := by simpa using hb
    subst e
    exact I1.fpOk (Nat.le_refl _) (I1.hok.fresh (Nat.le_refl _))
  · subst e
    obtain ⟨t, rfl⟩ := r1
    cases ha : y.cps.all (· < 128)
    · exact wpAny_pyIter_wide ha (pi_one (tk := s1.toks) I1 _ (turn_str _ y t "str_iterator" (.inr rfl)) ⟨_, Heap.get?_push_size _ rfl, rfl, rfl⟩ q)
    · exact wpAny_pyIter_ascii ha (pi_one (tk := s1.toks) I1 _ (turn_str _ y t "str_ascii_iterator" (.inl rfl)) ⟨_, Heap.get?_push_size _ rfl, rfl, rfl⟩ q)

/-! ### the steps of the walks -/
theorem js_list {G : Gx} {P : Addr → Prop} {H : Hp} {a : Addr} {xs : List V} {l : List D} (h : H a = some (.lst xs)) (r : RpAll G H P xs l) : JStep G (Itl G.K a) l P H := by
  refine ⟨fun i d hd => ?_, fun i hi => ⟨xs, .of h, by rw [r.length]; exact hi⟩⟩
  obtain ⟨v, e1, e2⟩ := r.get hd
  refine ⟨⟨xs, v, .of h, e1⟩, fun x H3 y => ?_⟩
  obtain ⟨rfl, y⟩ := y
  rw [y xs (.of h)] at e1; cases e1
  exact ⟨.refl _, e2⟩
theorem js_frz {G : Gx} {P : Addr → Prop} {H : Hp} {a : Addr} {xs : List V} {l : List D} (h : SqF G.K H a xs) (r : RpAll G H P xs l) : JStep G (Itl G.K a) l P H := by
  refine ⟨fun i d hd => ?_, fun i hi => ⟨xs, h.sq, by rw [r.length]; exact hi⟩⟩
  obtain ⟨v, e1, e2⟩ := r.get hd
  refine ⟨⟨xs, v, h.sq, e1⟩, fun x H3 y => ?_⟩
  obtain ⟨rfl, y⟩ := y
  rw [y xs h.sq] at e1; cases e1
  exact ⟨.refl _, e2⟩
theorem js_tup {G : Gx} {P : Addr → Prop} {H : Hp} {a : Addr} {xs : List V} {l : List D} (h : SqT G.K H a xs) (r : RpAll G H P xs l) : JStep G (Itt G.K a) l P H := by
  refine ⟨fun i d hd => ?_, fun i hi => ⟨xs, h, by rw [r.length]; exact hi⟩⟩
  obtain ⟨v, e1, e2⟩ := r.get hd
  refine ⟨⟨xs, v, h, e1⟩, fun x H3 y => ?_⟩
  obtain ⟨rfl, y⟩ := y
  rw [y xs h] at e1; cases e1
  exact ⟨.refl _, e2⟩
def chD (z : Str) : List D := z.cps.toList.map fun c => D.str ⟨#[c]⟩
theorem js_str {G : Gx} {P : Addr → Prop} {H : Hp} {z : Str} : JStep G (Its z) (chD z) P H := by
  refine ⟨fun i d hd => ?_, fun i hi => ?_⟩
  · unfold chD at hd
    rw [List.getElem?_map, Array.getElem?_toList] at hd
    cases q : z.cps[i]? with
    | none => rw [q] at hd; cases hd
    | some c =>
      rw [q] at hd; cases hd
      refine ⟨(Array.getElem?_eq_some_iff.mp q).1, fun x H3 y => ?_⟩
      obtain ⟨rfl, c', e1, rfl⟩ := y
      rw [q] at e1; cases e1
      exact ⟨.refl _, .str _⟩
  · unfold chD at hi
    show z.cps.size ≤ i
    simpa using hi
theorem js_rg {G : Gx} {P : Addr → Prop} {H : Hp} {lo hi : Int} : JStep G (Itr lo (hi - lo).toNat) (rgD lo hi) P H := by
  refine ⟨fun i d hd => ?_, fun i h => by rw [rgD_length] at h; exact h⟩
  unfold rgD at hd
  rw [List.getElem?_map] at hd
  cases q : (List.range (hi - lo).toNat)[i]? with
  | none => rw [q] at hd; cases hd
  | some c =>
    rw [q] at hd; cases hd
    obtain ⟨h1, h2⟩ := List.getElem?_eq_some_iff.mp q
    rw [List.getElem_range] at h2
    subst h2
    rw [List.length_range] at h1
    refine ⟨h1, fun x H3 y => ?_⟩
    obtain ⟨rfl, rfl⟩ := y
    exact ⟨.refl _, .int _⟩
/-- the items of a list, a tuple, a text -/
def dIter : D → R (List D)
  | .lst l => .ok l
  | .tup l => .ok l
  | .frz l => .ok l
  | .str z => .ok (chD z)
  | _ => .bad
theorem dh_seq (h : DE X fl W ow .t iter da) : DH X fl W ow tg iter (fun dl => da dl >>= dIter) := by
  obtain ⟨t, p, k⟩ := h
  refine ⟨_, pi_seq p, fun av H0 hs dl st H Rr e q => k av H0 hs dl st H _ e (q.bind.mono (fun d _ w v H1 s r => ?_) fun _ z => z)⟩
  have r : Rp (gx X fl) H1 (avo av ow dl st) v d := r
  cases d with
  | lst l =>
    cases r with
    | @lst a xs l h z n r => exact .inl ⟨a, rfl, ⟨xs, .of h⟩, w _ H1 [(V.ref a, D.lst l)] s (fun p hp => by simp at hp; subst hp; exact .lst h z n r) fun P H2 hh => by
        have q := hh (V.ref a, D.lst l) (by simp)
        cases q with | lst h z n r => exact js_list h r⟩
  | tup l =>
    cases r with
    | @tup a xs l h z r => exact .inr (.inl ⟨a, rfl, ⟨xs, h⟩, w _ H1 [(V.ref a, D.tup l)] s (fun p hp => by simp at hp; subst hp; exact .tup h z r) fun P H2 hh => by
        have q := hh (V.ref a, D.tup l) (by simp)
        cases q with | tup h z r => exact js_tup h r⟩)
  | frz l =>
    cases r with
    | @lstF a xs l h z r => exact .inl ⟨a, rfl, ⟨xs, h.sq⟩, w _ H1 [(V.ref a, D.frz l)] s (fun p hp => by simp at hp; subst hp; exact .lstF h z r) fun P H2 hh => by
        have q := hh (V.ref a, D.frz l) (by simp)
        cases q with | lstF h z r => exact js_frz h r⟩
  | str z =>
    cases r
    exact .inr (.inr ⟨_, rfl, w _ H1 [] s (fun p hp => by simp at hp) fun P H2 hh => js_str⟩)
  | _ => exact w.elim
/-- an own list, walked by a comprehension -/
theorem di_own {i : Nat} {x : Str} {p' : Pos} (ho : (ow[i]? == some true) = true) (hN : X.N[i]? = some x) (hv : Vis X.env.scope x) (hd : (x == ("__debug__" : Str)) = false := by decide) (hcd : (x == ("__classdict__" : Str)) = false := by decide) : DI X fl W ow tg (.Name x p') (fun dl => gv i dl >>= dIter) := by
  refine ⟨_, pi_seq (pe_var hN hv hd hcd), fun av H0 hs dl st H Rr e q => ?_⟩
  obtain ⟨d, e1, q⟩ := gv_some q.bind
  obtain ⟨a, z1, z2, z3, z4⟩ := e.on i d e1 (by simpa using ho)
  refine ⟨_, z1, ?_⟩
  cases z4 with
  | lst h z r =>
    refine .inl ⟨a, rfl, ⟨_, .of h⟩, q _ H (.refl H) fun P H2 kp hp2 => ?_⟩
    exact js_list (kp a _ h fun _ => z3) (r.mv (kp.mv (fun b z => .inl z) hp2))
  | dct => exact q.elim
  | dcl => exact q.elim
def rgSmall (a b : Int) : Bool := decide (a.natAbs < 4611686018427387904) && decide (b.natAbs < 4611686018427387904)
def mkRgI (a b : Int) : R (List D) := if rgSmall a b then .ok (rgD a b) else .bad
theorem mkRgI_some {a b : Int} {K : List D → Prop} {E : Str → Prop} (h : Asks (mkRgI a b) K E) : (-(2 ^ 62) ≤ a ∧ a < 2 ^ 62 ∧ -(2 ^ 62) ≤ b ∧ b < 2 ^ 62) ∧ K (rgD a b) := by
  unfold mkRgI at h; split at h
  · rename_i z
    unfold rgSmall at z
    simp only [Bool.and_eq_true, decide_eq_true_eq] at z
    exact ⟨⟨by omega, by omega, by omega, by omega⟩, h⟩
  · exact h.elim
theorem dh_rg1 {p : Pos} (hn : X.mg "range" = none) (hg : Gl X "range") (ha : DE X fl W ow .f a da) (hs : starEach [a] X.env = [(false, eval a X.env)] := by rfl) (hs2 : starEach [a] X.env = (false, eval a X.env) :: starEach [] X.env := by rfl) :
    DH X fl W ow tg (.Call (.Name "range" p) [a] [] pos) (fun dl => da dl >>= asInt >>= fun n => mkRgI 0 n) := by
  obtain ⟨t, q1, k⟩ := da_cons ha (da_nil (X := X) (fl := fl) (W := W) (ow := ow)) rfl hs2
  refine ⟨_, pi_range1 hg hn q1 hs, fun av H0 hs dl st H Rr e q => k av H0 hs dl st H _ e ?_⟩
  have q := q.bind.bind
  show Asks (da dl >>= fun d => R.ok [] >>= fun l => R.ok (d :: l)) _ _
  cases ed : da dl with
  | exc c => rw [ed] at q; exact q
  | bad => rw [ed] at q; exact q
  | ok d =>
    rw [ed] at q
    intro vs H1 s r
    obtain ⟨n, rfl, q2⟩ := asInt_some (show Asks (asInt d) _ _ from q)
    obtain ⟨z, q3⟩ := mkRgI_some q2
    have ev : vs = [.int n] := by
      cases r with | cons h r => cases r; cases h; rfl
    refine ⟨n, ev, z.2.2.1, z.2.2.2, ?_⟩
    have := q3 (Itr 0 n.toNat) H1 [] s (fun p hp => by simp at hp) fun P H2 _ => by
      have j := js_rg (G := gx X fl) (P := P) (H := H2) (lo := 0) (hi := n)
      rw [Int.sub_zero] at j
      exact j
    exact this
theorem dh_rg2 {p : Pos} (hn : X.mg "range" = none) (hg : Gl X "range") (ha : DE X fl W ow .f a da) (hb : DE X fl W ow .f b db) (hs : starEach [a, b] X.env = [(false, eval a X.env), (false, eval b X.env)] := by rfl) (hs2 : starEach [b] X.env = [(false, eval b X.env)] := by rfl)
    (hs3 : starEach [a, b] X.env = (false, eval a X.env) :: starEach [b] X.env := by rfl) (hs4 : starEach [b] X.env = (false, eval b X.env) :: starEach [] X.env := by rfl) :
    DH X fl W ow tg (.Call (.Name "range" p) [a, b] [] pos) (fun dl => da dl >>= fun x => db dl >>= fun y => asInt x >>= fun i => asInt y >>= fun j => mkRgI i j) := by
  obtain ⟨t, q1, k⟩ := da_cons ha (da_cons hb (da_nil (X := X) (fl := fl) (W := W) (ow := ow)) rfl hs4) rfl hs3
  refine ⟨_, pi_range2 hg hn q1 hs hs2, fun av H0 hs dl st H Rr e q => k av H0 hs dl st H _ e ?_⟩
  show Asks (da dl >>= fun d => (db dl >>= fun d => R.ok [] >>= fun l => R.ok (d :: l)) >>= fun l => R.ok (d :: l)) _ _
  dsimp only at q
  cases ed : da dl with
  | exc c => rw [ed] at q; exact q
  | bad => rw [ed] at q; exact q
  | ok d =>
    cases ed' : db dl with
    | exc c => rw [ed, ed'] at q; exact q
    | bad => rw [ed, ed'] at q; exact q
    | ok d' =>
      rw [ed, ed'] at q
      intro vs H1 s r
      obtain ⟨i, rfl, q2⟩ := asInt_some (show Asks (asInt d >>= fun i => asInt d' >>= fun j => mkRgI i j) _ _ from q).bind
      obtain ⟨j, rfl, q3⟩ := asInt_some q2.bind
      obtain ⟨z, q4⟩ := mkRgI_some q3
      have ev : vs = [.int i, .int j] := by
        cases r with | cons h r => cases r with | cons h' r => cases r; cases h; cases h'; rfl
      exact ⟨i, j, ev, z, q4 (Itr i (j - i).toNat) H1 [] s (fun p hp => by simp at hp) fun P H2 _ => js_rg⟩
/-! ### targets -/
def wipeE (dl : Env) : List Nat → Env
  | [] => dl
  | v :: vs => (wipeE dl vs).set v none
theorem ER.wipe {G : Gx} {av : Addr → Prop} {H0 : Hp} {hs : List (V × D)} {dl : Env} {st : L2.St} {H : Hp} (e : ER G av H0 hs ow dl st H) : ∀ {vs : List Nat}, (∀ v ∈ vs, ow[v]? ≠ some true) → ER G av H0 hs ow (wipeE dl vs) (L2.wipe st vs) H
  | [], _ => e
  | v :: vs, h => (ER.wipe e fun w hw => h w (List.mem_cons_of_mem _ hw)).drop (h v List.mem_cons_self)
theorem avo_wipe {av : Addr → Prop} {dl : Env} {st : L2.St} : ∀ {vs : List Nat}, (∀ v ∈ vs, ow[v]? ≠ some true) → avo av ow (wipeE dl vs) (L2.wipe st vs) = avo av ow dl st
  | [], _ => rfl
  | v :: vs, h => by
    unfold wipeE L2.wipe
    rw [avo_set (h v List.mem_cons_self)]
    exact avo_wipe fun w hw => h w (List.mem_cons_of_mem _ hw)
theorem wipe_set {st : L2.St} {i : Nat} {x : Option V} : ∀ {vs : List Nat}, i ∈ vs → L2.wipe (st.set i x) vs = L2.wipe st vs
  | [], h => by simp at h
  | v :: vs, h => by
    unfold L2.wipe
    by_cases hi : i ∈ vs
    · rw [wipe_set hi]
    · have hv : i = v := (List.mem_cons.mp h).resolve_right hi
      subst hv
      have aux : ∀ (vs : List Nat), i ∉ vs → L2.wipe (st.set i x) vs = (L2.wipe st vs).set i x := fun vs => by
        induction vs with
        | nil => intro _; rfl
        | cons w ws ih =>
          intro hn
          unfold L2.wipe
          rw [ih fun z => hn (List.mem_cons_of_mem _ z), List.set_comm]
          exact fun z => hn (z ▸ List.mem_cons_self)
      rw [aux vs hi, List.set_set]
theorem wipe_wipe {st : L2.St} : ∀ {us vs : List Nat}, (∀ i ∈ us, i ∈ vs) → L2.wipe (L2.wipe st us) vs = L2.wipe st vs
  | [], _, _ => rfl
  | u :: us, vs, h => by
    show L2.wipe ((L2.wipe st us).set u none) vs = _
    rw [wipe_set (h u List.mem_cons_self)]
    exact wipe_wipe fun i hi => h i (List.mem_cons_of_mem _ hi)
/-- a target; ix: its slots -/
def DG (X : Cx) (fl : Str → List Str) (ow : List Bool) (ix : List Nat) (tg : Expr) (den : D → Env → R Env) : Prop :=
  ∃ g, PG X tg g ∧ ∀ av H0 hs dl st H v d Q, ER (gx X fl) av H0 hs ow dl st H → Rp (gx X fl) H (avo av ow dl st) v d →
    Asks (den d dl) (fun dl' => ∀ st' H', Same H H' → ER (gx X fl) av H0 hs ow dl' st' H' → (∀ vs : List Nat, (∀ i ∈ ix, i ∈ vs) → L2.wipe st' vs = L2.wipe st vs) → avo av ow dl' st' = avo av ow dl st → Q st' H') (fun _ => False) → g v st H Q
def DGs (X : Cx) (fl : Str → List Str) (ow : List Bool) (ix : List Nat) (tgs : List Expr) (den : List D → Env → R Env) : Prop :=
  ∃ g, PGs X tgs g ∧ ∀ av H0 hs dl st H vs ds Q, ER (gx X fl) av H0 hs ow dl st H → RpAll (gx X fl) H (avo av ow dl st) vs ds →
    Asks (den ds dl) (fun dl' => ∀ st' H', Same H H' → ER (gx X fl) av H0 hs ow dl' st' H' → (∀ vs : List Nat, (∀ i ∈ ix, i ∈ vs) → L2.wipe st' vs = L2.wipe st vs) → avo av ow dl' st' = avo av ow dl st → Q st' H') (fun _ => False) → g vs st H Q
def sv (i : Nat) (d : D) (dl : Env) : R Env := .ok (dl.set i (some d))
theorem dg_name {i : Nat} {x : Str} (ho : (ow[i]? == some true) = false) (hN : X.N.Nodup) (hi : X.N[i]? = some x) (hx : Loc X.env.scope x) (hf : X.fn x = true ∨ X.env.scope.names.lookup x = some .local) : DG X fl ow [i] (.Name x pos) (sv i) := by
  refine ⟨_, pg_name hN hi hx hf, fun av H0 hs dl st H v d Q e r q => ?_⟩
  have ho' : ow[i]? ≠ some true := by simpa using ho
  exact q _ H (.refl H) (e.put ho' r) (fun vs h => wipe_set (h i (by simp))) (avo_set ho')
theorem dgs_nil : DGs X fl ow [] [] (fun l dl => match l with | [] => .ok dl | _ => .bad) := by
  refine ⟨_, pgs_nil, fun av H0 hs dl st H vs ds Q e r q => ?_⟩
  cases r with
  | nil => exact ⟨rfl, q st H (.refl H) e (fun _ _ => rfl) rfl⟩
  | cons h r => exact q.elim
theorem dgs_cons {ix ixs : List Nat} {tgs : List Expr} {d1 : D → Env → R Env} {d2 : List D → Env → R Env} (h : DG X fl ow ix e d1) (r : DGs X fl ow ixs tgs d2) (hs : (assignEach (e :: tgs) X.env).map (·.2) = assign e X.env :: (assignEach tgs X.env).map (·.2) := by rfl) :
    DGs X fl ow (ix ++ ixs) (e :: tgs) (fun l dl => match l with | d :: l => d1 d dl >>= d2 l | _ => .bad) := by
  obtain ⟨g, p, k⟩ := h
  obtain ⟨g', p', k'⟩ := r
  refine ⟨_, pgs_cons p p' hs, fun av H0 hs dl st H vs ds Q e r q => ?_⟩
  cases r with
  | nil => exact q.elim
  | cons h r =>
    refine ⟨_, _, rfl, k av H0 hs dl st H _ _ _ e h ((show Asks (d1 _ dl >>= d2 _) _ _ from q).bind.mono (fun dl' _ w st' H' s e' w1 w2 => ?_) fun _ z => z)⟩
    refine k' av H0 hs dl' st' H' _ _ _ e' (by rw [w2]; exact r.sm s) (w.mono (fun dl2 _ y st2 H2 s2 e2 w3 w4 => ?_) fun _ z => z)
    refine y st2 H2 (s.trans s2) e2 (fun vs h => ?_) (w4.trans w2)
    rw [w3 vs fun i hi => h i (List.mem_append_right _ hi), w1 vs fun i hi => h i (List.mem_append_left _ hi)]
def unpk (n : Nat) (f : List D → Env → R Env) (d : D) (dl : Env) : R Env := match d with
  | .tup l => if l.length = n then f l dl else .bad
  | _ => .bad
theorem dg_tup {ix : List Nat} {tgs : List Expr} {k n : Nat} {d2 : List D → Env → R Env} (hc : X.calm = true) (h : DGs X fl ow ix tgs d2) (hn : (assignEach tgs X.env).length = n := by rfl) (hst : (assignEach tgs X.env).findIdx? (·.1) = none := by rfl) :
    DG X fl ow ix (.Tuple tgs k pos) (unpk n d2) := by
  obtain ⟨g, p, k⟩ := h
  refine ⟨_, pg_tup hc p hn hst, fun av H0 hs dl st H v d Q e r q => ?_⟩
  unfold unpk at q
  split at q
  · split at q
    · rename_i z
      cases r with
      | tup h zz r => exact ⟨_, _, rfl, h, r.length.trans z, k av H0 hs dl st H _ _ Q e r q⟩
    · exact q.elim
  · exact q.elim
end
end DL

/-! The data layer: comprehensions. -/
namespace DL
open PySem PySem.Spec PyProof.Rows L2

/-- an object to be kept off is changed (or new) -/
theorem ER.updA {G : Gx} {av : Addr → Prop} {H0 : Hp} {hs : List (V × D)} {ow : List Bool} {dl : Env} {st : L2.St} {H : Hp} {a : Addr} {u : HO} (e : ER G av H0 hs ow dl st H) (h0 : H0 a = none) (ha : av a) (hm : ∀ o, H a = some o → isM o = true) : ER G av H0 hs ow dl st (L2.upd H a u) := by
  have m : Mv H (avo av ow dl st) (L2.upd H a u) (avo av ow dl st) := fun b w h n => by
    have hb : b ≠ a := fun z => by subst z; exact n (hm _ h) (.inl ha)
    exact ⟨by rw [upd_ne hb]; exact h, n⟩
  refine ⟨fun b w h => ?_, fun b h => ?_, e.len, fun j d h1 h2 => ?_, fun j d h1 h2 => ?_, e.ds, fun p hp => (e.hd p hp).mv m⟩
  · have hb : b ≠ a := fun z => by subst z; rw [h0] at h; cases h
    rw [upd_ne hb]; exact e.same b w h
  · obtain ⟨w, q⟩ := e.avh b h
    by_cases hb : b = a
    · subst hb; exact ⟨u, upd_same⟩
    · exact ⟨w, by rw [upd_ne hb]; exact q⟩
  · obtain ⟨v, z1, z2⟩ := e.pl j d h1 h2
    exact ⟨v, z1, z2.mv m⟩
  · obtain ⟨a2, z1, z2, z3, z4⟩ := e.on j d h1 h2
    refine ⟨a2, z1, z2, z3, z4.mv m fun w z => ?_⟩
    have hb : a2 ≠ a := fun y => z3 (y ▸ ha)
    rw [upd_ne hb]; exact z
/-- nothing but an object to be kept off has changed -/
theorem ER.moved {G : Gx} {av : Addr → Prop} {H0 : Hp} {hs : List (V × D)} {ow : List Bool} {dl : Env} {st : L2.St} {H H' : Hp} {a : Addr} (e : ER G av H0 hs ow dl st H) (k : ∀ b o, H b = some o → b ≠ a → H' b = some o) (ha : av a) (h0 : H0 a = none) (hm : ∃ o, H a = some o ∧ isM o = true) (ht : ∃ o, H' a = some o) : ER G av H0 hs ow dl st H' := by
  obtain ⟨oa, ea, ma⟩ := hm
  have m : Mv H (avo av ow dl st) H' (avo av ow dl st) := fun b w h n => by
    have hb : b ≠ a := fun z => by subst z; rw [ea] at h; cases h; exact n ma (.inl ha)
    exact ⟨k b w h hb, n⟩
  refine ⟨fun b w h => ?_, fun b h => ?_, e.len, fun j d h1 h2 => ?_, fun j d h1 h2 => ?_, e.ds, fun p hp => (e.hd p hp).mv m⟩
  · have hb : b ≠ a := fun z => by subst z; rw [h0] at h; cases h
    exact k b w (e.same b w h) hb
  · by_cases hb : b = a
    · subst hb; exact ht
    · obtain ⟨w, q⟩ := e.avh b h
      exact ⟨w, k b w q hb⟩
  · obtain ⟨v, z1, z2⟩ := e.pl j d h1 h2
    exact ⟨v, z1, z2.mv m⟩
  · obtain ⟨a2, z1, z2, z3, z4⟩ := e.on j d h1 h2
    exact ⟨a2, z1, z2, z3, z4.mv m fun w z => k _ _ z fun y => z3 (y ▸ ha)⟩
theorem avo_more {av : Addr → Prop} {ow : List Bool} {dl : Env} {st : L2.St} {p : Addr} : avo (fun b => av b ∨ b = p) ow dl st = fun b => avo av ow dl st b ∨ b = p := by
  funext b
  refine propext ⟨fun h => ?_, fun h => ?_⟩
  · rcases h with (h | h) | h
    · exact .inl (.inl h)
    · exact .inr h
    · exact .inl (.inr h)
  · rcases h with (h | h) | h
    · exact .inl (.inl h)
    · exact .inr h
    · exact .inl (.inr h)
/-- a new object comes to be kept off -/
theorem ER.more {G : Gx} {av : Addr → Prop} {H0 : Hp} {hs : List (V × D)} {ow : List Bool} {dl : Env} {st : L2.St} {H : Hp} {p : Addr} {u : HO} (e : ER G av H0 hs ow dl st H) (hp : H p = none) : ER G (fun b => av b ∨ b = p) H0 hs ow dl st (L2.upd H p u) := by
  have m : Mv H (avo av ow dl st) (L2.upd H p u) (avo (fun b => av b ∨ b = p) ow dl st) := fun b w h n => by
    have hb : b ≠ p := fun z => by subst z; rw [hp] at h; cases h
    refine ⟨by rw [upd_ne hb]; exact h, fun hm z => ?_⟩
    rw [avo_more] at z
    exact z.elim (n hm) hb
  refine ⟨e.same.trans (same_new hp), fun b h => ?_, e.len, fun j d h1 h2 => ?_, fun j d h1 h2 => ?_, e.ds, fun q hq => (e.hd q hq).mv m⟩
  · rcases h with h | rfl
    · obtain ⟨w, q⟩ := e.avh b h
      exact ⟨w, same_new hp _ _ q⟩
    · exact ⟨u, upd_same⟩
  · obtain ⟨v, z1, z2⟩ := e.pl j d h1 h2
    exact ⟨v, z1, z2.mv m⟩
  · obtain ⟨a2, z1, z2, z3, z4⟩ := e.on j d h1 h2
    obtain ⟨o, q⟩ := z4.some
    have hb : a2 ≠ p := fun z => by subst z; rw [hp] at q; cases q
    exact ⟨a2, z1, z2, fun z => z.elim z3 hb, z4.mv m fun w z => same_new hp _ _ z⟩

abbrev W0 : WX := fun _ _ _ _ => False
def TTs (G : Gx) (ow : List Bool) (den : Env → R Bool) : TT := fun st H Q => ∃ av H0 hs dl, ER G av H0 hs ow dl st H ∧ Asks (den dl) (OkT H Q) (fun _ => False)
/-- a clause's tests -/
def DTs (X : Cx) (fl : Str → List Str) (ow : List Bool) (ifs : List Expr) (den : Env → R Bool) : Prop :=
  PTs X ifs (TTs (gx X fl) ow den)
def TD (G : Gx) (ow : List Bool) (den : Env → R D) : TE := fun st H Q => ∃ av H0 hs dl, ER G av H0 hs ow dl st H ∧ Asks (den dl) (OkV G H (avo av ow dl st) .t Q) (fun _ => False)
def TI' (G : Gx) (ow : List Bool) (den : Env → R (List D)) : TI := fun st H Rr => ∃ av H0 hs dl, ER G av H0 hs ow dl st H ∧ Asks (den dl) (fun l => ∀ (J : It) (H' : Hp), Same H H' → (∀ (P : Addr → Prop) H2, Keep av H' H2 → (∀ b, P b → avo av ow dl st b ∨ H' b = none) → JStep G J l P H2) → Rr J H') (fun _ => False)
def TGd (G : Gx) (ow : List Bool) (ix : List Nat) (den : D → Env → R Env) : TG := fun v st H Q => ∃ av H0 hs dl d, ER G av H0 hs ow dl st H ∧ Rp G H (avo av ow dl st) v d ∧
  Asks (den d dl) (fun dl' => ∀ st' H', Same H H' → ER G av H0 hs ow dl' st' H' → (∀ vs : List Nat, (∀ i ∈ ix, i ∈ vs) → L2.wipe st' vs = L2.wipe st vs) → avo av ow dl' st' = avo av ow dl st → Q st' H') (fun _ => False)
section
variable {X : Cx} {fl : Str → List Str} {W : WX} {ow : List Bool} {m : Md} {e a b c tg iter elt : Expr} {es ifs : List Expr} {da db dc el : Env → R D} {src : Env → R (List D)} {tgt : D → Env → R Env} {tst : Env → R Bool} {ix : List Nat} {pos : Pos}
theorem ex0 {G : Gx} {H : Hp} {st : L2.St} {c : Str} (h : False) : EX G H W st c := h.elim
theorem DE.td (h : DE X fl W ow .t e da) : PE X e (TD (gx X fl) ow da) := by
  obtain ⟨t, p, k⟩ := h
  refine ⟨fun pins s st H Q I ⟨av, H0, hs, dl, er, q⟩ => p.run pins s st H Q I (k av H0 hs dl st H Q er (q.mono (fun _ _ z => z) fun _ z => z.elim))⟩
theorem DI.td (h : DI X fl W ow tg iter src) : PI X tg iter (TI' (gx X fl) ow src) := by
  obtain ⟨t, p, k⟩ := h
  refine ⟨fun pins s st H Q I ⟨av, H0, hs, dl, er, q⟩ => p.run pins s st H Q I (k av H0 hs dl st H Q er (q.mono (fun _ _ z => z) fun _ z => z.elim))⟩
theorem DG.td (h : DG X fl ow ix tg tgt) : PG X tg (TGd (gx X fl) ow ix tgt) := by
  obtain ⟨t, p, k⟩ := h
  refine ⟨fun pins s st H v u Q I rv ⟨av, H0, hs, dl, d, er, r, q⟩ => p.run pins s st H v u Q I rv (k av H0 hs dl st H v d Q er r q)⟩
theorem dts_nil : DTs X fl ow [] (fun _ => .ok true) := ⟨fun pins s st H Q I ⟨av, H0, hs, dl, er, q⟩ => (pts_nil (X := X)).run pins s st H Q I (q H (.refl H))⟩
theorem dts_one {c : Expr} {tc : Env → R Bool} (h : DT X fl W ow c tc) : DTs X fl ow [c] tc := by
  obtain ⟨t, p, k⟩ := h
  exact ⟨fun pins s st H Q I ⟨av, H0, hs, dl, er, q⟩ => (pts_one p).run pins s st H Q I (k av H0 hs dl st H Q er (q.mono (fun _ _ z => z) fun _ z => z.elim))⟩

/-- what a comprehension gathers -/
def nxA {α : Type} (r : R α) : R α := match r with | .ok d => .ok d | _ => .bad
theorem nxA_asks {α : Type} {r : R α} {K : α → Prop} {E : Str → Prop} (h : Asks (nxA r) K E) : Asks r K (fun _ => False) := by
  cases r with
  | ok d => exact h
  | exc c => exact h.elim
  | bad => exact h.elim
def comp (tgt : D → Env → R Env) (tst : Env → R Bool) (el : Env → R D) (dl : Env) : List D → R (List D)
  | [] => .ok []
  | d :: l => nxA (tgt d dl) >>= fun dl' => nxA (tst dl') >>= fun k => if k then nxA (el dl') >>= fun y => comp tgt tst el dl l >>= fun ys => .ok (y :: ys) else comp tgt tst el dl l

/-- gathering: from acc on, the rest is appended -/
theorem gather {G : Gx} {avD : Addr → Prop} {H0 : Hp} {hs : List (V × D)} {dl : Env} {st : L2.St} {vs : List Nat} {Hs Ha : Hp} {J : It} {l acc0 ys : List D} {vs0 : List V} {A : Addr} {Qd : Hp → Prop}
    (hix : ∀ i ∈ ix, i ∈ vs) (js : ∀ H2, Keep (fun b => b = A) Hs H2 → JStep G J l (avo avD ow (wipeE dl vs) (L2.wipe st vs)) H2) (e : ER G avD H0 hs ow (wipeE dl vs) (L2.wipe st vs) Ha) (ks : Keep (fun b => b = A) Hs Ha)
    (hA : avD A) (h0 : H0 A = none) (hs0 : ∀ o, Hs A = some o → isM o = true) (hv : Ha A = some (.lst vs0)) (r0 : RpAll G Ha (avo avD ow (wipeE dl vs) (L2.wipe st vs)) vs0 acc0) (hlen : (acc0 ++ ys).length ≤ sizeLine)
    (ec : comp tgt tst el (wipeE dl vs) l = .ok ys)
    (fin : ∀ H2 vs2, Keep (fun b => b = A) Hs H2 → Keep (fun b => b = A) Ha H2 → ER G avD H0 hs ow (wipeE dl vs) (L2.wipe st vs) H2 → H2 A = some (.lst vs2) → RpAll G H2 (avo avD ow (wipeE dl vs) (L2.wipe st vs)) vs2 (acc0 ++ ys) → Qd H2) :
    ∃ W : Nat → Nat → Hp → Prop, (∃ m, W 0 m Ha) ∧ ∀ i m H, W i m H →
      (J.stop i H ∧ Qd H) ∨ (J.go i H ∧ ∃ Nx : Hp → Prop, (∀ H', Nx H' → ∃ m', m' < m ∧ W (i + 1) m' H') ∧ ∀ x H', J.yld i H x H' → TGd G ow ix tgt x (L2.wipe st vs) H' fun st2 H2 => L2.wipe st2 vs = L2.wipe st vs ∧
        (TTs G ow tst) st2 H2 fun b H3 =>
        if b = true then TD G ow el st2 H3 fun y H4 => ∃ acc, H4 A = some (.lst acc) ∧ acc.length < sizeLine ∧ Nx (upd H4 A (.lst (acc ++ [y]))) else Nx H3) := by
  have Kt : ∀ {Ha Hb Hc : Hp}, Keep (fun b => b = A) Ha Hb → Same Hb Hc → Keep (fun b => b = A) Ha Hc := fun k s b o h n => s _ _ (k b o h n)
  refine ⟨fun i n H2 => n = l.length - i ∧ i ≤ l.length ∧ Keep (fun b => b = A) Hs H2 ∧ Keep (fun b => b = A) Ha H2 ∧ ER G avD H0 hs ow (wipeE dl vs) (L2.wipe st vs) H2 ∧
      ∃ vs2 acc rest, H2 A = some (.lst vs2) ∧ RpAll G H2 (avo avD ow (wipeE dl vs) (L2.wipe st vs)) vs2 acc ∧ comp tgt tst el (wipeE dl vs) (l.drop i) = .ok rest ∧ acc ++ rest = acc0 ++ ys,
    ⟨_, rfl, Nat.zero_le _, ks, .of (.refl Ha), e, vs0, acc0, ys, hv, r0, ec, rfl⟩, ?_⟩
  rintro i n H2 ⟨rfl, hi, kp, ka, er, vs2, acc, rest, hvs, rv, hc, happ⟩
  have J2 := js H2 kp
  by_cases hlt : i < l.length
  · refine .inr ⟨(J2.1 i l[i] (by simp [hlt])).1, fun H3 => (i + 1 ≤ l.length ∧ Keep (fun b => b = A) Hs H3 ∧ Keep (fun b => b = A) Ha H3 ∧ ER G avD H0 hs ow (wipeE dl vs) (L2.wipe st vs) H3 ∧
      ∃ vs2 acc rest, H3 A = some (.lst vs2) ∧ RpAll G H3 (avo avD ow (wipeE dl vs) (L2.wipe st vs)) vs2 acc ∧ comp tgt tst el (wipeE dl vs) (l.drop (i + 1)) = .ok rest ∧ acc ++ rest = acc0 ++ ys), fun H3 h3 => ⟨_, ?_, rfl, h3⟩, fun x H3 y => ?_⟩
    · omega
    obtain ⟨s3, rx⟩ := (J2.1 i l[i] (by simp [hlt])).2 x H3 y
    rw [List.drop_eq_getElem_cons hlt] at hc
    unfold comp at hc
    have ask : Asks (nxA (tgt l[i] (wipeE dl vs)) >>= fun dl' => nxA (tst dl') >>= fun k => if k then nxA (el dl') >>= fun y => comp tgt tst el (wipeE dl vs) (l.drop (i + 1)) >>= fun ys => .ok (y :: ys) else comp tgt tst el (wipeE dl vs) (l.drop (i + 1))) (fun r => r = rest) (fun _ => False) := by
      rw [hc]; exact rfl
    refine ⟨_, H0, hs, _, l[i], er.sm s3, rx, (nxA_asks ask.bind).mono (fun dl' _ w2 st' H4 s4 e4 wp av4 => ⟨(wp _ hix).trans (wipe_wipe fun _ h => h), ?_⟩) fun _ z => z⟩
    refine ⟨_, H0, hs, dl', e4, (nxA_asks w2.bind).mono (fun k _ w3 H5 s5 => ?_) fun _ z => z⟩
    have S := (s3.trans s4).trans s5
    have ct : ∀ {H6 : Hp}, Same H5 H6 → H6 A = some (.lst vs2) := fun s6 => s6 _ _ (S _ _ hvs)
    cases k with
    | true =>
      refine iteT ?_
      have w3 : Asks (nxA (el dl') >>= fun y => comp tgt tst el (wipeE dl vs) (l.drop (i + 1)) >>= fun ys => .ok (y :: ys)) (fun r => r = rest) (fun _ => False) := w3
      refine ⟨_, H0, hs, dl', e4.sm s5, (nxA_asks w3.bind).mono (fun y _ w4 v H6 s6 r6 => ⟨vs2, ct s6, ?_, ?_⟩) fun _ z => z⟩
      all_goals
        obtain ⟨ys', ec', w5⟩ : ∃ ys', comp tgt tst el (wipeE dl vs) (l.drop (i + 1)) = .ok ys' ∧ y :: ys' = rest := by
          have w4' := w4.bind
          cases z : comp tgt tst el (wipeE dl vs) (l.drop (i + 1)) with
          | ok ys => rw [z] at w4'; exact ⟨ys, rfl, w4'⟩
          | exc c => rw [z] at w4'; exact w4'.elim
          | bad => rw [z] at w4'; exact w4'.elim
      · have z1 := rv.length
        have z2 := congrArg List.length happ
        rw [← w5, List.length_append, List.length_cons] at z2
        omega
      · have S2 := S.trans s6
        have er6 := (er.sm S2).updA (a := A) (u := .lst (vs2 ++ [v])) h0 hA (fun o h => by rw [ct s6] at h; cases h; rfl)
        have k6 : ∀ {Hb : Hp}, Keep (fun b => b = A) Hb H6 → (∀ o, Hb A = some o → isM o = true) → Keep (fun b => b = A) Hb (upd H6 A (.lst (vs2 ++ [v]))) := fun k hm b o h n => by
          have hb : b ≠ A := fun z => by
            subst z
            exact n (hm _ h) rfl
          rw [upd_ne hb]; exact k b o h n
        have mv6 : Mv H6 (avo avD ow (wipeE dl vs) (L2.wipe st vs)) (upd H6 A (.lst (vs2 ++ [v]))) (avo avD ow (wipeE dl vs) (L2.wipe st vs)) := fun b o h n => by
          have hb : b ≠ A := fun z => by
            subst z
            rw [ct s6] at h; cases h
            exact n rfl (.inl hA)
          exact ⟨by rw [upd_ne hb]; exact h, n⟩
        refine ⟨hlt, k6 (Kt kp S2) hs0, k6 (Kt ka S2) (fun o h => by rw [hv] at h; cases h; rfl), er6, vs2 ++ [v], acc ++ [y], ys', upd_same, ?_, ec', by rw [List.append_assoc]; simpa [w5] using happ⟩
        refine ((rv.sm S2).append (.cons ?_ .nil)).mv mv6
        rw [← av4]; exact r6
    | false =>
      refine iteF ?_
      have ec' : comp tgt tst el (wipeE dl vs) (l.drop (i + 1)) = .ok rest := by
        have w3 : Asks (comp tgt tst el (wipeE dl vs) (l.drop (i + 1))) (fun r => r = rest) (fun _ => False) := w3
        cases z : comp tgt tst el (wipeE dl vs) (l.drop (i + 1)) with
        | ok ys => rw [z] at w3; exact congrArg _ w3
        | exc c => rw [z] at w3; exact w3.elim
        | bad => rw [z] at w3; exact w3.elim
      exact ⟨hlt, Kt kp S, Kt ka S, er.sm S, vs2, acc, rest, ct (.refl H5), rv.sm S, ec', happ⟩
  · have hil : i = l.length := by omega
    subst hil
    rw [List.drop_length] at hc
    cases hc
    rw [List.append_nil] at happ
    subst happ
    exact .inl ⟨J2.2 _ (Nat.le_refl _), fin H2 vs2 kp ka er hvs rv⟩
theorem ok_of_asks {α β : Type} {r : R α} {f : α → R β} {K : β → Prop} (h : Asks (r >>= f) K (fun _ => False)) : ∃ a, r = .ok a ∧ Asks (f a) K (fun _ => False) := by
  cases r with
  | ok a => exact ⟨a, rfl, h⟩
  | exc c => exact h.elim
  | bad => exact h.elim
/-- the reading of a comprehension -/
theorem lc_run {vs : List Nat} {av : Addr → Prop} {H0 : Hp} {hs : List (V × D)} {dl : Env} {st : L2.St} {H : Hp} {Q : VK} {G : Gx} {wi : TI} {E : Str → Prop}
    (hwi : ∀ (Rr : It → Hp → Prop), Asks (src dl) (fun l => ∀ (J : It) (H' : Hp), Same H H' → (∀ (P : Addr → Prop) H2, Keep av H' H2 → (∀ b, P b → avo av ow dl st b ∨ H' b = none) → JStep G J l P H2) → Rr J H') E → wi st H Rr)
    (hw : ∀ v ∈ vs, ow[v]? ≠ some true) (hix : ∀ i ∈ ix, i ∈ vs) (e : ER G av H0 hs ow dl st H)
    (q : Asks (src dl >>= fun l => nxA (comp tgt tst el (wipeE dl vs) l >>= mkL)) (OkF G H (avo av ow dl st) Q) E) :
    tLc wi (TGd G ow ix tgt) (TTs G ow tst) (TD G ow el) vs st H Q := by
  refine hwi _ (q.bind.mono (fun l _ w J H1 s js A hA => ?_) fun _ z => z)
  obtain ⟨ys, ec, w⟩ := ok_of_asks (nxA_asks w)
  obtain ⟨hlen, w⟩ := mkL_some w
  have hA0 : H A = none := s.free hA
  have h0 : H0 A = none := e.same.free hA0
  have av2 : avo (fun b => av b ∨ b = A) ow (wipeE dl vs) (L2.wipe st vs) = fun b => avo av ow dl st b ∨ b = A := by rw [avo_more, avo_wipe hw]
  refine gather (avD := fun b => av b ∨ b = A) (Hs := H1) (acc0 := []) hix (fun H2 kp => js _ H2 (fun b o h n => kp b o h fun m z => by rw [z, hA] at h; cases h) fun b z => ?_) (((e.sm s).wipe hw).more hA) (.of (same_new hA)) (.inr rfl) h0 (fun o h => by rw [hA] at h; cases h) upd_same .nil hlen ec ?_
  · rw [av2] at z
    exact z.elim .inl fun q => .inr (by rw [q]; exact hA)
  · intro H2 vs2 k1 k2 er h2 r2
    rw [av2] at r2
    refine w A H2 hA0 (fun b o h => ?_) (.lst h2 (by rw [r2.length]; exact hlen) r2)
    have hb : b ≠ A := fun z => by rw [z, hA0] at h; cases h
    exact k1 b o (s _ _ h) fun _ => hb
theorem lc_fam {own : List (Str × Nat)} (h : (own.all fun p => !(ow[p.2]? == some true)) = true) : ∀ v ∈ own.map (·.2), ow[v]? ≠ some true := fun v hv => by
  obtain ⟨p, hp, rfl⟩ := List.mem_map.mp hv
  have := List.all_eq_true.mp h p hp
  simpa using this
/-- [elt for tg in iter if ..] -/
theorem df_lc {scope : Scope} {own : List (Str × Nat)} (hc : X.calm = true) (hN : X.N.Nodup) (hi : DI X fl W ow tg iter src) (ok : BlkOk X.N X.env.scope scope own) (hw : (own.all fun p => !(ow[p.2]? == some true)) = true) (hix : (ix.all fun i => (own.map (·.2)).contains i) = true)
    (hg : ∀ (s : Shared) (H : Hp) (C : Addr) (cl : List (Str × Addr)) (fp : List Addr), DG (X.blk s H scope (compEnvC scope cl C X.env) fp) fl ow ix tg tgt)
    (ht : ∀ (s : Shared) (H : Hp) (C : Addr) (cl : List (Str × Addr)) (fp : List Addr), DTs (X.blk s H scope (compEnvC scope cl C X.env) fp) fl ow ifs tst)
    (he : ∀ (s : Shared) (H : Hp) (C : Addr) (cl : List (Str × Addr)) (fp : List Addr), DE (X.blk s H scope (compEnvC scope cl C X.env) fp) fl W0 ow .t elt el) (hs : ∀ x, foldedSetIterable iter X.env x = pure x := by intro _; rfl) :
    DF X fl W ow (.ListComp elt [⟨tg, iter, ifs, 0⟩] scope pos) (fun dl => src dl >>= fun l => nxA (comp tgt tst el (wipeE dl (own.map (·.2))) l >>= mkL)) := by
  obtain ⟨wi, p, k⟩ := hi
  refine ⟨_, pe_lc (g := TGd (gx X fl) ow ix tgt) (tt := TTs (gx X fl) ow tst) (te := TD (gx X fl) ow el) hc hN p ok (fun s H C cl fp => (hg s H C cl fp).td) (fun s H C cl fp => ht s H C cl fp) (fun s H C cl fp => (he s H C cl fp).td) hs, fun av H0 hs dl st H Q e q => ?_⟩
  exact lc_run (fun Rr z => k av H0 hs dl st H Rr e z) (lc_fam hw) (fun i hi => by have := List.all_eq_true.mp hix i hi; simpa using this) e q
def comp2 (tgt : D → Env → R Env) (tst : Env → R Bool) (src1 : Env → R (List D)) (vs1 : List Nat) (tgt1 : D → Env → R Env) (tst1 : Env → R Bool) (el : Env → R D) (dl : Env) : List D → R (List D)
  | [] => .ok []
  | d :: l => nxA (tgt d dl) >>= fun dl' => nxA (tst dl') >>= fun k => if k then nxA (src1 dl') >>= fun l1 => comp tgt1 tst1 el (wipeE dl' vs1) l1 >>= fun ys => comp2 tgt tst src1 vs1 tgt1 tst1 el dl l >>= fun zs => .ok (ys ++ zs) else comp2 tgt tst src1 vs1 tgt1 tst1 el dl l
theorem lc2_run {vs vs1 ix1 : List Nat} {av : Addr → Prop} {H0 : Hp} {hs : List (V × D)} {dl : Env} {st : L2.St} {H : Hp} {Q : VK} {G : Gx} {wi : TI} {E : Str → Prop} {src1 : Env → R (List D)} {tgt1 : D → Env → R Env} {tst1 : Env → R Bool}
    (hwi : ∀ (Rr : It → Hp → Prop), Asks (src dl) (fun l => ∀ (J : It) (H' : Hp), Same H H' → (∀ (P : Addr → Prop) H2, Keep av H' H2 → (∀ b, P b → avo av ow dl st b ∨ H' b = none) → JStep G J l P H2) → Rr J H') E → wi st H Rr)
    (hw : ∀ v ∈ vs, ow[v]? ≠ some true) (hw1 : ∀ v ∈ vs1, v ∈ vs) (hix : ∀ i ∈ ix, i ∈ vs) (hix1 : ∀ i ∈ ix1, i ∈ vs1) (e : ER G av H0 hs ow dl st H)
    (q : Asks (src dl >>= fun l => nxA (comp2 tgt tst src1 vs1 tgt1 tst1 el (wipeE dl vs) l >>= mkL)) (OkF G H (avo av ow dl st) Q) E) :
    tLc2 wi (TGd G ow ix tgt) (TTs G ow tst) (TI' G ow src1) (TGd G ow ix1 tgt1) (TTs G ow tst1) (TD G ow el) vs vs1 st H Q := by
  refine hwi _ (q.bind.mono (fun l _ w J H1 s js A hA => ?_) fun _ z => z)
  obtain ⟨ys, ec, w⟩ := ok_of_asks (nxA_asks w)
  obtain ⟨hlen, w⟩ := mkL_some w
  have hA0 : H A = none := s.free hA
  have h0 : H0 A = none := e.same.free hA0
  have av2 : avo (fun b => av b ∨ b = A) ow (wipeE dl vs) (L2.wipe st vs) = fun b => avo av ow dl st b ∨ b = A := by rw [avo_more, avo_wipe hw]
  have Kt : ∀ {Ha Hb Hc : Hp}, Keep (fun b => b = A) Ha Hb → Keep (fun b => b = A) Hb Hc → Keep (fun b => b = A) Ha Hc := fun k k2 b o h n => k2 b o (k b o h n) n
  have jsA : ∀ H2, Keep (fun b => b = A) H1 H2 → JStep G J l (avo (fun b => av b ∨ b = A) ow (wipeE dl vs) (L2.wipe st vs)) H2 := fun H2 kp => js _ H2 (fun b o h n => kp b o h fun m z => by rw [z, hA] at h; cases h) fun b z => by
    rw [av2] at z
    exact z.elim .inl fun q => .inr (by rw [q]; exact hA)
  refine ⟨fun i n H2 => n = l.length - i ∧ i ≤ l.length ∧ Keep (fun b => b = A) H1 H2 ∧ ER G (fun b => av b ∨ b = A) H0 hs ow (wipeE dl vs) (L2.wipe st vs) H2 ∧
      ∃ vs2 acc rest, H2 A = some (.lst vs2) ∧ RpAll G H2 (avo (fun b => av b ∨ b = A) ow (wipeE dl vs) (L2.wipe st vs)) vs2 acc ∧ comp2 tgt tst src1 vs1 tgt1 tst1 el (wipeE dl vs) (l.drop i) = .ok rest ∧ acc ++ rest = ys,
    ⟨_, rfl, Nat.zero_le _, .of (same_new hA), ((e.sm s).wipe hw).more hA, [], [], ys, upd_same, .nil, ec, rfl⟩, ?_⟩
  rintro i n H2 ⟨rfl, hi, kp, er, vs2, acc, rest, hvs, rv, hc, happ⟩
  have J2 := jsA H2 kp
  by_cases hlt : i < l.length
  · refine .inr ⟨(J2.1 i l[i] (by simp [hlt])).1, fun H3 => (i + 1 ≤ l.length ∧ Keep (fun b => b = A) H1 H3 ∧ ER G (fun b => av b ∨ b = A) H0 hs ow (wipeE dl vs) (L2.wipe st vs) H3 ∧
      ∃ vs2 acc rest, H3 A = some (.lst vs2) ∧ RpAll G H3 (avo (fun b => av b ∨ b = A) ow (wipeE dl vs) (L2.wipe st vs)) vs2 acc ∧ comp2 tgt tst src1 vs1 tgt1 tst1 el (wipeE dl vs) (l.drop (i + 1)) = .ok rest ∧ acc ++ rest = ys), fun H3 h3 => ⟨_, ?_, rfl, h3⟩, fun x H3 y => ?_⟩
    · omega
    obtain ⟨s3, rx⟩ := (J2.1 i l[i] (by simp [hlt])).2 x H3 y
    rw [List.drop_eq_getElem_cons hlt] at hc
    unfold comp2 at hc
    have ask : Asks (nxA (tgt l[i] (wipeE dl vs)) >>= fun dl' => nxA (tst dl') >>= fun k => if k then nxA (src1 dl') >>= fun l1 => comp tgt1 tst1 el (wipeE dl' vs1) l1 >>= fun ys => comp2 tgt tst src1 vs1 tgt1 tst1 el (wipeE dl vs) (l.drop (i + 1)) >>= fun zs => .ok (ys ++ zs) else comp2 tgt tst src1 vs1 tgt1 tst1 el (wipeE dl vs) (l.drop (i + 1))) (fun r => r = rest) (fun _ => False) := by
      rw [hc]; exact rfl
    refine ⟨_, H0, hs, _, l[i], er.sm s3, rx, (nxA_asks ask.bind).mono (fun dl' _ w2 st' H4 s4 e4 wp av4 => ⟨(wp _ hix).trans (wipe_wipe fun _ h => h), ?_⟩) fun _ z => z⟩
    refine ⟨_, H0, hs, dl', e4, (nxA_asks w2.bind).mono (fun k _ w3 H5 s5 => ?_) fun _ z => z⟩
    have S := (s3.trans s4).trans s5
    cases k with
    | true =>
      refine iteT ?_
      have w3 : Asks (nxA (src1 dl') >>= fun l1 => comp tgt1 tst1 el (wipeE dl' vs1) l1 >>= fun ys => comp2 tgt tst src1 vs1 tgt1 tst1 el (wipeE dl vs) (l.drop (i + 1)) >>= fun zs => .ok (ys ++ zs)) (fun r => r = rest) (fun _ => False) := w3
      refine ⟨_, H0, hs, dl', e4.sm s5, (nxA_asks w3.bind).mono (fun l1 _ w4 J1 H6 s6 js1 => ?_) fun _ z => z⟩
      obtain ⟨ys1, ec1, w5⟩ := ok_of_asks w4
      obtain ⟨zs, ec2, w6⟩ := ok_of_asks w5
      have w6 : ys1 ++ zs = rest := w6
      have S6 := S.trans s6
      have hw1' : ∀ v ∈ vs1, ow[v]? ≠ some true := fun v hv => hw v (hw1 v hv)
      have av3 : avo (fun b => av b ∨ b = A) ow (wipeE dl' vs1) (L2.wipe st' vs1) = avo (fun b => av b ∨ b = A) ow (wipeE dl vs) (L2.wipe st vs) := by rw [avo_wipe hw1', av4]
      refine gather (avD := fun b => av b ∨ b = A) (Hs := H6) (acc0 := acc) hix1 (fun H7 kp7 => js1 _ H7 (fun b o h n => kp7 b o h fun m z => n m (.inr z)) fun b z => .inl ?_) (((e4.sm (s5.trans s6))).wipe hw1') (.of (.refl H6)) (.inr rfl) h0 (fun o h => by rw [S6 _ _ hvs] at h; cases h; rfl) (S6 _ _ hvs) ?_ ?_ ec1 ?_
      · rw [av3] at z; rw [av4]; exact z
      · rw [av3]; exact rv.sm S6
      · rw [← w6] at happ
        rw [← happ, ← List.append_assoc, List.length_append] at hlen
        omega
      · intro H7 vs3 k1 k2 er7 h7 r7
        rw [av3] at r7
        have K7 : Keep (fun b => b = A) H2 H7 := Kt (.of S6) k1
        refine ⟨hlt, Kt kp K7, ?_, vs3, acc ++ ys1, zs, h7, r7, ec2, by rw [List.append_assoc, w6]; exact happ⟩
        -- the block's slots at the next turn
        refine (er.sm S6).moved (a := A) ?_ (.inr rfl) h0 ⟨_, S6 _ _ hvs, rfl⟩ ⟨_, h7⟩
        exact fun b o h hb => k1 b o h fun _ => hb
    | false =>
      refine iteF ?_
      have ec' : comp2 tgt tst src1 vs1 tgt1 tst1 el (wipeE dl vs) (l.drop (i + 1)) = .ok rest := by
        have w3 : Asks (comp2 tgt tst src1 vs1 tgt1 tst1 el (wipeE dl vs) (l.drop (i + 1))) (fun r => r = rest) (fun _ => False) := w3
        cases z : comp2 tgt tst src1 vs1 tgt1 tst1 el (wipeE dl vs) (l.drop (i + 1)) with
        | ok ys => rw [z] at w3; exact congrArg _ w3
        | exc c => rw [z] at w3; exact w3.elim
        | bad => rw [z] at w3; exact w3.elim
      exact ⟨hlt, Kt kp (.of S), er.sm S, vs2, acc, rest, S _ _ hvs, rv.sm S, ec', happ⟩
  · have hil : i = l.length := by omega
    subst hil
    rw [List.drop_length] at hc
    cases hc
    rw [List.append_nil] at happ
    subst happ
    refine .inl ⟨J2.2 _ (Nat.le_refl _), ?_⟩
    rw [av2] at rv
    refine w A H2 hA0 (fun b o h => ?_) (.lst hvs (by rw [rv.length]; exact hlen) rv)
    have hb : b ≠ A := fun z => by rw [z, hA0] at h; cases h
    exact kp b o (s _ _ h) fun _ => hb
theorem df_lc2 {tg1 iter1 : Expr} {ifs1 : List Expr} {vs1 ix1 : List Nat} {src1 : Env → R (List D)} {tgt1 : D → Env → R Env} {tst1 : Env → R Bool} {scope : Scope} {own : List (Str × Nat)} (hc : X.calm = true) (hN : X.N.Nodup) (hi : DI X fl W ow tg iter src) (ok : BlkOk X.N X.env.scope scope own) (hv : ∀ i ∈ vs1, i ∈ own.map (·.2)) (hw : (own.all fun p => !(ow[p.2]? == some true)) = true) (hix : (ix.all fun i => (own.map (·.2)).contains i) = true) (hix1 : (ix1.all fun i => vs1.contains i) = true)
    (hg : ∀ (s : Shared) (H : Hp) (C : Addr) (cl : List (Str × Addr)) (fp : List Addr), DG (X.blk s H scope (compEnvC scope cl C X.env) fp) fl ow ix tg tgt)
    (ht : ∀ (s : Shared) (H : Hp) (C : Addr) (cl : List (Str × Addr)) (fp : List Addr), DTs (X.blk s H scope (compEnvC scope cl C X.env) fp) fl ow ifs tst)
    (hi1 : ∀ (s : Shared) (H : Hp) (C : Addr) (cl : List (Str × Addr)) (fp : List Addr), DI (X.blk s H scope (compEnvC scope cl C X.env) fp) fl W0 ow tg1 iter1 src1)
    (hg1 : ∀ (s : Shared) (H : Hp) (C : Addr) (cl : List (Str × Addr)) (fp : List Addr), DG (X.blk s H scope (compEnvC scope cl C X.env) fp) fl ow ix1 tg1 tgt1)
    (ht1 : ∀ (s : Shared) (H : Hp) (C : Addr) (cl : List (Str × Addr)) (fp : List Addr), DTs (X.blk s H scope (compEnvC scope cl C X.env) fp) fl ow ifs1 tst1)
    (he : ∀ (s : Shared) (H : Hp) (C : Addr) (cl : List (Str × Addr)) (fp : List Addr), DE (X.blk s H scope (compEnvC scope cl C X.env) fp) fl W0 ow .t elt el) (hs : ∀ x, foldedSetIterable iter X.env x = pure x := by intro _; rfl) (hs1 : ∀ env x, foldedSetIterable iter1 env x = pure x := by intro _ _; rfl) :
    DF X fl W ow (.ListComp elt [⟨tg, iter, ifs, 0⟩, ⟨tg1, iter1, ifs1, 0⟩] scope pos) (fun dl => src dl >>= fun l => nxA (comp2 tgt tst src1 vs1 tgt1 tst1 el (wipeE dl (own.map (·.2))) l >>= mkL)) := by
  obtain ⟨wi, p, k⟩ := hi
  refine ⟨_, pe_lc2 (g := TGd (gx X fl) ow ix tgt) (tt := TTs (gx X fl) ow tst) (wi1 := TI' (gx X fl) ow src1) (g1 := TGd (gx X fl) ow ix1 tgt1) (tt1 := TTs (gx X fl) ow tst1) (te := TD (gx X fl) ow el) hc hN p ok hv (fun s H C cl fp => (hg s H C cl fp).td) (fun s H C cl fp => ht s H C cl fp) (fun s H C cl fp => (hi1 s H C cl fp).td) (fun s H C cl fp => (hg1 s H C cl fp).td) (fun s H C cl fp => ht1 s H C cl fp) (fun s H C cl fp => (he s H C cl fp).td) hs hs1, fun av H0 hs dl st H Q e q => ?_⟩
  exact lc2_run (fun Rr z => k av H0 hs dl st H Rr e z) (lc_fam hw) hv (fun i hi => by have := List.all_eq_true.mp hix i hi; simpa using this) (fun i hi => by have := List.all_eq_true.mp hix1 i hi; simpa using this) e q
end
end DL

/-! The data layer: statements, defs. -/
namespace DL
open PySem PySem.Spec PyProof.Rows L2

inductive Out where
  | nx (dl : Env) | rt (d : D) | bk (dl : Env) | ct (dl : Env) | exc (c : Str) (dl : Env) | bad
def R.out {α : Type} (r : R α) (dl : Env) (f : α → Out) : Out := match r with | .ok a => f a | .exc c => .exc c dl | .bad => .bad
def SAsks (G : Gx) (av : Addr → Prop) (H0 : Hp) (hs : List (V × D)) (ow : List Bool) (W : WX) (o : Out) (Dn : Ends) : Prop :=
  match o with
  | .nx dl => ∀ st H, ER G av H0 hs ow dl st H → Dn.nx st H
  | .bk dl => ∀ st H, ER G av H0 hs ow dl st H → Dn.bk st H
  | .ct dl => ∀ st H, ER G av H0 hs ow dl st H → Dn.ct st H
  | .rt d => ∀ v H, Same H0 H → Rp G H av v d → Dn.rt v H
  | .exc c dl => ∀ C st H, G.mg c = some (.ref C) → ER G av H0 hs ow dl st H → W (.ref C) none st H
  | .bad => False
def TSd (G : Gx) (W : WX) (ow : List Bool) (den : Env → Out) : TS := fun Dn st H => ∃ av H0 hs dl, ER G av H0 hs ow dl st H ∧ SAsks G av H0 hs ow W (den dl) Dn
/-- a statement, a block -/
def DS (X : Cx) (fl : Str → List Str) (W : WX) (ow : List Bool) (s : Stmt) (den : Env → Out) : Prop := PS X s (TSd (gx X fl) W ow den)
def DSs (X : Cx) (fl : Str → List Str) (W : WX) (ow : List Bool) (s : List Stmt) (den : Env → Out) : Prop := PSs X s (TSd (gx X fl) W ow den)
section
variable {X : Cx} {fl : Str → List Str} {W : WX} {ow : List Bool} {m : Md} {e a b c tg iter elt : Expr} {es ifs : List Expr} {da db dc el : Env → R D} {src : Env → R (List D)} {tgt : D → Env → R Env} {tst : Env → R Bool} {ix : List Nat} {pos : Pos} {s : Stmt} {ss : List Stmt} {d1 d2 : Env → Out} {tc : Env → R Bool}
theorem DS.mk {t : TS} (p : PS X s t) (k : ∀ av H0 hs dl st H Dn, ER (gx X fl) av H0 hs ow dl st H → SAsks (gx X fl) av H0 hs ow W (d1 dl) Dn → t Dn st H) : DS X fl W ow s d1 :=
  ⟨fun pins s' st H Dn I ⟨av, H0, hs, dl, er, q⟩ => p.run pins s' st H Dn I (k av H0 hs dl st H Dn er q)⟩
theorem DSs.mk {t : TS} (p : PSs X ss t) (k : ∀ av H0 hs dl st H Dn, ER (gx X fl) av H0 hs ow dl st H → SAsks (gx X fl) av H0 hs ow W (d1 dl) Dn → t Dn st H) : DSs X fl W ow ss d1 :=
  ⟨fun pins s' st H Dn I ⟨av, H0, hs, dl, er, q⟩ => p.run pins s' st H Dn I (k av H0 hs dl st H Dn er q)⟩
/-- an expression's way on, from a statement's -/
theorem asks_out {α : Type} {r : R α} {dl : Env} {f : α → Out} {G : Gx} {av : Addr → Prop} {H0 : Hp} {hs : List (V × D)} {st : L2.St} {H : Hp} {Dn : Ends} (e : ER G av H0 hs ow dl st H) (q : SAsks G av H0 hs ow W (r.out dl f) Dn) : Asks r (fun a => SAsks G av H0 hs ow W (f a) Dn) (EX G H W st) := by
  cases r with
  | ok a => exact q
  | exc c => exact fun C H' h s => q C st H' h (e.sm s)
  | bad => exact q
def seqO (d1 d2 : Env → Out) : Env → Out := fun dl => match d1 dl with | .nx dl' => d2 dl' | o => o
theorem dss_nil : DSs X fl W ow [] Out.nx := DSs.mk pss_nil fun av H0 hs dl st H Dn e q => q st H e
theorem dss_cons (h : DS X fl W ow s d1) (r : DSs X fl W ow ss d2) : DSs X fl W ow (s :: ss) (seqO d1 d2) := by
  refine DSs.mk (pss_cons h r) fun av H0 hs dl st H Dn e q => ⟨av, H0, hs, dl, e, ?_⟩
  unfold seqO at q
  generalize d1 dl = o at q ⊢
  cases o with
  | nx dl' => exact fun st' H' e' => ⟨av, H0, hs, dl', e', q⟩
  | _ => exact q
theorem ds_pass : DS X fl W ow (.Pass pos) Out.nx := DS.mk ps_pass fun av H0 hs dl st H Dn e q => q st H e
theorem ds_break : DS X fl W ow (.Break pos) Out.bk := DS.mk ps_break fun av H0 hs dl st H Dn e q => q st H e
theorem ds_continue : DS X fl W ow (.Continue pos) Out.ct := DS.mk ps_continue fun av H0 hs dl st H Dn e q => q st H e
/-- x = e, x plain -/
theorem ds_set {i : Nat} {x : Str} {p' : Pos} (ho : (ow[i]? == some true) = false) (hN : X.N.Nodup) (hi : X.N[i]? = some x) (hx : Loc X.env.scope x) (h : DE X fl W ow .t e da) (hs : swapsWith e (some (.Name x p')) pos.line X.env = pure false := by rfl) (hf : X.fn x = true ∨ X.env.scope.names.lookup x = some .local := by first | exact .inl rfl | exact .inr rfl) :
    DS X fl W ow (.Assign [.Name x p'] e pos) (fun dl => (da dl).out dl fun d => .nx (dl.set i (some d))) := by
  obtain ⟨t, p, k⟩ := h
  refine DS.mk (ps_set hN hi hx p hs hf) fun av H0 hs dl st H Dn e q => k av H0 hs dl st H _ e ((asks_out e q).mono (fun d _ w v H1 s r => ?_) fun _ z => z)
  exact w _ H1 ((e.sm s).put (by simpa using ho) r)
/-- x = e, x own: e makes a new object -/
theorem ds_setO {i : Nat} {x : Str} {p' : Pos} (ho : (ow[i]? == some true) = true) (hN : X.N.Nodup) (hi : X.N[i]? = some x) (hx : Loc X.env.scope x) (h : DF X fl W ow e da) (hs : swapsWith e (some (.Name x p')) pos.line X.env = pure false := by rfl) (hf : X.fn x = true ∨ X.env.scope.names.lookup x = some .local := by first | exact .inl rfl | exact .inr rfl) :
    DS X fl W ow (.Assign [.Name x p'] e pos) (fun dl => (da dl).out dl fun d => .nx (dl.set i (some d))) := by
  obtain ⟨t, p, k⟩ := h
  refine DS.mk (ps_set hN hi hx p hs hf) fun av H0 hs dl st H Dn e q => k av H0 hs dl st H _ e ((asks_out e q).mono (fun d _ w p H1 hp s o => ?_) fun _ z => z)
  exact w _ H1 (e.putO (by simpa using ho) hp s o)
/-- x = y, y own and then gone -/
def mvD (j i : Nat) : Env → Out := fun dl => match dl[j]? with
  | some (some d) => .nx ((dl.set j none).set i (some d))
  | _ => .bad
theorem ds_move {i j : Nat} {x y : Str} {p' p2 : Pos} (ho : (ow[i]? == some true) = false) (hoj : (ow[j]? == some true) = true) (hN : X.N.Nodup) (hi : X.N[i]? = some x) (hx : Loc X.env.scope x) (hj : X.N[j]? = some y) (hv : Vis X.env.scope y) (hd : (y == ("__debug__" : Str)) = false := by decide) (hcd : (y == ("__classdict__" : Str)) = false := by decide)
    (hs : swapsWith (.Name y p2) (some (.Name x p')) pos.line X.env = pure false := by rfl) (hf : X.fn x = true ∨ X.env.scope.names.lookup x = some .local := by first | exact .inl rfl | exact .inr rfl) :
    DS X fl W ow (.Assign [.Name x p'] (.Name y p2) pos) (mvD j i) := by
  refine DS.mk (ps_set hN hi hx (pe_var hj hv hd hcd) hs hf) fun av H0 hs dl st H Dn e q => ?_
  unfold mvD at q
  split at q
  · rename_i d ed
    obtain ⟨e2, a, z1, z2⟩ := e.move (by simpa using hoj) ed
    exact ⟨_, z1, q _ H (e2.put (by simpa using ho) z2)⟩
  · exact q.elim
/-- x = [.. for ..] on one line -/
theorem ds_setLc {i : Nat} {x : Str} {p' lpos : Pos} {scope : Scope} {own : List (Str × Nat)} (hc : X.calm = true) (hN : X.N.Nodup) (hy : X.N[i]? = some x) (hyl : X.env.scope.names.lookup x = some .local)
    (hsw : swapsWith (.ListComp elt [⟨tg, iter, ifs, 0⟩] scope lpos) (some (.Name x p')) pos.line X.env = pure true)
    (hi : DI X fl W ow tg iter src) (ok : BlkOk X.N X.env.scope scope own) (hw : (own.all fun p => !(ow[p.2]? == some true)) = true) (hix : (ix.all fun i => (own.map (·.2)).contains i) = true)
    (hg : ∀ (s : Shared) (H : Hp) (C : Addr) (cl : List (Str × Addr)) (fp : List Addr), DG (X.blk s H scope (compEnvC scope cl C X.env) fp) fl ow ix tg tgt)
    (ht : ∀ (s : Shared) (H : Hp) (C : Addr) (cl : List (Str × Addr)) (fp : List Addr), DTs (X.blk s H scope (compEnvC scope cl C X.env) fp) fl ow ifs tst)
    (he : ∀ (s : Shared) (H : Hp) (C : Addr) (cl : List (Str × Addr)) (fp : List Addr), DE (X.blk s H scope (compEnvC scope cl C X.env) fp) fl W0 ow .t elt el) (hs : ∀ x, foldedSetIterable iter X.env x = pure x := by intro _; rfl) :
    DS X fl W ow (.Assign [.Name x p'] (.ListComp elt [⟨tg, iter, ifs, 0⟩] scope lpos) pos) (fun dl => (src dl >>= fun l => nxA (comp tgt tst el (wipeE dl (own.map (·.2))) l >>= mkL)).out dl fun d => .nx (dl.set i (some d))) := by
  obtain ⟨wi, p, k⟩ := hi
  refine DS.mk (ps_setLc (g := TGd (gx X fl) ow ix tgt) (tt := TTs (gx X fl) ow tst) (te := TD (gx X fl) ow el) hc hN hy hyl hsw p ok (fun s H C cl fp => (hg s H C cl fp).td) (fun s H C cl fp => ht s H C cl fp) (fun s H C cl fp => (he s H C cl fp).td) hs) fun av H0 hs dl st H Dn e q => ?_
  refine lc_run (E := EX (gx X fl) H W st) (fun Rr z => k av H0 hs dl st H Rr e z) (lc_fam hw) (fun i hi => by have := List.all_eq_true.mp hix i hi; simpa using this) e ((asks_out e q).mono (fun d _ w p H1 hp s o => ?_) fun _ z => z)
  by_cases ho : ow[i]? = some true
  · exact w _ H1 (e.putO ho hp s o)
  · refine w _ H1 ((e.sm s).put ho ((o.mv (.less fun b z => .inl (.inl z)) fun _ z => z).rp (P := avo av ow dl st) fun z => ?_))
    obtain ⟨u, q⟩ := e.avoh p z
    rw [hp] at q; cases q
theorem ds_setLc2 {i : Nat} {x : Str} {p' lpos : Pos} {tg1 iter1 : Expr} {ifs1 : List Expr} {vs1 ix1 : List Nat} {src1 : Env → R (List D)} {tgt1 : D → Env → R Env} {tst1 : Env → R Bool} {scope : Scope} {own : List (Str × Nat)} (hc : X.calm = true) (hN : X.N.Nodup) (hy : X.N[i]? = some x) (hyl : X.env.scope.names.lookup x = some .local)
    (hsw : swapsWith (.ListComp elt [⟨tg, iter, ifs, 0⟩, ⟨tg1, iter1, ifs1, 0⟩] scope lpos) (some (.Name x p')) pos.line X.env = pure true)
    (hi : DI X fl W ow tg iter src) (ok : BlkOk X.N X.env.scope scope own) (hv : ∀ i ∈ vs1, i ∈ own.map (·.2)) (hw : (own.all fun p => !(ow[p.2]? == some true)) = true) (hix : (ix.all fun i => (own.map (·.2)).contains i) = true) (hix1 : (ix1.all fun i => vs1.contains i) = true)
    (hg : ∀ (s : Shared) (H : Hp) (C : Addr) (cl : List (Str × Addr)) (fp : List Addr), DG (X.blk s H scope (compEnvC scope cl C X.env) fp) fl ow ix tg tgt)
    (ht : ∀ (s : Shared) (H : Hp) (C : Addr) (cl : List (Str × Addr)) (fp : List Addr), DTs (X.blk s H scope (compEnvC scope cl C X.env) fp) fl ow ifs tst)
    (hi1 : ∀ (s : Shared) (H : Hp) (C : Addr) (cl : List (Str × Addr)) (fp : List Addr), DI (X.blk s H scope (compEnvC scope cl C X.env) fp) fl W0 ow tg1 iter1 src1)
    (hg1 : ∀ (s : Shared) (H : Hp) (C : Addr) (cl : List (Str × Addr)) (fp : List Addr), DG (X.blk s H scope (compEnvC scope cl C X.env) fp) fl ow ix1 tg1 tgt1)
    (ht1 : ∀ (s : Shared) (H : Hp) (C : Addr) (cl : List (Str × Addr)) (fp : List Addr), DTs (X.blk s H scope (compEnvC scope cl C X.env) fp) fl ow ifs1 tst1)
    (he : ∀ (s : Shared) (H : Hp) (C : Addr) (cl : List (Str × Addr)) (fp : List Addr), DE (X.blk s H scope (compEnvC scope cl C X.env) fp) fl W0 ow .t elt el) (hs : ∀ x, foldedSetIterable iter X.env x = pure x := by intro _; rfl) (hs1 : ∀ env x, foldedSetIterable iter1 env x = pure x := by intro _ _; rfl) :
    DS X fl W ow (.Assign [.Name x p'] (.ListComp elt [⟨tg, iter, ifs, 0⟩, ⟨tg1, iter1, ifs1, 0⟩] scope lpos) pos) (fun dl => (src dl >>= fun l => nxA (comp2 tgt tst src1 vs1 tgt1 tst1 el (wipeE dl (own.map (·.2))) l >>= mkL)).out dl fun d => .nx (dl.set i (some d))) := by
  obtain ⟨wi, p, k⟩ := hi
  refine DS.mk (ps_setLc2 (g := TGd (gx X fl) ow ix tgt) (tt := TTs (gx X fl) ow tst) (wi1 := TI' (gx X fl) ow src1) (g1 := TGd (gx X fl) ow ix1 tgt1) (tt1 := TTs (gx X fl) ow tst1) (te := TD (gx X fl) ow el) hc hN hy hyl hsw p ok hv (fun s H C cl fp => (hg s H C cl fp).td) (fun s H C cl fp => ht s H C cl fp) (fun s H C cl fp => (hi1 s H C cl fp).td) (fun s H C cl fp => (hg1 s H C cl fp).td) (fun s H C cl fp => ht1 s H C cl fp) (fun s H C cl fp => (he s H C cl fp).td) hs hs1) fun av H0 hs dl st H Dn e q => ?_
  refine lc2_run (E := EX (gx X fl) H W st) (fun Rr z => k av H0 hs dl st H Rr e z) (lc_fam hw) hv (fun i hi => by have := List.all_eq_true.mp hix i hi; simpa using this) (fun i hi => by have := List.all_eq_true.mp hix1 i hi; simpa using this) e ((asks_out e q).mono (fun d _ w p H1 hp s o => ?_) fun _ z => z)
  by_cases ho : ow[i]? = some true
  · exact w _ H1 (e.putO ho hp s o)
  · refine w _ H1 ((e.sm s).put ho ((o.mv (.less fun b z => .inl (.inl z)) fun _ z => z).rp (P := avo av ow dl st) fun z => ?_))
    obtain ⟨u, q⟩ := e.avoh p z
    rw [hp] at q; cases q
/-- a, b = e -/
theorem ds_asg {k : Nat} {es : List Expr} {tp : Pos} (h : DE X fl W ow .t e da) (g : DG X fl ow ix (.Tuple es k tp) tgt) (hs : swapsWithSole [.Tuple es k tp] e pos.line X.env = pure false := by rfl) (hw : swappedStores [.Tuple es k tp] e X.env = pure none := by rfl)
    (h1 : (assignEach [.Tuple es k tp] X.env).map (·.2) = [assign (.Tuple es k tp) X.env] := by rfl) : DS X fl W ow (.Assign [.Tuple es k tp] e pos) (fun dl => (da dl).out dl fun d => (nxA (tgt d dl)).out dl Out.nx) := by
  obtain ⟨t, p, k1⟩ := h
  obtain ⟨t', p', k2⟩ := g
  refine DS.mk (ps_asg p p' hs hw h1) fun av H0 hs dl st H Dn e q => k1 av H0 hs dl st H _ e ((asks_out e q).mono (fun d _ w v H1 s r => ?_) fun _ z => z)
  exact k2 av H0 hs dl st H1 v d _ (e.sm s) r ((nxA_asks (asks_out (e.sm s) w)).mono (fun dl' _ w' st' H2 s2 e2 _ _ => w' st' H2 e2) fun _ z => z)
/-- a, b = e1, e2 -/
theorem ds_par {i j : Nat} {x y : Str} {px py pt : Pos} {kt k2 : Nat} {pt2 : Pos} (oi : (ow[i]? == some true) = false) (oj : (ow[j]? == some true) = false) (hc : X.calm = true) (hN : X.N.Nodup) (hi : X.N[i]? = some x) (hj : X.N[j]? = some y) (hij : i ≠ j)
    (hx : X.env.scope.names.lookup x = some .local) (hy : X.env.scope.names.lookup y = some .local) (ha : DE X fl W ow .t a da) (hb : DE X fl W ow .t b db)
    (hw : swappedStores [.Tuple [.Name x px, .Name y py] kt pt] (.Tuple [a, b] k2 pt2) X.env = pure (some [x, y]))
    (hs : swapsWithSole [.Tuple [.Name x px, .Name y py] kt pt] (.Tuple [a, b] k2 pt2) pos.line X.env = pure false := by rfl) (s1 : starEach [a, b] X.env = (false, eval a X.env) :: starEach [b] X.env := by rfl) (s2 : starEach [b] X.env = (false, eval b X.env) :: starEach [] X.env := by rfl) :
    DS X fl W ow (.Assign [.Tuple [.Name x px, .Name y py] kt pt] (.Tuple [a, b] k2 pt2) pos) (fun dl => (da dl).out dl fun d => (db dl).out dl fun d' => .nx ((dl.set i (some d)).set j (some d'))) := by
  obtain ⟨t1, p1, k1⟩ := ha
  obtain ⟨t2, p2, k2'⟩ := hb
  refine DS.mk (ps_par hc hN hi hj hij hx hy (pa_cons p1 (pa_cons p2 pa_nil s2) s1) hw hs) fun av H0 hs dl st H Dn e q => k1 av H0 hs dl st H _ e ((asks_out e q).mono (fun d _ w v H1 s r => ?_) fun _ z => z)
  refine k2' av H0 hs dl st H1 _ (e.sm s) ((asks_out (e.sm s) w).mono (fun d' _ w' v' H2 s2 r2 => ?_) fun _ z => z)
  refine ⟨v, v', rfl, w' _ H2 ?_⟩
  have e1 := (e.sm (s.trans s2)).put (i := i) (by simpa using oi) (Rp.sm r s2)
  refine e1.put (by simpa using oj) ?_
  rw [avo_set (by simpa using oi)]
  exact r2
/-- x += e -/
def agD (i : Nat) (f : D → D → R D) (da : Env → R D) : Env → Out := fun dl => match dl[i]? with
  | some (some d) => (da dl).out dl fun d' => (nx (f d d')).out dl fun d2 => .nx (dl.set i (some d2))
  | _ => .bad
theorem ds_aug {i : Nat} {x : Str} {p' : Pos} {op : Operator} {r : R2} {f : D → D → R D} (ho : (ow[i]? == some true) = false) (hN : X.N.Nodup) (hi : X.N[i]? = some x) (hx : Loc X.env.scope x) (hr : OpR X (inplaceOp op) r) (hop : Op2 (gx X fl) false r f) (h : DE X fl W ow .f e da)
    (hf : X.fn x = true ∨ X.env.scope.names.lookup x = some .local := by first | exact .inl rfl | exact .inr rfl) : DS X fl W ow (.AugAssign (.Name x p') op e pos) (agD i f da) := by
  obtain ⟨t, p, k⟩ := h
  refine DS.mk (ps_aug hN hi hx p (fun pins s σ H x y v u Q I rx ry q => augR hr I rx ry q) hf) fun av H0 hs dl st H Dn e q => ?_
  unfold agD at q
  split at q
  · rename_i d ed
    obtain ⟨v, z1, z2⟩ := e.pl i d ed (by simpa using ho)
    refine ⟨v, z1, k av H0 hs dl st H _ e ((asks_out e q).mono (fun d' _ w v' H1 s r => ?_) fun _ z => z)⟩
    refine hop H1 av (avo av ow dl st) v v' d d' _ (fun z => by cases z) (e.sm s).avoh (.inl ((z2.le fun b z => .inl z).sm s)) (.inl r) ((nx_asks (asks_out (e.sm s) w)).mono (fun d2 _ w2 v2 H2 s2 r2 => ?_) fun _ z => z)
    exact w2 _ H2 ((e.sm (s.trans s2)).put (by simpa using ho) r2)
  · exact q.elim
/-- x.append(e), x own -/
def apD (i : Nat) (da : Env → R D) : Env → Out := fun dl => match dl[i]? with
  | some (some (.lst l)) => (da dl).out dl fun d => if l.length < sizeLine then .nx (dl.set i (some (.lst (l ++ [d])))) else .bad
  | _ => .bad
theorem ds_append {i : Nat} {x : Str} {p1 p2 p3 : Pos} (ho : (ow[i]? == some true) = true) (hN : X.N[i]? = some x) (hv : Vis X.env.scope x) (h : DE X fl W ow .t e da)
    (hsw : swapsWith (.Call (.Attribute (.Name x p1) "append" p2) [e] [] p3) none pos.line X.env = pure false := by rfl) (hbase : attributeBase (.Name x p1) "append" X.env (eval (.Name x p1) X.env) = eval (.Name x p1) X.env := by rfl)
    (hfew : ((backTo p3 (starEach [e] X.env)).all (fun x => !x.1) && (backToKw p3 (keywordEach [] X.env)).all (fun x => x.1.isSome)
      && decide (([e] : List Expr).length + ([] : List Keyword).length + (if ([] : List Keyword).isEmpty then 0 else 1) < 30)) = true := by rfl)
    (hline : (p2.endLine == p3.line) = true := by rfl) (hs : starEach [e] X.env = (false, eval e X.env) :: starEach [] X.env := by rfl) (hplain : (backTo p3 (starEach [] X.env)).any (·.1) = false := by rfl)
    (hd : (x == ("__debug__" : Str)) = false := by decide) (hcd : (x == ("__classdict__" : Str)) = false := by decide) :
    DS X fl W ow (.Expr (.Call (.Attribute (.Name x p1) "append" p2) [e] [] p3) pos) (apD i da) := by
  obtain ⟨t, p, k⟩ := h
  refine DS.mk (ps_expr (pe_bm PySem.F.plainAttrs_list PySem.F.slot_list_append PySem.F.type_list_append mt_append (pe_var hN hv hd hcd) (pa_cons p pa_nil hs) hbase hfew hline hs hplain) hsw) fun av H0 hs dl st H Dn e q => ?_
  unfold apD at q
  split at q
  · rename_i l el
    obtain ⟨a, z1, z2, z3, z4⟩ := e.on i _ el (by simpa using ho)
    cases z4 with
    | lst ha hz hr =>
      rename_i xs
      refine ⟨_, z1, .inl ⟨rfl, xs, .of ha⟩, k av H0 hs dl st H _ e ((asks_out e q).mono (fun d _ w v H1 s r => ?_) fun _ z => z)⟩
      split at w
      · rename_i hlt
        refine ⟨a, xs, v, rfl, rfl, s _ _ ha, by rw [hr.length]; exact hlt, ?_⟩
        have e1 := e.sm s
        have pa : avo av ow dl st a := .inr ⟨i, _, by simpa using ho, el, z1⟩
        have r : Rp (gx X fl) H1 (avo av ow dl st) v d := r
        have mv : Mv H1 (avo av ow dl st) (L2.upd H1 a (.lst (xs ++ [v]))) (avo av ow dl st) := fun b o h n => by
          have hb : b ≠ a := fun z => by
            subst z
            rw [s _ _ ha] at h; cases h
            exact n rfl pa
          exact ⟨by rw [upd_ne hb]; exact h, n⟩
        refine w _ _ (e1.upd (by simpa using ho) el z1 (.lst upd_same ?_ (((hr.sm s).append (.cons r .nil)).mv mv)))
        rw [List.length_append, hr.length]
        exact hlt
      · exact w.elim
  · exact q.elim
/-- an expression for its errors -/
theorem ds_expr (h : DE X fl W ow .f e da) (hs : swapsWith e none pos.line X.env = pure false := by rfl) : DS X fl W ow (.Expr e pos) (fun dl => (da dl).out dl fun _ => .nx dl) := by
  obtain ⟨t, p, k⟩ := h
  refine DS.mk (ps_expr p hs) fun av H0 hs dl st H Dn e q => k av H0 hs dl st H _ e ((asks_out e q).mono (fun d _ w v H1 s r => ?_) fun _ z => z)
  exact w _ H1 (e.sm s)
theorem ds_ret (h : DE X fl W ow .f e da) : DS X fl W ow (.Return (some e) pos) (fun dl => (da dl).out dl Out.rt) := by
  obtain ⟨t, p, k⟩ := h
  refine DS.mk (ps_ret p) fun av H0 hs dl st H Dn e q => k av H0 hs dl st H _ e ((asks_out e q).mono (fun d _ w v H1 s r => ?_) fun _ z => z)
  exact w v H1 (e.same.trans s) r
theorem ds_retN : DS X fl W ow (.Return none pos) (fun _ => .rt .non) := DS.mk ps_retN fun av H0 hs dl st H Dn e q => q .non H e.same .non
theorem ds_if {b1 b2 : List Stmt} (hc : DT X fl W ow c tc) (h1 : DSs X fl W ow b1 d1) (h2 : DSs X fl W ow b2 d2) : DS X fl W ow (.If c b1 b2 pos) (fun dl => (tc dl).out dl fun k => if k then d1 dl else d2 dl) := by
  obtain ⟨t, p, k⟩ := hc
  refine DS.mk (ps_if p h1 h2) fun av H0 hs dl st H Dn e q => k av H0 hs dl st H _ e ((asks_out e q).mono (fun d _ w H1 s => ?_) fun _ z => z)
  cases d with
  | true => exact ⟨av, H0, hs, dl, e.sm s, w⟩
  | false => exact ⟨av, H0, hs, dl, e.sm s, w⟩
end
end DL

/-! The data layer: loops, errors, calls, defs. -/
namespace DL
open PySem PySem.Spec PyProof.Rows L2
section
variable {X : Cx} {fl : Str → List Str} {W : WX} {ow : List Bool} {m : Md} {e a b c tg iter elt : Expr} {es ifs : List Expr} {da db dc el : Env → R D} {src : Env → R (List D)} {tgt : D → Env → R Env} {tst : Env → R Bool} {ix : List Nat} {pos : Pos} {s : Stmt} {ss : List Stmt} {d1 d2 : Env → Out} {tc : Env → R Bool}

/-! ### for -/
def forD (tgt : D → Env → R Env) (body : Env → Out) : List D → Env → Out
  | [], dl => .nx dl
  | d :: l, dl => (nxA (tgt d dl)).out dl fun dl' => match body dl' with
    | .nx dl2 => forD tgt body l dl2
    | .ct dl2 => forD tgt body l dl2
    | .bk dl2 => .nx dl2
    | o => o
theorem ds_for (hp : PassesOwn (model X.prog X.w) X.A X.env X.xe) (hc : X.calm = true) (hi : DH X fl W ow tg iter src) (hg : DG X fl ow ix tg tgt) (hb : DSs X fl W ow ss d1) (hs : ∀ x, foldedSetIterable iter X.env x = pure x := by intro _; rfl) :
    DS X fl W ow (.For tg iter ss [] pos) (fun dl => (src dl).out dl fun l => forD tgt d1 l dl) := by
  obtain ⟨wi, p, k⟩ := hi
  refine DS.mk (ps_for hp hc p hg.td hb hs) fun av H0 hs dl st H Dn e q => k av H0 hs dl st H _ e ((asks_out e q).mono (fun l _ w J H1 more s hm js => ?_) fun _ z => z)
  refine ⟨fun i n st2 H2 => n = l.length - i ∧ i ≤ l.length ∧ ∃ dl2, ER (gx X fl) av H0 (more ++ hs) ow dl2 st2 H2 ∧ SAsks (gx X fl) av H0 hs ow W (forD tgt d1 (l.drop i) dl2) Dn, ⟨_, rfl, Nat.zero_le _, dl, (e.sm s).hold hm, w⟩, ?_⟩
  rintro i n st2 H2 ⟨rfl, hi, dl2, er, w2⟩
  have J2 := js _ H2 er.held
  by_cases hlt : i < l.length
  · refine .inr ⟨(J2.1 i l[i] (by simp [hlt])).1, fun st3 H3 => i + 1 ≤ l.length ∧ ∃ dl3, ER (gx X fl) av H0 (more ++ hs) ow dl3 st3 H3 ∧ SAsks (gx X fl) av H0 hs ow W (forD tgt d1 (l.drop (i + 1)) dl3) Dn, fun st3 H3 h3 => ⟨_, ?_, rfl, h3⟩, fun x H3 y => ?_⟩
    · omega
    obtain ⟨s3, rx⟩ := (J2.1 i l[i] (by simp [hlt])).2 x H3 y
    rw [List.drop_eq_getElem_cons hlt] at w2
    unfold forD at w2
    refine ⟨_, H0, more ++ hs, dl2, l[i], er.sm s3, rx, (nxA_asks (asks_out (er.unhold.sm s3) w2)).mono (fun dl3 _ w3 st4 H4 s4 e4 _ _ => ⟨av, H0, more ++ hs, dl3, e4, ?_⟩) fun _ z => z⟩
    generalize d1 dl3 = o at w3 ⊢
    cases o with
    | nx dl5 => exact fun st5 H5 e5 => ⟨hlt, dl5, e5, w3⟩
    | ct dl5 => exact fun st5 H5 e5 => ⟨hlt, dl5, e5, w3⟩
    | bk dl5 => exact fun st5 H5 e5 => w3 st5 H5 e5.unhold
    | rt d => exact w3
    | exc c dl5 => exact fun C st5 H5 hC e5 => w3 C st5 H5 hC e5.unhold
    | bad => exact w3
  · have hil : i = l.length := by omega
    subst hil
    rw [List.drop_length] at w2
    exact .inl ⟨J2.2 _ (Nat.le_refl _), w2 st2 H2 er.unhold⟩
/-! ### while -/
def whD (tc : Env → R Bool) (body : Env → Out) : Nat → Env → Out
  | 0, _ => .bad
  | n + 1, dl => (tc dl).out dl fun k => if k then (match body dl with
    | .nx dl2 => whD tc body n dl2
    | .ct dl2 => whD tc body n dl2
    | .bk dl2 => .nx dl2
    | o => o) else .nx dl
theorem ds_while (n : Nat) (hp : PassesOwn (model X.prog X.w) X.A X.env X.xe) (hc : DT X fl W ow c tc) (hb : DSs X fl W ow ss d1) : DS X fl W ow (.While c ss [] pos) (whD tc d1 n) := by
  obtain ⟨t, p, k⟩ := hc
  refine DS.mk (ps_while hp p hb) fun av H0 hs dl st H Dn e q => ?_
  refine ⟨fun m st H => ∃ dl, ER (gx X fl) av H0 hs ow dl st H ∧ SAsks (gx X fl) av H0 hs ow W (whD tc d1 m dl) Dn, ⟨n, dl, e, q⟩, ?_⟩
  rintro m st2 H2 ⟨dl2, e2, q2⟩
  cases m with
  | zero => exact q2.elim
  | succ m =>
    unfold whD at q2
    refine k av H0 hs dl2 st2 H2 _ e2 ((asks_out e2 q2).mono (fun b _ w H3 s3 => ?_) fun _ z => z)
    cases b with
    | true =>
      refine iteT ⟨fun st3 H3 => ∃ dl, ER (gx X fl) av H0 hs ow dl st3 H3 ∧ SAsks (gx X fl) av H0 hs ow W (whD tc d1 m dl) Dn, fun st3 H3 h3 => ⟨m, Nat.lt_succ_self m, h3⟩, av, H0, hs, dl2, e2.sm s3, ?_⟩
      have w : SAsks (gx X fl) av H0 hs ow W (match d1 dl2 with
        | .nx dl2 => whD tc d1 m dl2
        | .ct dl2 => whD tc d1 m dl2
        | .bk dl2 => .nx dl2
        | o => o) Dn := w
      generalize d1 dl2 = o at w ⊢
      cases o with
      | nx dl5 => exact fun st5 H5 e5 => ⟨dl5, e5, w⟩
      | ct dl5 => exact fun st5 H5 e5 => ⟨dl5, e5, w⟩
      | bk dl5 => exact w
      | rt d => exact w
      | exc c dl5 => exact w
      | bad => exact w
    | false => exact iteF (w st2 H3 (e2.sm s3))
/-! ### raise X('..') -/
theorem ds_raise {C : Addr} {x : Str} (hc : X.calm = true) (tk : Takes X W) (gC : X.mg x = some (.ref C)) (he : PMk X e (fun _ H Q => Q (.ref C) none H)) : DS X fl W ow (.Raise (some e) none pos) (fun dl => .exc x dl) :=
  DS.mk (ps_raise hc tk he) fun av H0 hs dl st H Dn e q => q C st H gC e
/-! ### calls of defs -/
/-- what a def promises -/
def spD (G : Gx) (n : Nat) (F : List D → R D) : Sp := fun vs H Q E => vs.length = n ∧ ∃ av l, (∀ b, av b → ∃ o, H b = some o) ∧ RpAll G H av vs l ∧ Asks (F l) (OkV G H av .t Q) (fun c => ∀ C H', G.mg c = some (.ref C) → Same H H' → E (.ref C) none H')
theorem de_def {f : Addr} {fd : FuncData} {ps : List Str} {k n : Nat} {F : List D → R D} {x : Str} {p : Pos} {ds : Env → R (List D)} (tk : Takes X W) (Fn : FnOk X.prog X.w X.K X.mg X.base (L2.CX X.prog X.w) k f fd ps (spD (gx X fl) n F)) (hr : Room k X.A) (hm : X.mg x = some (.ref f)) (hk : PySem.W.keepIn X.K (.ref f) = true) (hb : Binds X.K fd ps [])
    (hn : (es.length + 1 == n) = true) (hg : Gl X x) (ha : DA X fl W ow m (e :: es) ds) (hmi : (m == .i) = false := by rfl) (hdb : (x == ("__debug__" : Str)) = false := by decide) (he : starEach (e :: es) X.env = (false, eval e X.env) :: starEach es X.env := by rfl) (hpl : (backTo pos (starEach es X.env)).any (·.1) = false := by rfl) :
    DE X fl W ow m (.Call (.Name x p) (e :: es) [] pos) (fun dl => ds dl >>= fun l => if l.length = n then F l else .bad) := by
  obtain ⟨t, q1, k1⟩ := ha
  refine ⟨_, pe_callS Fn hr hg hm hk hb (fun σ => passAt tk σ) q1 hdb he hpl, fun av H0 hs dl st H Q e q => k1 av H0 hs dl st H _ e (q.bind.mono (fun l _ w vs H1 s r => ?_) fun _ z => z)⟩
  split at w
  · rename_i hl
    refine ⟨r.length.trans hl, _, l, (e.sm s).pmh m, r, w.mono (fun d _ w v H2 s2 r2 => ?_) fun c z C H2 hC s2 => z C H2 hC (s.trans s2)⟩
    exact w v H2 (s.trans s2) (Rp.toM r2)
  · exact w.elim
mutual
def imm : D → Bool
  | .non => true | .bl _ => true | .int _ => true | .str _ => true
  | .tup l => immAll l | .frz l => immAll l | .obj _ l => immAll l
  | _ => false
def immAll : List D → Bool
  | [] => true
  | d :: l => imm d && immAll l
end
mutual
theorem Rp.imm {G : Gx} {H : Hp} {P P' : Addr → Prop} : ∀ {v : V} {d : D}, Rp G H P v d → imm d = true → Rp G H P' v d
  | _, _, .non, _ => .non
  | _, _, .bl b, _ => .bl b
  | _, _, .int i, _ => .int i
  | _, _, .str x, _ => .str x
  | _, _, .tup h z r, q => .tup h z (RpAll.imm r (by unfold DL.imm at q; exact q))
  | _, _, .lst h z n r, q => by unfold DL.imm at q; cases q
  | _, _, .lstF h z r, q => .lstF h z (RpAll.imm r (by unfold DL.imm at q; exact q))
  | _, _, .obj h y g f r, q => .obj h y g f (RpAll.imm r (by unfold DL.imm at q; exact q))
  | _, _, .raw h, q => by unfold DL.imm at q; cases q
  | _, _, .dct .., q => by unfold DL.imm at q; cases q
  | _, _, .dcl .., q => by unfold DL.imm at q; cases q
  | _, _, .lk .., q => by unfold DL.imm at q; cases q
theorem RpAll.imm {G : Gx} {H : Hp} {P P' : Addr → Prop} : ∀ {v : List V} {d : List D}, RpAll G H P v d → immAll d = true → RpAll G H P' v d
  | _, _, .nil, _ => .nil
  | _, _, .cons h r, q => by
    unfold immAll at q
    rw [Bool.and_eq_true] at q
    exact .cons (Rp.imm h q.1) (RpAll.imm r q.2)
end
def gi (r : R D) : R D := match r with | .ok d => if imm d then .ok d else .bad | o => o
/-- what holds no list may stand anywhere -/
theorem DE.im (h : DE X fl W ow .f e da) : DE X fl W ow m e (fun dl => gi (da dl)) := by
  obtain ⟨t, p, k⟩ := h
  refine ⟨t, p, fun av H0 hs dl st H Q e q => k av H0 hs dl st H Q e ?_⟩
  have q : Asks (gi (da dl)) (OkV (gx X fl) H (pm m av ow dl st) m Q) (EX (gx X fl) H W st) := q
  cases ed : da dl with
  | ok d =>
    rw [ed] at q
    have q : Asks (if imm d then .ok d else .bad) (OkV (gx X fl) H (pm m av ow dl st) m Q) (EX (gx X fl) H W st) := q
    split at q
    · rename_i hi
      exact fun v H' s r => q v H' s (Rp.toM (Rp.imm (P := av) r hi))
    · exact q.elim
  | exc c => rw [ed] at q; exact q
  | bad => rw [ed] at q; exact q
/-! ### defs -/
def Out.res : Out → R D
  | .rt d => .ok d
  | .nx _ => .ok .non
  | .exc c _ => .exc c
  | _ => .bad
def fnD (n N : Nat) (den : Env → Out) : List D → R D := fun l => if l.length = n then (den (l.map some ++ List.replicate (N - n) none)).res else .bad
theorem er_start {G : Gx} {av : Addr → Prop} {vs : List V} {l : List D} {H : Hp} {N : List Str} (hav : ∀ b, av b → ∃ o, H b = some o) (r : RpAll G H av vs l) (ho : ((ow.take l.length).all (!·)) = true) : ER G av H [] ow (l.map some ++ List.replicate (N.length - l.length) none) (start N vs) H := by
  have hl := r.length
  have inl : ∀ (i : Nat) (d : D), (l.map some ++ List.replicate (N.length - l.length) none)[i]? = some (some d) → i < l.length ∧ l[i]? = some d := fun i d h => by
    by_cases hi : i < l.length
    · refine ⟨hi, ?_⟩
      rw [List.getElem?_append_left (by simpa using hi), List.getElem?_map] at h
      cases q : l[i]? with
      | none => rw [q] at h; cases h
      | some x => rw [q] at h; cases h; rfl
    · rw [List.getElem?_append_right (by simpa using Nat.le_of_not_lt hi)] at h
      rw [List.getElem?_replicate] at h
      split at h <;> cases h
  have now : ∀ i : Nat, i < l.length → ow[i]? ≠ some true := fun i hi h => by
    have h2 : (ow.take l.length)[i]? = some true := by rw [List.getElem?_take_of_lt hi]; exact h
    have := List.all_eq_true.mp ho true (List.mem_of_getElem? h2)
    cases this
  have ae : avo av ow (l.map some ++ List.replicate (N.length - l.length) none) (start N vs) = av := by
    funext b
    refine propext ⟨fun h => h.elim id fun ⟨i, d, h1, h2, _⟩ => absurd h1 (now i (inl i d h2).1), .inl⟩
  refine ⟨.refl H, hav, ?_, fun i d h1 h2 => ?_, fun i d h1 h2 => absurd h2 (now i (inl i d h1).1), fun i j a d d' h1 h2 h3 => absurd h1 (now i (inl i d h3).1), fun p hp => by cases hp⟩
  · unfold L2.start
    simp [hl]
  · rw [ae]
    obtain ⟨q1, q2⟩ := inl i d h1
    obtain ⟨v, z1, z2⟩ := r.get q2
    refine ⟨v, ?_, z2⟩
    unfold L2.start
    rw [List.getElem?_append_left (by simp [hl]; exact q1), List.getElem?_map, z1]
    rfl
theorem fn_def {P : Program} {w : World} {K : PySem.W.Frag} {mg : Str → Option Value} {base : Heap} {x qual : Str} {st : Stmt} {f : Addr} {fd : FuncData} {N ps : List Str} {k n : Nat} {den : Env → Out} (F : Fun K x qual st f fd) (S : FnScope N ps (defScope st)) (hn : (ps.length == n) = true) (ho : ((ow.take n).all (!·)) = true)
    (hbody : ∀ (cdv : Value) (A : Around) (outer : List PySem.Env) (s : Shared) (H : Hp) (E : XK), Room k (A.deeper (envOfC qual (defScope st) s.heap.objs.size f cdv)) →
      DSs (cxOf (L2.CX P w) P w K mg base N qual (defScope st) f cdv A outer s H E) fl (fun cls d _ H => E cls d H) ow (defBody st) den) :
    FnOk P w K mg base (L2.CX P w) (k + 1) f fd ps (spD ⟨K, mg, fl⟩ n (fnD n N.length den)) := by
  have hn : ps.length = n := by simpa using hn
  refine F.okX S (fun vs H Q E h => h.1.trans hn.symm) (fun cdv A outer s H vs Q E hr h => ⟨_, hbody cdv A outer s H E hr, ?_⟩)
  obtain ⟨h1, av, l, hav, r, q⟩ := h
  have hl : l.length = n := r.length.symm.trans h1
  subst hl
  refine ⟨av, H, [], _, er_start hav r ho, ?_⟩
  unfold fnD at q
  rw [if_pos rfl] at q
  generalize den (l.map some ++ List.replicate (N.length - l.length) none) = o at q ⊢
  cases o with
  | nx dl' => exact fun st' H' e' => q .non H' e'.same (Rp.toM .non)
  | rt d => exact fun v H' s r => q v H' s (Rp.toM r)
  | exc c dl' => exact fun C st' H' hC e' => q C H' hC e'.same
  | bk dl' => exact q.elim
  | ct dl' => exact q.elim
  | bad => exact q.elim
end
end DL

/-! The data layer: isinstance, in, errors caught, items stored. -/
namespace DL
open PySem PySem.Spec PyProof.Rows L2
section
variable {X : Cx} {fl : Str → List Str} {W : WX} {ow : List Bool} {m : Md} {e a b c tg iter elt : Expr} {es ifs : List Expr} {da db dc el : Env → R D} {pos : Pos} {s : Stmt} {ss : List Stmt} {d1 d2 : Env → Out} {tc : Env → R Bool}

/-! ### isinstance(x, T), T a built-in type -/
def tyD : D → Option String
  | .non => some "NoneType"
  | .bl _ => some "bool"
  | .int _ => some "int"
  | .str _ => some "str"
  | .tup _ => some "tuple"
  | .lst _ => some "list"
  | .frz _ => some "list"
  | _ => none
theorem rpI_ty {G : Gx} {H : Hp} {P : Addr → Prop} {v : V} {d : D} {t : String} (h : RpI G H P v d) (e : tyD d = some t) : TyX G.K H v (.type t) := by
  cases d with
  | non => cases e; rw [h.non']; exact .base .non
  | bl b => cases e; rw [h.bl']; exact .base (.bl b)
  | int b => cases e; rw [h.int']; exact .base (.int b)
  | str b => cases e; rw [h.str']; exact .base (.str b)
  | tup l =>
    cases e
    obtain ⟨a, xs, rfl, hx, _, _⟩ := h.tup'
    rcases hx with (hx | ⟨o, hx⟩) | ⟨o, its, n, hk, hc, _⟩
    · exact .base (.tup hx)
    · exact .fTuple hx
    · exact .kTuple hk hc
  | lst l =>
    cases e
    obtain ⟨a, xs, rfl, hx, _, _⟩ := h.lst'
    exact .base (.lst hx)
  | frz l =>
    cases e
    obtain ⟨a, xs, rfl, hx, _, _⟩ := h.frz'
    rcases hx with ⟨o, hx⟩ | ⟨o, its, n, hk, hc, _⟩
    · exact .base (.frz hx)
    · exact .kList hk hc
  | _ => cases e
def dIsi (T : String) (d : D) : R D := match tyD d with
  | some t => match kitB t T with | some r => .ok (.bl r) | none => .bad
  | none => .bad
theorem de_isi {T : String} {x : Str} {p p2 : Pos} (hn : X.mg "isinstance" = none) (hg : Gl X "isinstance") (hn2 : X.mg x = none) (hg2 : Gl X x) (hv : bootBuiltins x = some (.type T)) (h : DE X fl W ow .f a da) (hx : x ≠ "__name__" := by decide) (hd : (x == ("__debug__" : Str)) = false := by decide)
    (s1 : starEach [a, .Name x p2] X.env = (false, eval a X.env) :: starEach [.Name x p2] X.env := by rfl) (s2 : starEach [.Name x p2] X.env = (false, eval (.Name x p2) X.env) :: starEach [] X.env := by rfl) (hpl : (backTo pos (starEach [.Name x p2] X.env)).any (·.1) = false := by rfl) :
    DE X fl W ow m (.Call (.Name "isinstance" p) [a, .Name x p2] [] pos) (fun dl => da dl >>= fun d => nx (dIsi T d)) := by
  obtain ⟨t, q1, k⟩ := h
  refine ⟨_, pe_callB call_isi hg hn (by decide +kernel) (pa_cons q1 (pa_cons (pe_bltn (v := .ty T) hg2 hn2 hv rfl hx hd) pa_nil s2) s1) (by decide) (by decide) s1 hpl, fun av H0 hs dl st H Q e q => k av H0 hs dl st H _ e (q.bind.mono (fun d _ w v H1 s r => ?_) fun _ z => z)⟩
  have w := nx_asks w
  unfold dIsi at w
  split at w
  · rename_i t et
    split at w
    · rename_i b eb
      exact ⟨v, .ty T, .type t, .type T, b, rfl, .ty T, rpI_ty (G := gx X fl) (P := av) (.inl r) et, kit_ty eb, w _ H1 s (Rp.toM (.bl b))⟩
    · exact w.elim
  · exact w.elim

/-! ### in, not in -/
def rInG (K : PySem.W.Frag) (neg : Bool) : R2 := fun x y H Q =>
  (∃ d l, Dp K H x d ∧ (Dp K H y (.list l) ∨ Dp K H y (.tuple l)) ∧ SeqAt.shaped d = true ∧ PyData.canLayAll0 l = true ∧ Q (.bl (if neg then !(l.any fun z => PyData.eqv z d) else l.any fun z => PyData.eqv z d)) H) ∨
  (∃ i j, x = .str i ∧ y = .str j ∧ Q (.bl (if neg then !(!(Builtin.Str.occurrences j i 0 j.length 1).isEmpty) else !(Builtin.Str.occurrences j i 0 j.length 1).isEmpty)) H)
theorem room_any {A : Around} {d : PyData} {l : List PyData} (h : SeqAt.shaped d = true) (hu : A.units + 64 < cLine) (hu2 : A.units + 65 < cLine) : A.units + 1 + min (PyData.depthAll l) d.depth < cLine := by
  have h1 := SeqAt.depth_of_shaped h
  have h2 : min (PyData.depthAll l) d.depth ≤ d.depth := Nat.min_le_right _ _
  omega
theorem op_inG (hu : X.A.units + 65 < cLine) : OpR X (compareOp .In) (rInG X.K false) := by
  intro pins s σ H x y v u Q I rx ry h
  rcases h with ⟨d, l, hd, hl, sd, sl, q⟩ | ⟨i, j, rfl, rfl, q⟩
  · obtain ⟨as, r1⟩ := Dp.reads I d x v hd rx
    rcases hl with hl | hl
    · obtain ⟨bs, r2⟩ := Dp.reads I (.list l) y u hl ry
      exact SeqAt.in_list_reads r2 r1 sl (SeqAt.canLay_of_shaped sd) (room_any sd (by omega) hu) ⟨.bl _, H, I, rfl, q⟩
    · obtain ⟨bs, r2⟩ := Dp.reads I (.tuple l) y u hl ry
      exact SeqAt.in_tuple_reads r2 r1 sl (SeqAt.canLay_of_shaped sd) (room_any sd (by omega) hu) ⟨.bl _, H, I, rfl, q⟩
  · exact op_in_str pins s σ H _ _ v u Q I rx ry ⟨i, j, rfl, rfl, q⟩
theorem op_notInG (hu : X.A.units + 65 < cLine) : OpR X (compareOp .NotIn) (rInG X.K true) := by
  intro pins s σ H x y v u Q I rx ry h
  rcases h with ⟨d, l, hd, hl, sd, sl, q⟩ | ⟨i, j, rfl, rfl, q⟩
  · obtain ⟨as, r1⟩ := Dp.reads I d x v hd rx
    rcases hl with hl | hl
    · obtain ⟨bs, r2⟩ := Dp.reads I (.list l) y u hl ry
      exact SeqAt.notIn_list_reads r2 r1 sl (SeqAt.canLay_of_shaped sd) (room_any sd (by omega) hu) ⟨.bl _, H, I, rfl, q⟩
    · obtain ⟨bs, r2⟩ := Dp.reads I (.tuple l) y u hl ry
      exact SeqAt.notIn_tuple_reads r2 r1 sl (SeqAt.canLay_of_shaped sd) (room_any sd (by omega) hu) ⟨.bl _, H, I, rfl, q⟩
  · exact op_notin_str pins s σ H _ _ v u Q I rx ry ⟨i, j, rfl, rfl, q⟩
def dInB : D → D → Option Bool
  | x, .lst l => if flatOk x && PyData.canLayAll0 (pyAll l) then some ((pyAll l).any fun z => PyData.eqv z (py x)) else none
  | x, .tup l => if flatOk x && PyData.canLayAll0 (pyAll l) then some ((pyAll l).any fun z => PyData.eqv z (py x)) else none
  | .str i, .str j => some (!(Builtin.Str.occurrences j i 0 j.length 1).isEmpty)
  | _, _ => none
def dIn (neg : Bool) (x y : D) : R D := match dInB x y with | some b => .ok (.bl (if neg then !b else b)) | none => .bad
theorem o_in {G : Gx} (neg : Bool) : Op2 G false (rInG G.K neg) (dIn neg) := by
  intro H P P' x y a b Q _ _ ra rb h
  unfold dIn at h
  split at h
  · rename_i k ek
    unfold dInB at ek
    split at ek
    · split at ek
      · rename_i c
        cases ek
        rw [Bool.and_eq_true] at c
        have c2 : ∀ l, PyData.canLayAll0 (pyAll l) = true → (py (.lst l)).canLay0 = true := fun l h => by unfold py; simpa [PyData.canLay0] using h
        refine .inl ⟨_, _, ra.dp (SeqAt.canLay_of_shaped c.1), .inl (by have := rb.dp (c2 _ c.2); unfold py at this; exact this), c.1, c.2, ?_⟩
        exact h _ H (.refl H) (.bl _)
      · cases ek
    · split at ek
      · rename_i c
        cases ek
        rw [Bool.and_eq_true] at c
        have c2 : ∀ l, PyData.canLayAll0 (pyAll l) = true → (py (.tup l)).canLay0 = true := fun l h => by unfold py; simpa [PyData.canLay0] using h
        refine .inl ⟨_, _, ra.dp (SeqAt.canLay_of_shaped c.1), .inr (by have := rb.dp (c2 _ c.2); unfold py at this; exact this), c.1, c.2, ?_⟩
        exact h _ H (.refl H) (.bl _)
      · cases ek
    · cases ek
      cases ra.str'; cases rb.str'
      exact .inr ⟨_, _, rfl, rfl, h _ H (.refl H) (.bl _)⟩
    · cases ek
  · exact h.elim

/-! ### try: .. except A: .. except B: .. -/
/-- which classes are below which, of those that are named -/
def SubOk (G : Gx) (sb : Str → Str → Option Bool) : Prop := ∀ c c' C C' b, G.mg c = some (.ref C) → G.mg c' = some (.ref C') → sb c c' = some b → PySem.W.exmOne G.K (.ref C) (.ref C') = some b
def trD (sb : Str → Str → Option Bool) (c : Str) : List (Str × (Env → Out)) → Env → Out
  | [], dl => .exc c dl
  | (x, f) :: r, dl => match sb c x with
    | some true => f dl
    | some false => trD sb c r dl
    | none => .bad
def tryD (sb : Str → Str → Option Bool) (body : Env → Out) (l : List (Str × (Env → Out))) : Env → Out := fun dl => match body dl with
  | .exc c dl' => trD sb c l dl'
  | o => o
/-- the clauses: their classes, what their suites do -/
inductive DHd (X : Cx) (fl : Str → List Str) (ow : List Bool) : List ExceptHandler → List (Str × (Env → Out)) → List (Value × (Addr → Value → Option Addr → TS)) → Prop
  | nil : DHd X fl ow [] [] []
  | cons {x : Str} {C : Addr} {b₀ : Stmt} {suite : List Stmt} {np pos' : Pos} {hds : List ExceptHandler} {l : List (Str × (Env → Out))} {l' : List (Value × (Addr → Value → Option Addr → TS))} {f : Env → Out} (hm : X.mg x = some (.ref C)) (hg : Gl X x) (hd : (x == ("__debug__" : Str)) = false)
      (hsu : ∀ (a : Addr) (oe : Obj) (pn : List (Addr × Obj)), DSs (X.suite a ((a, oe) :: pn)) fl W0 ow (b₀ :: suite) f) (r : DHd X fl ow hds l l') :
      DHd X fl ow (.ExceptHandler (some (.Name x np)) none (b₀ :: suite) pos' :: hds) ((x, f) :: l) ((.ref C, fun _ _ _ => TSd (gx X fl) W0 ow f) :: l')
theorem DHd.hds : ∀ {hd : List ExceptHandler} {l : List (Str × (Env → Out))} {l' : List (Value × (Addr → Value → Option Addr → TS))}, DHd X fl ow hd l l' → HdsOk X hd l'
  | _, _, _, .nil => .nil
  | _, _, _, .cons hm hg hd hsu r => .cons ⟨hg, hd, .inl hm⟩ (fun a oe cls d pn _ _ => hsu a oe pn) (DHd.hds r)
theorem noExc {G : Gx} {av : Addr → Prop} {H0 : Hp} {hs : List (V × D)} {o : Out} {Dn : Ends} (h : ∀ c dl, o ≠ .exc c dl) (q : SAsks G av H0 hs ow W o Dn) : SAsks G av H0 hs ow W0 o Dn := by
  cases o with
  | exc c dl => exact absurd rfl (h c dl)
  | _ => exact q
/-- a suite that lets nothing out -/
def nxO (o : Out) : Out := match o with | .exc _ _ => .bad | o => o
theorem nxO_asks {G : Gx} {av : Addr → Prop} {H0 : Hp} {hs : List (V × D)} {o : Out} {Dn : Ends} (q : SAsks G av H0 hs ow W (nxO o) Dn) : SAsks G av H0 hs ow W0 o Dn := by
  cases o with
  | exc c dl => exact q.elim
  | _ => exact q
def trN (sb : Str → Str → Option Bool) (c : Str) : List (Str × (Env → Out)) → Env → Out
  | [], dl => .exc c dl
  | (x, f) :: r, dl => match sb c x with
    | some true => nxO (f dl)
    | some false => trN sb c r dl
    | none => .bad
def tryN (sb : Str → Str → Option Bool) (body : Env → Out) (l : List (Str × (Env → Out))) : Env → Out := fun dl => match body dl with
  | .exc c dl' => trN sb c l dl'
  | o => o
theorem tr_many {G : Gx} {sb : Str → Str → Option Bool} {K : PySem.W.Frag} (hK : K = G.K) (hsb : SubOk G sb) {av : Addr → Prop} {H0 : Hp} {hs : List (V × D)} {dl : Env} {st : L2.St} {H : Hp} {Dn : Ends} {c : Str} {C : Addr} (hC : G.mg c = some (.ref C)) (e : ER G av H0 hs ow dl st H) (hG : G = gx X fl) :
    ∀ {hd : List ExceptHandler} {l : List (Str × (Env → Out))} {l' : List (Value × (Addr → Value → Option Addr → TS))}, DHd X fl ow hd l l' → SAsks G av H0 hs ow W (trN sb c l dl) Dn → wMany K W Dn l' (.ref C) none st H
  | _, _, _, .nil, q => q C st H hC e
  | _, _, _, .cons (x := x) (C := C') (f := f) hm hg hd hsu r, q => by
    unfold trN at q
    cases z : sb c x with
    | none => rw [z] at q; exact q.elim
    | some b =>
      rw [z] at q
      refine ⟨b, by rw [hK]; exact hsb c x C C' b hC (by rw [hG]; exact hm) z, fun hb a _ => ?_, fun hb => ?_⟩
      · subst hb
        subst hG
        exact ⟨av, H0, hs, dl, e, nxO_asks q⟩
      · subst hb
        exact tr_many hK hsb hC e hG r q
theorem ds_try {sb : Str → Str → Option Bool} {h₀ : ExceptHandler} {hd : List ExceptHandler} {l : List (Str × (Env → Out))} {l' : List (Value × (Addr → Value → Option Addr → TS))} (hs : X.stack = X.env :: X.outer) (hf : X.env.frame = some X.env.locals) (tk : Takes X W) (hsb : SubOk (gx X fl) sb)
    (hb : ∀ (W : WX) (pn : List (Addr × Obj)) (xe : Value → Shared → Prop), Takes (X.tr pn xe) W → PassesOwn (model X.prog X.w) X.A X.env xe → DSs (X.tr pn xe) fl W ow ss d1) (hh : DHd X fl ow (h₀ :: hd) l l') :
    DS X fl W ow (.Try ss (h₀ :: hd) [] [] pos) (tryN sb d1 l) := by
  refine DS.mk (ps_try_many (tb := fun W => TSd (gx X fl) W ow d1) hs hf tk hb hh.hds) fun av H0 hs dl st H Dn e q => ⟨av, H0, hs, dl, e, ?_⟩
  unfold tryN at q
  generalize d1 dl = o at q ⊢
  cases o with
  | exc c dl' => exact fun C st' H' hC e' => tr_many (G := gx X fl) rfl hsb hC e' rfl hh q
  | _ => exact q

/-! ### x[i] = e, x own -/
def stD (i : Nat) (da db : Env → R D) : Env → Out := fun dl => match dl[i]? with
  | some (some (.lst l)) => (da dl).out dl fun d => (db dl).out dl fun k => match k with
    | .int k => (match ixN l.length k with | some j => .nx (dl.set i (some (.lst (l.set j d)))) | none => .bad)
    | _ => .bad
  | _ => .bad
theorem ds_setitem {i : Nat} {x : Str} {p1 p2 : Pos} (ho : (ow[i]? == some true) = true) (hN : X.N[i]? = some x) (hv : Vis X.env.scope x) (h : DE X fl W ow .t e da) (hi : DE X fl W ow .f b db)
    (ha : ∀ v, assign (.Subscript (.Name x p1) b p2) X.env v = (do
      let ov ← holding [v] (eval (.Name x p1) X.env)
      let iv ← holding [v, ov] (eval b X.env)
      standAt p2
      holding [v, ov, iv] (setItem ov iv v)
      release [v, ov, iv] []) := by intro _; rfl)
    (hs : swapsWithSole [.Subscript (.Name x p1) b p2] e pos.line X.env = pure false := by rfl) (hw : swappedStores [.Subscript (.Name x p1) b p2] e X.env = pure none := by rfl)
    (h1 : (assignEach [.Subscript (.Name x p1) b p2] X.env).map (·.2) = [assign (.Subscript (.Name x p1) b p2) X.env] := by rfl) (hd : (x == ("__debug__" : Str)) = false := by decide) (hcd : (x == ("__classdict__" : Str)) = false := by decide) :
    DS X fl W ow (.Assign [.Subscript (.Name x p1) b p2] e pos) (stD i da db) := by
  obtain ⟨t, p, k⟩ := h
  obtain ⟨t', p', k'⟩ := hi
  refine DS.mk (ps_asg p (pg_sub (pe_var hN hv hd hcd) p' set_list ha) hs hw h1) fun av H0 hs dl st H Dn e q => ?_
  unfold stD at q
  split at q
  · rename_i l el
    obtain ⟨a, z1, z2, z3, z4⟩ := e.on i _ el (by simpa using ho)
    cases z4 with
    | lst ha hz hr =>
      rename_i xs
      refine k av H0 hs dl st H _ e ((asks_out e q).mono (fun d _ w v H1 s r => ?_) fun _ z => z)
      refine ⟨_, z1, k' av H0 hs dl st H1 _ (e.sm s) ((asks_out (e.sm s) w).mono (fun d' _ w2 v' H2 s2 r2 => ?_) fun _ z => z)⟩
      cases d' with
      | int kk =>
        dsimp only at w2
        split at w2
        · rename_i j ej
          have S := s.trans s2
          have e1 := e.sm S
          have pa : avo av ow dl st a := .inr ⟨i, _, by simpa using ho, el, z1⟩
          have r : Rp (gx X fl) H1 (avo av ow dl st) v d := r
          refine ⟨a, xs, kk, j, rfl, RpI.int' (P := av) (G := gx X fl) (.inl r2), S _ _ ha, by rw [hr.length]; exact ej, ?_⟩
          have mv : Mv H2 (avo av ow dl st) (L2.upd H2 a (.lst (xs.set j v))) (avo av ow dl st) := fun b o h n => by
            have hb : b ≠ a := fun z => by
              subst z
              rw [S _ _ ha] at h; cases h
              exact n rfl pa
            exact ⟨by rw [upd_ne hb]; exact h, n⟩
          refine w2 _ _ (e1.upd (by simpa using ho) el z1 (.lst upd_same ?_ (((hr.sm S).set (r.sm s2) j).mv mv)))
          rw [List.length_set]
          exact hz
        · exact w2.elim
      | _ => exact w2.elim
  · exact q.elim
end
end DL

/-! The data layer: the words of the printed denotations; what stands of the text. -/
namespace DL
open PySem PySem.Spec PyProof.Rows L2
abbrev eBin (f : D → D → R D) (a b : Env → R D) : Env → R D := fun dl => a dl >>= fun x => b dl >>= fun y => nx (f x y)
abbrev eCall (f : List D → R D) (ds : Env → R (List D)) : Env → R D := fun dl => ds dl >>= fun l => nx (f l)
abbrev eNil : Env → R (List D) := fun _ => .ok []
abbrev eCons (a : Env → R D) (ds : Env → R (List D)) : Env → R (List D) := fun dl => a dl >>= fun d => ds dl >>= fun l => .ok (d :: l)
abbrev eTup (ds : Env → R (List D)) : Env → R D := fun dl => ds dl >>= mkT
abbrev eLst (ds : Env → R (List D)) : Env → R D := fun dl => ds dl >>= mkL
abbrev eChain (f g : D → D → R D) (a b c : Env → R D) : Env → R D := fun dl => a dl >>= fun x => b dl >>= fun y => nx (f x y) >>= asB >>= fun k => if k then c dl >>= fun z => nx (g y z) else .ok (.bl false)
abbrev tVal (a : Env → R D) : Env → R Bool := fun dl => a dl >>= asB
abbrev tCmp' (f : D → D → R D) (a b : Env → R D) : Env → R Bool := fun dl => a dl >>= fun x => b dl >>= fun y => nx (f x y) >>= asB
abbrev tChain' (f g : D → D → R D) (a b c : Env → R D) : Env → R Bool := fun dl => a dl >>= fun x => b dl >>= fun y => nx (f x y) >>= asB >>= fun k => if k then c dl >>= fun z => nx (g y z) >>= asB else .ok false
abbrev eIsN (a : Env → R D) : Env → R D := fun dl => a dl >>= fun x => .ok (.bl (isNon x))
abbrev eNotN (a : Env → R D) : Env → R D := fun dl => a dl >>= fun x => .ok (.bl (!isNon x))
abbrev tIsN' (a : Env → R D) : Env → R Bool := fun dl => a dl >>= fun x => .ok (isNon x)
abbrev tNotN' (a : Env → R D) : Env → R Bool := fun dl => a dl >>= fun x => .ok (!isNon x)
abbrev tNot' (a : Env → R Bool) : Env → R Bool := fun dl => a dl >>= fun k => .ok (!k)
abbrev tAnd' (a b : Env → R Bool) : Env → R Bool := fun dl => a dl >>= fun k => if k then b dl else .ok false
abbrev tOr' (a b : Env → R Bool) : Env → R Bool := fun dl => a dl >>= fun k => if k then .ok true else b dl
abbrev eAnd (a b : Env → R D) : Env → R D := fun dl => a dl >>= asB >>= fun k => if k then b dl else .ok (.bl false)
abbrev eOr (a b : Env → R D) : Env → R D := fun dl => a dl >>= asB >>= fun k => if k then .ok (.bl true) else b dl
abbrev eNot (a : Env → R D) : Env → R D := fun dl => a dl >>= asB >>= fun k => .ok (.bl (!k))
abbrev eNeg (a : Env → R D) : Env → R D := fun dl => a dl >>= fun x => match x with | .int i => .ok (.int (-i)) | _ => .bad
abbrev eIf (t : Env → R Bool) (a b : Env → R D) : Env → R D := fun dl => t dl >>= fun k => if k then a dl else b dl
abbrev pNone : Env → R (Option Int) := fun _ => .ok none
abbrev pSome (a : Env → R D) : Env → R (Option Int) := fun dl => a dl >>= asI
abbrev eSl (a : Env → R D) (lo hi : Env → R (Option Int)) : Env → R D := fun dl => a dl >>= fun x => lo dl >>= fun l => hi dl >>= fun h => nx (dSl x l h)
abbrev eDef (n : Nat) (F : List D → R D) (ds : Env → R (List D)) : Env → R D := fun dl => ds dl >>= fun l => if l.length = n then F l else .bad
abbrev eIm (a : Env → R D) : Env → R D := fun dl => gi (a dl)
abbrev eIsi (T : String) (a : Env → R D) : Env → R D := fun dl => a dl >>= fun d => nx (dIsi T d)
abbrev sSeq (a : Env → R D) : Env → R (List D) := fun dl => a dl >>= dIter
abbrev sRg1 (a : Env → R D) : Env → R (List D) := fun dl => a dl >>= asInt >>= fun n => mkRgI 0 n
abbrev sRg2 (a b : Env → R D) : Env → R (List D) := fun dl => a dl >>= fun x => b dl >>= fun y => asInt x >>= fun i => asInt y >>= fun j => mkRgI i j
abbrev rg1 (a : Env → R D) : Env → R (Int × Int) := fun dl => a dl >>= asInt >>= fun n => .ok (0, n)
abbrev eRg (f : List D → D) (r : Env → R (Int × Int)) : Env → R D := fun dl => r dl >>= mkRg f
abbrev eLc (own : List Nat) (src : Env → R (List D)) (tgt : D → Env → R Env) (tst : Env → R Bool) (el : Env → R D) : Env → R D := fun dl => src dl >>= fun l => nxA (comp tgt tst el (wipeE dl own) l >>= mkL)
abbrev eLc2 (own : List Nat) (src : Env → R (List D)) (tgt : D → Env → R Env) (tst : Env → R Bool) (src1 : Env → R (List D)) (vs1 : List Nat) (tgt1 : D → Env → R Env) (tst1 : Env → R Bool) (el : Env → R D) : Env → R D := fun dl => src dl >>= fun l => nxA (comp2 tgt tst src1 vs1 tgt1 tst1 el (wipeE dl own) l >>= mkL)
abbrev tYes' : Env → R Bool := fun _ => .ok true
abbrev gNil' : List D → Env → R Env := fun l dl => match l with | [] => .ok dl | _ => .bad
abbrev gCons' (d1 : D → Env → R Env) (d2 : List D → Env → R Env) : List D → Env → R Env := fun l dl => match l with | d :: l => d1 d dl >>= d2 l | _ => .bad
abbrev xSet (i : Nat) (a : Env → R D) : Env → Out := fun dl => (a dl).out dl fun d => .nx (dl.set i (some d))
abbrev xAsg (a : Env → R D) (tgt : D → Env → R Env) : Env → Out := fun dl => (a dl).out dl fun d => (nxA (tgt d dl)).out dl Out.nx
abbrev xPar (i j : Nat) (a b : Env → R D) : Env → Out := fun dl => (a dl).out dl fun d => (b dl).out dl fun d' => .nx ((dl.set i (some d)).set j (some d'))
abbrev xExpr (a : Env → R D) : Env → Out := fun dl => (a dl).out dl fun _ => .nx dl
abbrev xRet (a : Env → R D) : Env → Out := fun dl => (a dl).out dl Out.rt
abbrev xRetN : Env → Out := fun _ => .rt .non
abbrev xIf (t : Env → R Bool) (d1 d2 : Env → Out) : Env → Out := fun dl => (t dl).out dl fun k => if k then d1 dl else d2 dl
abbrev xFor (src : Env → R (List D)) (tgt : D → Env → R Env) (body : Env → Out) : Env → Out := fun dl => (src dl).out dl fun l => forD tgt body l dl
abbrev xRaise (c : Str) : Env → Out := fun dl => .exc c dl

/-- a def of the text keeps its promise -/
def Cal (P : Program) (w : World) (K : PySem.W.Frag) (mg : Str → Option Value) (base : Heap) (fl : Str → List Str) (k : Nat) (x : Str) (n : Nat) (F : List D → R D) : Prop :=
  ∃ f fd ps, mg x = some (.ref f) ∧ PySem.W.keepIn K (.ref f) = true ∧ Binds K fd ps [] ∧ FnOk P w K mg base (L2.CX P w) k f fd ps (spD ⟨K, mg, fl⟩ n F)
section
variable {X : Cx} {fl : Str → List Str} {W : WX} {ow : List Bool} {m : Md} {e : Expr} {es : List Expr} {pos : Pos}
theorem dc {k k' n : Nat} {F : List D → R D} {x : Str} {p : Pos} {ds : Env → R (List D)} (tk : Takes X W) (C : Cal X.prog X.w X.K X.mg X.base fl k x n F) (hr : Room k' X.A) (hk : k ≤ k')
    (hn : (es.length + 1 == n) = true) (hg : Gl X x) (ha : DA X fl W ow m (e :: es) ds) (hmi : (m == .i) = false := by rfl) (hdb : (x == ("__debug__" : Str)) = false := by decide) (he : starEach (e :: es) X.env = (false, eval e X.env) :: starEach es X.env := by rfl) (hpl : (backTo pos (starEach es X.env)).any (·.1) = false := by rfl) :
    DE X fl W ow m (.Call (.Name x p) (e :: es) [] pos) (eDef n F ds) := by
  obtain ⟨f, fd, ps, h1, h2, h3, h4⟩ := C
  exact de_def tk h4 (hr.mono hk) h1 h2 h3 hn hg ha hmi hdb he hpl
end
/-- a def as it stands behind the top -/
structure DefAt (K : PySem.W.Frag) (mg : Str → Option Value) (x : Str) (st : Stmt) (n : Nat) : Prop where
  ex : ∃ f fd ps, mg x = some (.ref f) ∧ Fun K x x st f fd ∧ Binds K fd ps [] ∧ ps.length = n ∧ ps = (defArgs st).args.map (·.arg)
/-- a def of the text keeps its promise, the def told -/
def CalAt (P : Program) (w : World) (K : PySem.W.Frag) (mg : Str → Option Value) (base : Heap) (fl : Str → List Str) (k : Nat) (x : Str) (st : Stmt) (n : Nat) (F : List D → R D) : Prop :=
  ∃ f fd, mg x = some (.ref f) ∧ Fun K x x st f fd ∧ Binds K fd ((defArgs st).args.map (·.arg)) [] ∧ FnOk P w K mg base (L2.CX P w) k f fd ((defArgs st).args.map (·.arg)) (spD ⟨K, mg, fl⟩ n F)
theorem CalAt.cal {P : Program} {w : World} {K : PySem.W.Frag} {mg : Str → Option Value} {base : Heap} {fl : Str → List Str} {k n : Nat} {x : Str} {st : Stmt} {F : List D → R D} (h : CalAt P w K mg base fl k x st n F) : Cal P w K mg base fl k x n F := by
  obtain ⟨f, fd, h1, h2, h3, h4⟩ := h
  exact ⟨f, fd, _, h1, h2.kp, h3, h4⟩
theorem DefAt.calAt {P : Program} {w : World} {K : PySem.W.Frag} {mg : Str → Option Value} {base : Heap} {fl : Str → List Str} {k n : Nat} {x : Str} {st : Stmt} {N ps : List Str} {ow : List Bool} {den : Env → Out} (h : DefAt K mg x st n) (S : FnScope N ps (defScope st)) (hps : ps = (defArgs st).args.map (·.arg)) (ho : ((ow.take n).all (!·)) = true)
    (hbody : ∀ (f : Addr) (cdv : Value) (A : Around) (outer : List PySem.Env) (s : Shared) (H : Hp) (E : XK), Room k (A.deeper (envOfC x (defScope st) s.heap.objs.size f cdv)) →
      DSs (cxOf (L2.CX P w) P w K mg base N x (defScope st) f cdv A outer s H E) fl (fun cls d _ H => E cls d H) ow (defBody st) den) : CalAt P w K mg base fl (k + 1) x st n (fnD n N.length den) := by
  obtain ⟨f, fd, ps', h1, h2, h3, h4, h5⟩ := h
  subst hps
  subst h5
  exact ⟨f, fd, h1, h2, h3, fn_def h2 S (by simpa using h4) ho (hbody f)⟩
theorem DefAt.cal {P : Program} {w : World} {K : PySem.W.Frag} {mg : Str → Option Value} {base : Heap} {fl : Str → List Str} {k n : Nat} {x : Str} {st : Stmt} {N ps : List Str} {ow : List Bool} {den : Env → Out} (h : DefAt K mg x st n) (S : FnScope N ps (defScope st)) (hps : ps = (defArgs st).args.map (·.arg)) (ho : ((ow.take n).all (!·)) = true)
    (hbody : ∀ (f : Addr) (cdv : Value) (A : Around) (outer : List PySem.Env) (s : Shared) (H : Hp) (E : XK), Room k (A.deeper (envOfC x (defScope st) s.heap.objs.size f cdv)) →
      DSs (cxOf (L2.CX P w) P w K mg base N x (defScope st) f cdv A outer s H E) fl (fun cls d _ H => E cls d H) ow (defBody st) den) : Cal P w K mg base fl (k + 1) x n (fnD n N.length den) := (h.calAt S hps ho hbody).cal
theorem Room.u65 {k : Nat} {A : Around} (r : Room k A) : A.units + 65 < cLine := by have := r.un; omega
def dAddI : D → D → R D
  | .int i, .int j => .ok (.int (i + j))
  | _, _ => .bad
theorem o_addI {G : Gx} : Op2 G false (rI0 fun i j => .int (i + j)) dAddI := by
  intro H P P' x y a b Q _ _ ra rb h
  unfold dAddI at h
  split at h
  · cases ra.int'; cases rb.int'
    exact ⟨_, _, rfl, rfl, h _ H (.refl H) (.int _)⟩
  · exact h.elim
def dMulI : D → D → R D
  | .int i, .int j => if smallI i || smallI j then .ok (.int (i * j)) else .bad
  | _, _ => .bad
theorem o_mulI {G : Gx} : Op2 G false (rI CMul fun i j => .int (i * j)) dMulI := by
  intro H P P' x y a b Q _ _ ra rb h
  unfold dMulI at h
  split at h
  · cases ra.int'; cases rb.int'
    split at h
    · rename_i z
      exact ⟨_, _, rfl, rfl, smallI_mul z, h _ H (.refl H) (.int _)⟩
    · exact h.elim
  · exact h.elim
/-- an own error class over ValueError -/
def ExcAt (K : PySem.W.Frag) (mg : Str → Option Value) (x : Str) : Prop :=
  ∃ C, mg x = some (.ref C) ∧ PySem.W.excIn K C [.type "ValueError", .type "Exception", .type "BaseException", .type "object"] "ValueError.__new__" = true ∧ PySem.W.keepIn K (.ref C) = true ∧
    PySem.W.subIn K (.ref C) (.type "BaseException") = some true ∧ PySem.W.typeIn K (.ref C) = some (.type "type")
section
variable {X : Cx} {fl : Str → List Str} {W : WX} {ow : List Bool} {pos : Pos} {ss : List Stmt} {d1 : Env → Out}
theorem ds_raiseE {x msg : Str} {j : Nat} {p p2 p3 : Pos} (hc : X.calm = true) (tk : Takes X W) (h : ExcAt X.K X.mg x) (hg : Gl X x) (hdb : (x == ("__debug__" : Str)) = false := by decide) :
    DS X fl W ow (.Raise (some (.Call (.Name x p) [.Constant (.str msg) j p2] [] p3)) none pos) (xRaise x) := by
  obtain ⟨C, h1, h2, h3, h4, h5⟩ := h
  exact ds_raise hc tk h1 (pmk_own PySem.F.excBase_ValueError h2 h1 h3 (raises_own h4 h5) hg hdb)
theorem Room.suite {k : Nat} {A : Around} (r : Room k A) (v : Option Value) : True := trivial
theorem dhd_cons {x : Str} {b₀ : Stmt} {suite : List Stmt} {np pos' : Pos} {hds : List ExceptHandler} {l : List (Str × (Env → Out))} {f : Env → Out} (h : ExcAt X.K X.mg x) (hg : Gl X x) (hd : (x == ("__debug__" : Str)) = false)
    (hsu : ∀ (a : Addr) (oe : Obj) (pn : List (Addr × Obj)), DSs (X.suite a ((a, oe) :: pn)) fl W0 ow (b₀ :: suite) f) (r : ∃ l', DHd X fl ow hds l l') : ∃ l', DHd X fl ow (.ExceptHandler (some (.Name x np)) none (b₀ :: suite) pos' :: hds) ((x, f) :: l) l' := by
  obtain ⟨C, h1, _⟩ := h
  obtain ⟨l', r⟩ := r
  exact ⟨_, .cons h1 hg hd hsu r⟩
theorem ds_tryE {sb : Str → Str → Option Bool} {h₀ : ExceptHandler} {hd : List ExceptHandler} {l : List (Str × (Env → Out))} (hs : X.stack = X.env :: X.outer) (hf : X.env.frame = some X.env.locals) (tk : Takes X W) (hsb : SubOk (gx X fl) sb)
    (hb : ∀ (W : WX) (pn : List (Addr × Obj)) (xe : Value → Shared → Prop), Takes (X.tr pn xe) W → PassesOwn (model X.prog X.w) X.A X.env xe → DSs (X.tr pn xe) fl W ow ss d1) (hh : ∃ l', DHd X fl ow (h₀ :: hd) l l') :
    DS X fl W ow (.Try ss (h₀ :: hd) [] [] pos) (tryN sb d1 l) := by
  obtain ⟨l', hh⟩ := hh
  exact ds_try hs hf tk hsb hb hh
theorem de_gintE {m : Md} {x : Str} {i : Int} (hm : ∃ u, X.mg x = some (.int i u)) (hg : Gl X x) (hd : (x == ("__debug__" : Str)) = false := by decide) : DE X fl W ow m (.Name x pos) (cst (.int i)) := by
  obtain ⟨u, hm⟩ := hm
  exact de_gint hm hg hd
theorem de_gstrE {m : Md} {x : Str} {i : Str} (hm : ∃ u, X.mg x = some (.str i u)) (hg : Gl X x) (hd : (x == ("__debug__" : Str)) = false := by decide) : DE X fl W ow m (.Name x pos) (cst (.str i)) := by
  obtain ⟨u, hm⟩ := hm
  exact de_gstr hm hg hd
end
/-- which named error class is below which -/
def sbOf : List (Str × Str × Bool) → Str → Str → Option Bool
  | [], _, _ => none
  | t :: r, c, x => if t.1 = c ∧ t.2.1 = x then some t.2.2 else sbOf r c x
/-- the turns a while may take, at most -/
def fuel : Nat := 1000000000
end DL

/-! The data layer: reckoning with data. -/
namespace DL
open PySem PySem.Spec PyProof.Rows L2
@[simp] theorem gv_eq (i : Nat) (dl : Env) : gv i dl = match dl[i]? with | some (some d) => .ok d | _ => .bad := rfl
@[simp] theorem sv_eq (i : Nat) (d : D) (dl : Env) : sv i d dl = .ok (dl.set i (some d)) := rfl
@[simp] theorem cst_eq (d : D) (dl : Env) : cst d dl = .ok d := rfl
@[simp] theorem okb {α β : Type} (a : α) (f : α → R β) : ((R.ok a : R α) >>= f) = f a := rfl
@[simp] theorem excb {α β : Type} (c : Str) (f : α → R β) : ((R.exc c : R α) >>= f) = .exc c := rfl
@[simp] theorem nx_ok (d : D) : nx (.ok d) = .ok d := rfl
@[simp] theorem nxA_ok {α : Type} (d : α) : nxA (R.ok d) = .ok d := rfl
@[simp] theorem nxO_nx (e : Env) : nxO (.nx e) = .nx e := rfl
@[simp] theorem nxO_rt (d : D) : nxO (.rt d) = .rt d := rfl
@[simp] theorem out_ok {α : Type} (a : α) (dl : Env) (f : α → Out) : (R.ok a).out dl f = f a := rfl
@[simp] theorem out_exc {α : Type} (c : Str) (dl : Env) (f : α → Out) : (R.exc c : R α).out dl f = .exc c dl := rfl
/-- what follows -/
def Out.next (o : Out) (f : Env → Out) : Out := match o with | .nx e => f e | o => o
@[simp] theorem seqO_eq (a b : Env → Out) (e : Env) : seqO a b e = (a e).next b := rfl
@[simp] theorem next_nx (e : Env) (f : Env → Out) : (Out.nx e).next f = f e := rfl
@[simp] theorem next_rt (d : D) (f : Env → Out) : (Out.rt d).next f = .rt d := rfl
@[simp] theorem next_bk (d : Env) (f : Env → Out) : (Out.bk d).next f = .bk d := rfl
@[simp] theorem next_ct (d : Env) (f : Env → Out) : (Out.ct d).next f = .ct d := rfl
@[simp] theorem next_exc (c : Str) (d : Env) (f : Env → Out) : (Out.exc c d).next f = .exc c d := rfl
@[simp] theorem res_rt (d : D) : (Out.rt d).res = .ok d := rfl
@[simp] theorem res_nx (e : Env) : (Out.nx e).res = .ok .non := rfl
@[simp] theorem res_exc (c : Str) (e : Env) : (Out.exc c e).res = .exc c := rfl
/-- what is asked of an end -/
structure Po where
  nx : Env → Prop
  rt : D → Prop
  exc : Str → Prop
  bk : Env → Prop
  ct : Env → Prop
def Out.wp (o : Out) (Q : Po) : Prop := match o with
  | .nx e => Q.nx e
  | .rt d => Q.rt d
  | .exc c _ => Q.exc c
  | .bk e => Q.bk e
  | .ct e => Q.ct e
  | .bad => False
@[simp] theorem wp_nx (e : Env) (Q : Po) : (Out.nx e).wp Q = Q.nx e := rfl
@[simp] theorem wp_rt (d : D) (Q : Po) : (Out.rt d).wp Q = Q.rt d := rfl
@[simp] theorem wp_exc (c : Str) (e : Env) (Q : Po) : (Out.exc c e).wp Q = Q.exc c := rfl
@[simp] theorem wp_bk (e : Env) (Q : Po) : (Out.bk e).wp Q = Q.bk e := rfl
@[simp] theorem wp_ct (e : Env) (Q : Po) : (Out.ct e).wp Q = Q.ct e := rfl
@[simp] theorem wp_next (o : Out) (f : Env → Out) (Q : Po) : (o.next f).wp Q = o.wp ⟨fun e => (f e).wp Q, Q.rt, Q.exc, Q.bk, Q.ct⟩ := by cases o <;> rfl
/-- a def by its body's end -/
theorem fn_wp {n N : Nat} {den : Env → Out} {l : List D} {r : R D} (hl : l.length = n) (h : (den (l.map some ++ List.replicate (N - n) none)).wp ⟨fun _ => r = .ok .non, fun d => r = .ok d, fun c => r = .exc c, fun _ => False, fun _ => False⟩) : fnD n N den l = r := by
  unfold fnD
  rw [if_pos hl]
  generalize den (l.map some ++ List.replicate (N - n) none) = o at h ⊢
  cases o with
  | bk e => exact h.elim
  | ct e => exact h.elim
  | bad => exact h.elim
  | _ => exact (show r = _ from h).symm
theorem fn_wpP {n N : Nat} {den : Env → Out} {l : List D} (P : R D → Prop) (hl : l.length = n) (h : (den (l.map some ++ List.replicate (N - n) none)).wp ⟨fun _ => P (.ok .non), fun d => P (.ok d), fun c => P (.exc c), fun _ => False, fun _ => False⟩) : P (fnD n N den l) := by
  unfold fnD
  rw [if_pos hl]
  generalize den (l.map some ++ List.replicate (N - n) none) = o at h ⊢
  cases o with
  | bk e => exact h.elim
  | ct e => exact h.elim
  | bad => exact h.elim
  | _ => exact h
theorem fnD_eq (n N : Nat) (den : Env → Out) (l : List D) (h : l.length = n) : fnD n N den l = (den (l.map some ++ List.replicate (N - n) none)).res := by
  unfold fnD
  rw [if_pos h]
/-! ### numbers -/
@[simp] theorem dAdd_ii (i j : Int) : dAdd (.int i) (.int j) = .ok (.int (i + j)) := rfl
@[simp] theorem dSub_ii (i j : Int) : dSub (.int i) (.int j) = .ok (.int (i - j)) := rfl
@[simp] theorem dCmp_ii (f : Int → Int → Bool) (i j : Int) : dCmp f (.int i) (.int j) = .ok (.bl (f i j)) := rfl
@[simp] theorem asB_bl (b : Bool) : asB (.bl b) = .ok b := rfl
@[simp] theorem asI_int (i : Int) : asI (.int i) = .ok (some i) := rfl
@[simp] theorem asInt_int (i : Int) : asInt (.int i) = .ok i := rfl
theorem dMul_l {i j : Int} (h : smallI i = true) : dMul (.int i) (.int j) = .ok (.int (i * j)) := by simp [dMul, h]
theorem dMul_r {i j : Int} (h : smallI j = true) : dMul (.int i) (.int j) = .ok (.int (i * j)) := by simp [dMul, h]
theorem dMulI_l {i j : Int} (h : smallI i = true) : dMulI (.int i) (.int j) = .ok (.int (i * j)) := by simp [dMulI, h]
theorem dMulI_r {i j : Int} (h : smallI j = true) : dMulI (.int i) (.int j) = .ok (.int (i * j)) := by simp [dMulI, h]
theorem small_of {i : Int} (h1 : 0 ≤ i) (h2 : i ≤ 1000000000) : smallI i = true := by
  unfold smallI
  simp only [decide_eq_true_eq]
  omega
theorem dMod_eq {i j : Int} (h : 0 < j) : dMod (.int i) (.int j) = .ok (.int (i % j)) := by simp [dMod, h]
theorem dFdiv_eq {i j : Int} (h : 0 < j) (h2 : j < 1073741824) : dFdiv (.int i) (.int j) = .ok (.int (i / j)) := by
  have h3 : j.natAbs < 1073741824 := by omega
  simp [dFdiv, h, h3]
@[simp] theorem dInt_int (i : Int) : dInt [.int i] = .ok (.int i) := rfl
@[simp] theorem dInt_bl (b : Bool) : dInt [.bl b] = .ok (.int (if b then 1 else 0)) := rfl
@[simp] theorem dLen_tup (l : List D) : dLen [.tup l] = .ok (.int l.length) := rfl
@[simp] theorem dLen_lst (l : List D) : dLen [.lst l] = .ok (.int l.length) := rfl
@[simp] theorem dLen_frz (l : List D) : dLen [.frz l] = .ok (.int l.length) := rfl
@[simp] theorem dMin2_eq (i j : Int) : dMin2 [.int i, .int j] = .ok (.int (min i j)) := by
  show R.ok (D.int (if j < i then j else i)) = _
  congr 2
  omega
@[simp] theorem dMax2_eq (i j : Int) : dMax2 [.int i, .int j] = .ok (.int (max i j)) := by
  show R.ok (D.int (if j > i then j else i)) = _
  congr 2
  omega
@[simp] theorem dTuple_lst (l : List D) : dTuple [.lst l] = .ok (.tup l) := rfl
@[simp] theorem dTuple_tup (l : List D) : dTuple [.tup l] = .ok (.tup l) := rfl
@[simp] theorem dTuple_frz (l : List D) : dTuple [.frz l] = .ok (.tup l) := rfl
@[simp] theorem dList_lst (l : List D) : dList [.lst l] = .ok (.lst l) := rfl
@[simp] theorem dList_tup (l : List D) : dList [.tup l] = .ok (.lst l) := rfl
@[simp] theorem dIter_tup (l : List D) : dIter (.tup l) = .ok l := rfl
@[simp] theorem dIter_lst (l : List D) : dIter (.lst l) = .ok l := rfl
@[simp] theorem dIter_frz (l : List D) : dIter (.frz l) = .ok l := rfl
theorem dAll_eq (bs : List Bool) : dAll [.lst (bs.map D.bl)] = .ok (.bl (bs.all id)) := by
  show (match unB (bs.map D.bl) with | some bs => R.ok (D.bl (bs.all id)) | none => .bad) = _
  rw [unB_map]
theorem dAny_eq (bs : List Bool) : dAny [.lst (bs.map D.bl)] = .ok (.bl (bs.any id)) := by
  show (match unB (bs.map D.bl) with | some bs => R.ok (D.bl (bs.any id)) | none => .bad) = _
  rw [unB_map]
@[simp] theorem dAll_map {α : Type} (l : List α) (p : α → Bool) : dAll [.lst (l.map fun x => D.bl (p x))] = .ok (.bl (l.all p)) := by
  rw [show l.map (fun x => D.bl (p x)) = (l.map p).map D.bl by simp, dAll_eq]
  simp [List.all_map]
@[simp] theorem dAny_map {α : Type} (l : List α) (p : α → Bool) : dAny [.lst (l.map fun x => D.bl (p x))] = .ok (.bl (l.any p)) := by
  rw [show l.map (fun x => D.bl (p x)) = (l.map p).map D.bl by simp, dAny_eq]
  simp [List.any_map]
theorem size_big : (16777216 : Nat) = sizeLine := sizeLine_eq.symm
theorem mkT_eq {l : List D} (h : l.length ≤ 16777216) : mkT l = .ok (.tup l) := by
  unfold mkT
  rw [if_pos (by rw [sizeLine_eq]; exact h)]
theorem mkL_eq {l : List D} (h : l.length ≤ 16777216) : mkL l = .ok (.lst l) := by
  unfold mkL
  rw [if_pos (by rw [sizeLine_eq]; exact h)]
@[simp] theorem mkT_0 : mkT [] = .ok (.tup []) := mkT_eq (by simp)
@[simp] theorem mkT_1 (x0 : D) : mkT [x0] = .ok (.tup [x0]) := mkT_eq (by simp)
@[simp] theorem mkT_2 (x0 x1 : D) : mkT [x0, x1] = .ok (.tup [x0, x1]) := mkT_eq (by simp)
@[simp] theorem mkT_3 (x0 x1 x2 : D) : mkT [x0, x1, x2] = .ok (.tup [x0, x1, x2]) := mkT_eq (by simp)
@[simp] theorem mkT_4 (x0 x1 x2 x3 : D) : mkT [x0, x1, x2, x3] = .ok (.tup [x0, x1, x2, x3]) := mkT_eq (by simp)
@[simp] theorem mkT_5 (x0 x1 x2 x3 x4 : D) : mkT [x0, x1, x2, x3, x4] = .ok (.tup [x0, x1, x2, x3, x4]) := mkT_eq (by simp)
@[simp] theorem mkL_0 : mkL [] = .ok (.lst []) := mkL_eq (by simp)
@[simp] theorem mkL_1 (x0 : D) : mkL [x0] = .ok (.lst [x0]) := mkL_eq (by simp)
@[simp] theorem mkL_2 (x0 x1 : D) : mkL [x0, x1] = .ok (.lst [x0, x1]) := mkL_eq (by simp)
@[simp] theorem mkL_3 (x0 x1 x2 : D) : mkL [x0, x1, x2] = .ok (.lst [x0, x1, x2]) := mkL_eq (by simp)
@[simp] theorem mkL_4 (x0 x1 x2 x3 : D) : mkL [x0, x1, x2, x3] = .ok (.lst [x0, x1, x2, x3]) := mkL_eq (by simp)
@[simp] theorem mkL_5 (x0 x1 x2 x3 x4 : D) : mkL [x0, x1, x2, x3, x4] = .ok (.lst [x0, x1, x2, x3, x4]) := mkL_eq (by simp)
theorem dAdd_tt {a b : List D} (h : a.length + b.length ≤ 16777216) : dAdd (.tup a) (.tup b) = .ok (.tup (a ++ b)) := mkT_eq (by simpa using h)
theorem dAdd_ll {a b : List D} (h : a.length + b.length ≤ 16777216) : dAdd (.lst a) (.lst b) = .ok (.lst (a ++ b)) := mkL_eq (by simpa using h)
/-! ### ranges -/
/-- the numbers below n -/
def rg (n : Nat) : List Int := (List.range n).map fun (i : Nat) => (i : Int)
theorem rg_length (n : Nat) : (rg n).length = n := by simp [rg]
theorem mem_rg {n : Nat} {x : Int} : x ∈ rg n ↔ 0 ≤ x ∧ x < n := by
  unfold rg
  rw [List.mem_map]
  constructor
  · rintro ⟨i, hi, rfl⟩
    have := List.mem_range.mp hi
    omega
  · intro h
    exact ⟨x.toNat, List.mem_range.mpr (by omega), by omega⟩
theorem rg_get {n i : Nat} (h : i < n) : (rg n)[i]? = some (i : Int) := by
  unfold rg
  rw [List.getElem?_map, List.getElem?_range h]
  rfl
theorem rgD_rg (n : Nat) : rgD 0 (n : Int) = (rg n).map D.int := by
  unfold rgD rg
  simp
theorem mkRgI_eq {n : Nat} (h : n ≤ 1000000000) : mkRgI 0 (n : Int) = .ok ((rg n).map D.int) := by
  unfold mkRgI
  rw [if_pos (by unfold rgSmall; simp only [Bool.and_eq_true, decide_eq_true_eq]; omega), rgD_rg]
theorem mkRgI2_eq {a b : Nat} (h : a ≤ b) (h2 : b ≤ 1000000000) : mkRgI (a : Int) (b : Int) = .ok ((rg (b - a)).map fun x => D.int (a + x)) := by
  unfold mkRgI
  rw [if_pos (by unfold rgSmall; simp only [Bool.and_eq_true, decide_eq_true_eq]; omega)]
  unfold rgD rg
  rw [List.map_map]
  have e : ((b : Int) - (a : Int)).toNat = b - a := by omega
  rw [e]
  rfl
/-! ### places -/
theorem atI_ok {α : Type} {l : List α} {i : Int} {x : α} (h0 : 0 ≤ i) (h : l[i.toNat]? = some x) : atI l i = some x := by
  have h1 := (List.getElem?_eq_some_iff.mp h).1
  unfold atI ixN
  rw [if_pos h0, if_pos (by omega)]
  exact h
theorem dIx_tup {l : List D} {i : Int} {x : D} (h0 : 0 ≤ i) (h : l[i.toNat]? = some x) : dIx (.tup l) (.int i) = .ok x := by
  show dAt l i = _
  unfold dAt
  rw [atI_ok h0 h]
theorem dIx_lst {l : List D} {i : Int} {x : D} (h0 : 0 ≤ i) (h : l[i.toNat]? = some x) : dIx (.lst l) (.int i) = .ok x := by
  show dAt l i = _
  unfold dAt
  rw [atI_ok h0 h]
theorem dIx_frz {l : List D} {i : Int} {x : D} (h0 : 0 ≤ i) (h : l[i.toNat]? = some x) : dIx (.frz l) (.int i) = .ok x := by
  show dAt l i = _
  unfold dAt
  rw [atI_ok h0 h]
/-- the item at a place of a list of numbers -/
def at0 (l : List Int) (i : Int) : Int := l.getD i.toNat 0
theorem dIx_tI {l : List Int} {i : Int} (h0 : 0 ≤ i) (h : i < l.length) : dIx (.tup (l.map D.int)) (.int i) = .ok (.int (at0 l i)) := by
  refine dIx_tup h0 ?_
  have hl : i.toNat < l.length := by omega
  rw [List.getElem?_map, List.getElem?_eq_getElem hl]
  unfold at0
  rw [List.getD_eq_getElem?_getD, List.getElem?_eq_getElem hl]
  rfl
theorem dIx_lI {l : List Int} {i : Int} (h0 : 0 ≤ i) (h : i < l.length) : dIx (.lst (l.map D.int)) (.int i) = .ok (.int (at0 l i)) := by
  refine dIx_lst h0 ?_
  have hl : i.toNat < l.length := by omega
  rw [List.getElem?_map, List.getElem?_eq_getElem hl]
  unfold at0
  rw [List.getD_eq_getElem?_getD, List.getElem?_eq_getElem hl]
  rfl
theorem dIx_fI {l : List Int} {i : Int} (h0 : 0 ≤ i) (h : i < l.length) : dIx (.frz (l.map D.int)) (.int i) = .ok (.int (at0 l i)) := by
  refine dIx_frz h0 ?_
  have hl : i.toNat < l.length := by omega
  rw [List.getElem?_map, List.getElem?_eq_getElem hl]
  unfold at0
  rw [List.getD_eq_getElem?_getD, List.getElem?_eq_getElem hl]
  rfl
theorem at0_mem {l : List Int} {i : Int} (h0 : 0 ≤ i) (h : i < l.length) : at0 l i ∈ l := by
  have hl : i.toNat < l.length := by omega
  unfold at0
  rw [List.getD_eq_getElem?_getD, List.getElem?_eq_getElem hl]
  exact List.getElem_mem hl
@[simp] theorem dIx_t0 (x : D) (l : List D) : dIx (.tup (x :: l)) (.int 0) = .ok x := dIx_tup (by omega) rfl
@[simp] theorem dIx_t1 (x y : D) (l : List D) : dIx (.tup (x :: y :: l)) (.int 1) = .ok y := dIx_tup (by omega) rfl
@[simp] theorem dIx_t2 (x y z : D) (l : List D) : dIx (.tup (x :: y :: z :: l)) (.int 2) = .ok z := dIx_tup (by omega) rfl
@[simp] theorem dIx_l0 (x : D) (l : List D) : dIx (.lst (x :: l)) (.int 0) = .ok x := dIx_lst (by omega) rfl
@[simp] theorem dIx_l1 (x y : D) (l : List D) : dIx (.lst (x :: y :: l)) (.int 1) = .ok y := dIx_lst (by omega) rfl
@[simp] theorem dIx_l2 (x y z : D) (l : List D) : dIx (.lst (x :: y :: z :: l)) (.int 2) = .ok z := dIx_lst (by omega) rfl
/-! ### slices -/
theorem cutD_nat (l : List D) (a b : Nat) (h : a ≤ b) : cutD l (some (a : Int)) (some (b : Int)) = (l.drop a).take (b - a) := by
  unfold cutD
  rw [HT.sIx_nat, HT.sIx_nat]
  by_cases ha : a ≤ l.length
  · rw [Nat.min_eq_left ha]
    by_cases hb : b ≤ l.length
    · rw [Nat.min_eq_left hb]
    · rw [Nat.min_eq_right (by omega), List.take_of_length_le (by rw [List.length_drop]; exact Nat.le_refl _), List.take_of_length_le (by rw [List.length_drop]; omega)]
  · rw [Nat.min_eq_right (by omega : l.length ≤ a), Nat.min_eq_right (by omega : l.length ≤ b), List.drop_length, List.drop_of_length_le (by omega)]
    simp
theorem cutD_to (l : List D) (b : Nat) : cutD l none (some (b : Int)) = l.take b := by
  have e : cutD l none (some (b : Int)) = cutD l (some ((0 : Nat) : Int)) (some (b : Int)) := by
    unfold cutD
    rw [HT.sIx_nat l.length 0 0]
    simp [HT.sIx_none]
  rw [e, cutD_nat l 0 b (by omega)]
  simp
theorem cutD_from (l : List D) (a : Nat) : cutD l (some (a : Int)) none = l.drop a := by
  unfold cutD
  rw [HT.sIx_nat, HT.sIx_none]
  by_cases ha : a ≤ l.length
  · rw [Nat.min_eq_left ha]
    exact List.take_of_length_le (by rw [List.length_drop]; exact Nat.le_refl _)
  · rw [Nat.min_eq_right (by omega), List.drop_length, List.drop_of_length_le (by omega)]
    simp
@[simp] theorem dSl_tup (l : List D) (a b : Option Int) : dSl (.tup l) a b = .ok (.tup (cutD l a b)) := rfl
@[simp] theorem dSl_lst (l : List D) (a b : Option Int) : dSl (.lst l) a b = .ok (.lst (cutD l a b)) := rfl
/-! ### what == sees -/
/-- f writes α's values so that == tells them apart -/
structure EmOk {α : Type} (f : α → D) (n : Nat) : Prop where
  lay : ∀ a, (py (f a)).canLay0 = true
  dep : ∀ a, (py (f a)).depth ≤ n
  eqv : ∀ a b, deq (f a) (f b) = true ↔ a = b
theorem EmOk.flat {α : Type} {f : α → D} {n : Nat} (h : EmOk f n) (hn : n ≤ 64) (a : α) : flatOk (f a) = true := by
  unfold flatOk SeqAt.shaped
  rw [h.lay a, Bool.true_and, decide_eq_true_eq]
  exact Nat.le_trans (h.dep a) hn
theorem EmOk.dEq {α : Type} [DecidableEq α] {f : α → D} {n : Nat} (h : EmOk f n) (a b : α) (hn : n ≤ 64 := by decide) : dEq (f a) (f b) = .ok (.bl (decide (a = b))) := by
  unfold DL.dEq
  rw [h.flat hn, h.flat hn, Bool.true_and, if_pos rfl]
  have e : deq (f a) (f b) = decide (a = b) := by rw [Bool.eq_iff_iff, h.eqv, decide_eq_true_eq]
  rw [e]
theorem EmOk.dNe {α : Type} [DecidableEq α] {f : α → D} {n : Nat} (h : EmOk f n) (a b : α) (hn : n ≤ 64 := by decide) : dNe (f a) (f b) = .ok (.bl (decide (a ≠ b))) := by
  unfold DL.dNe
  rw [h.flat hn, h.flat hn, Bool.true_and, if_pos rfl]
  have e : deq (f a) (f b) = decide (a = b) := by rw [Bool.eq_iff_iff, h.eqv, decide_eq_true_eq]
  rw [e]
  simp
theorem em_int : EmOk D.int 0 := ⟨fun a => by simp [py, PyData.canLay0], fun a => by simp [py, PyData.depth], fun a b => by simp [deq, py, PyData.eqv]⟩
theorem em_bl : EmOk D.bl 0 := ⟨fun a => by simp [py, PyData.canLay0], fun a => by simp [py, PyData.depth], fun a b => by simp [deq, py, PyData.eqv]⟩
theorem dEq_ss {i j : Str} (hi : PyData.strOk i = true) (hj : PyData.strOk j = true) : dEq (.str i) (.str j) = .ok (.bl (decide (i = j))) := by
  simp [dEq, flatOk, SeqAt.shaped, py, PyData.canLay0, PyData.depth, hi, hj, deq, PyData.eqv]
  by_cases h : i = j <;> simp [h]
theorem dNe_ss {i j : Str} (hi : PyData.strOk i = true) (hj : PyData.strOk j = true) : dNe (.str i) (.str j) = .ok (.bl (decide (i ≠ j))) := by
  simp [dNe, flatOk, SeqAt.shaped, py, PyData.canLay0, PyData.depth, hi, hj, deq, PyData.eqv]
  by_cases h : i = j <;> simp [h]
theorem pyAll_lay {α : Type} {f : α → D} {n : Nat} (h : EmOk f n) : ∀ l : List α, PyData.canLayAll0 (pyAll (l.map f)) = true
  | [] => by simp [pyAll, PyData.canLayAll0]
  | a :: l => by
    rw [List.map_cons, pyAll, PyData.canLayAll0, h.lay a, pyAll_lay h l]
    rfl
theorem pyAll_dep {α : Type} {f : α → D} {n : Nat} (h : EmOk f n) : ∀ l : List α, PyData.depthAll (pyAll (l.map f)) ≤ n
  | [] => by simp [pyAll, PyData.depthAll]
  | a :: l => by
    rw [List.map_cons, pyAll, PyData.depthAll]
    have h1 := h.dep a
    have h2 := pyAll_dep h l
    omega
theorem pyAll_eqv {α : Type} {f : α → D} {n : Nat} (h : EmOk f n) : ∀ l m : List α, PyData.eqvAll (pyAll (l.map f)) (pyAll (m.map f)) = true ↔ l = m
  | [], [] => by simp [pyAll, PyData.eqvAll]
  | [], b :: m => by simp [pyAll, PyData.eqvAll]
  | a :: l, [] => by simp [pyAll, PyData.eqvAll]
  | a :: l, b :: m => by
    rw [List.map_cons, List.map_cons, pyAll, pyAll, PyData.eqvAll, Bool.and_eq_true, pyAll_eqv h l m, List.cons.injEq]
    have := h.eqv a b
    unfold deq at this
    rw [this]
theorem em_tup {α : Type} {f : α → D} {n : Nat} (h : EmOk f n) : EmOk (fun l : List α => D.tup (l.map f)) (n + 1) :=
  ⟨fun a => by
    show (py (.tup (a.map f))).canLay0 = true
    rw [py, PyData.canLay0]
    exact pyAll_lay h a, fun a => by
    show (py (.tup (a.map f))).depth ≤ n + 1
    rw [py, PyData.depth]
    have := pyAll_dep h a
    omega, fun a b => by
    show PyData.eqv (py (.tup (a.map f))) (py (.tup (b.map f))) = true ↔ a = b
    rw [py, py, PyData.eqv]
    exact pyAll_eqv h a b⟩
theorem em_lst {α : Type} {f : α → D} {n : Nat} (h : EmOk f n) : EmOk (fun l : List α => D.lst (l.map f)) (n + 1) :=
  ⟨fun a => by
    show (py (.lst (a.map f))).canLay0 = true
    rw [py, PyData.canLay0]
    exact pyAll_lay h a, fun a => by
    show (py (.lst (a.map f))).depth ≤ n + 1
    rw [py, PyData.depth]
    have := pyAll_dep h a
    omega, fun a b => by
    show PyData.eqv (py (.lst (a.map f))) (py (.lst (b.map f))) = true ↔ a = b
    rw [py, py, PyData.eqv]
    exact pyAll_eqv h a b⟩
theorem em_pair {α β : Type} {f : α → D} {g : β → D} {n : Nat} (h : EmOk f n) (k : EmOk g n) : EmOk (fun p : α × β => D.tup [f p.1, g p.2]) (n + 1) :=
  ⟨fun a => by simp [py, pyAll, PyData.canLay0, PyData.canLayAll0, h.lay, k.lay], fun a => by
    have h1 := h.dep a.1
    have h2 := k.dep a.2
    simp [py, pyAll, PyData.depth, PyData.depthAll]
    omega, fun a b => by
    have h1 := h.eqv a.1 b.1
    have h2 := k.eqv a.2 b.2
    unfold deq at h1 h2 ⊢
    simp [py, pyAll, PyData.eqv, PyData.eqvAll, h1, h2, Prod.ext_iff]⟩
@[simp] theorem dEq_ii (i j : Int) : dEq (.int i) (.int j) = .ok (.bl (decide (i = j))) := em_int.dEq i j
@[simp] theorem dNe_ii (i j : Int) : dNe (.int i) (.int j) = .ok (.bl (decide (i ≠ j))) := em_int.dNe i j
@[simp] theorem dEq_bb (i j : Bool) : dEq (.bl i) (.bl j) = .ok (.bl (decide (i = j))) := em_bl.dEq i j
@[simp] theorem dNe_bb (i j : Bool) : dNe (.bl i) (.bl j) = .ok (.bl (decide (i ≠ j))) := em_bl.dNe i j
/-! ### loops -/
section
variable {β : Type} {tgt : D → Env → R Env} {body : Env → Out} {tst : Env → R Bool} {el : Env → R D} {dl : Env}
/-- a loop with an invariant over what it has taken -/
theorem wp_for {Q : Po} {e : Env} (em : β → D) (I : List β → Env → Prop) (xs : List β) (h0 : I [] e)
    (h : ∀ p x q, xs = p ++ x :: q → ∀ e, I p e → ∃ e1, tgt (em x) e = .ok e1 ∧ (body e1).wp ⟨I (p ++ [x]), Q.rt, Q.exc, Q.nx, I (p ++ [x])⟩) (hQ : ∀ e, I xs e → Q.nx e) : (forD tgt body (xs.map em) e).wp Q := by
  have main : ∀ (xs pre : List β), (∀ p x q, pre ++ xs = p ++ x :: q → ∀ e, I p e → ∃ e1, tgt (em x) e = .ok e1 ∧ (body e1).wp ⟨I (p ++ [x]), Q.rt, Q.exc, Q.nx, I (p ++ [x])⟩) →
      (∀ e, I (pre ++ xs) e → Q.nx e) → ∀ e, I pre e → (forD tgt body (xs.map em) e).wp Q := by
    intro xs
    induction xs with
    | nil => exact fun pre _ hQ e he => hQ e (by simpa using he)
    | cons x xs ih =>
      intro pre h hQ e he
      obtain ⟨e1, h1, h2⟩ := h pre x xs rfl e he
      rw [List.map_cons]
      unfold forD
      rw [h1, nxA_ok, out_ok]
      have k := ih (pre ++ [x]) (fun p y q hp => h p y q (by rw [← hp]; simp)) (fun e he => hQ e (by simpa using he))
      generalize body e1 = o at h2 ⊢
      cases o with
      | nx e2 => exact k e2 h2
      | ct e2 => exact k e2 h2
      | bk e2 => exact h2
      | rt d => exact h2
      | exc c e2 => exact h2
      | bad => exact h2.elim
  exact main xs [] (by simpa using h) (by simpa using hQ) e h0
/-- the same, the state told by a fold -/
theorem wp_fold {Q : Po} {e : Env} {A : Type} (em : β → D) (J : A → Env → Prop) (step : A → β → A) (a0 : A) (xs : List β) (h0 : J a0 e)
    (h : ∀ x ∈ xs, ∀ a e, J a e → ∃ e1, tgt (em x) e = .ok e1 ∧ (body e1).wp ⟨J (step a x), Q.rt, Q.exc, fun _ => False, J (step a x)⟩) (hQ : ∀ e, J (xs.foldl step a0) e → Q.nx e) : (forD tgt body (xs.map em) e).wp Q := by
  refine wp_for em (fun p e => J (p.foldl step a0) e) xs h0 (fun p x q hp e he => ?_) hQ
  obtain ⟨e1, h1, h2⟩ := h x (by rw [hp]; simp) _ e he
  refine ⟨e1, h1, ?_⟩
  rw [List.foldl_append]
  generalize body e1 = o at h2 ⊢
  cases o with
  | bk e2 => exact h2.elim
  | _ => exact h2
/-- a loop that leaves by r at the first x that p is not true of -/
theorem wp_all {Q : Po} {e : Env} (em : β → D) (I : Env → Prop) (p : β → Bool) (xs : List β) (h0 : I e)
    (h : ∀ x ∈ xs, ∀ e, I e → ∃ e1, tgt (em x) e = .ok e1 ∧ (p x = true → (body e1).wp ⟨I, fun _ => False, fun _ => False, fun _ => False, I⟩) ∧ (p x = false → (body e1).wp ⟨fun _ => False, fun d => xs.all p = false → Q.rt d, fun _ => False, fun _ => False, fun _ => False⟩))
    (hQ : xs.all p = true → ∀ e, I e → Q.nx e) : (forD tgt body (xs.map em) e).wp Q := by
  refine wp_for em (fun l e => l.all p = true ∧ I e) xs ⟨rfl, h0⟩ (fun l x q hp e he => ?_) fun e he => hQ he.1 e he.2
  obtain ⟨e1, h1, h2, h3⟩ := h x (by rw [hp]; simp) e he.2
  refine ⟨e1, h1, ?_⟩
  cases hx : p x with
  | true =>
    have h2 := h2 hx
    generalize body e1 = o at h2 ⊢
    cases o with
    | nx e2 => exact ⟨by rw [List.all_append, he.1]; simp [hx], h2⟩
    | ct e2 => exact ⟨by rw [List.all_append, he.1]; simp [hx], h2⟩
    | _ => exact h2.elim
  | false =>
    have h3 := h3 hx
    generalize body e1 = o at h3 ⊢
    cases o with
    | rt d => exact h3 (by rw [hp, List.all_append, List.all_cons, hx]; simp)
    | _ => exact h3.elim
/-- a comprehension -/
theorem comp_map (em : β → D) (f : β → D) : ∀ (xs : List β), (∀ x ∈ xs, ∃ e1, tgt (em x) dl = .ok e1 ∧ tst e1 = .ok true ∧ el e1 = .ok (f x)) → comp tgt tst el dl (xs.map em) = .ok (xs.map f)
  | [], _ => rfl
  | x :: xs, h => by
    obtain ⟨e1, h1, h2, h3⟩ := h x (.head _)
    rw [List.map_cons]
    unfold comp
    rw [h1]
    simp only [nxA_ok, okb, h2, h3]
    rw [comp_map em f xs fun y hy => h y (.tail _ hy)]
    rfl
theorem comp_filter (em : β → D) (t : β → Bool) (f : β → D) : ∀ (xs : List β), (∀ x ∈ xs, ∃ e1, tgt (em x) dl = .ok e1 ∧ tst e1 = .ok (t x) ∧ (t x = true → el e1 = .ok (f x))) → comp tgt tst el dl (xs.map em) = .ok ((xs.filter t).map f)
  | [], _ => rfl
  | x :: xs, h => by
    obtain ⟨e1, h1, h2, h3⟩ := h x (.head _)
    have ih := comp_filter em t f xs fun y hy => h y (.tail _ hy)
    rw [List.map_cons]
    unfold comp
    rw [h1]
    simp only [nxA_ok, okb, h2]
    cases hp : t x with
    | false =>
      rw [List.filter_cons_of_neg (by simp [hp])]
      exact ih
    | true =>
      rw [List.filter_cons_of_pos hp, if_pos rfl, h3 hp]
      simp only [nxA_ok, okb, ih]
      rfl
theorem comp2_map {src1 : Env → R (List D)} {vs1 : List Nat} {tgt1 : D → Env → R Env} {tst1 : Env → R Bool} (em : β → D) (f : β → List D) : ∀ (xs : List β),
    (∀ x ∈ xs, ∃ e1 l1, tgt (em x) dl = .ok e1 ∧ tst e1 = .ok true ∧ src1 e1 = .ok l1 ∧ comp tgt1 tst1 el (wipeE e1 vs1) l1 = .ok (f x)) →
    comp2 tgt tst src1 vs1 tgt1 tst1 el dl (xs.map em) = .ok (xs.flatMap f)
  | [], _ => rfl
  | x :: xs, h => by
    obtain ⟨e1, l1, h1, h2, h3, h4⟩ := h x (.head _)
    rw [List.map_cons]
    unfold comp2
    rw [h1]
    simp only [nxA_ok, okb, h2, h3, h4]
    rw [comp2_map em f xs fun y hy => h y (.tail _ hy)]
    rfl
/-- a list comprehension's value -/
theorem eLc_map {own : List Nat} {src : Env → R (List D)} {e : Env} (em f : β → D) (xs : List β) (hs : src e = .ok (xs.map em)) (hl : xs.length ≤ 16777216)
    (h : ∀ x ∈ xs, ∃ e1, tgt (em x) (wipeE e own) = .ok e1 ∧ tst e1 = .ok true ∧ el e1 = .ok (f x)) : eLc own src tgt tst el e = .ok (.lst (xs.map f)) := by
  show (src e >>= fun l => nxA (comp tgt tst el (wipeE e own) l >>= mkL)) = _
  rw [hs, okb, comp_map em f xs h, okb, mkL_eq (by simpa using hl)]
  rfl
theorem eLc_filter {own : List Nat} {src : Env → R (List D)} {e : Env} (em : β → D) (t : β → Bool) (f : β → D) (xs : List β) (hs : src e = .ok (xs.map em)) (hl : xs.length ≤ 16777216)
    (h : ∀ x ∈ xs, ∃ e1, tgt (em x) (wipeE e own) = .ok e1 ∧ tst e1 = .ok (t x) ∧ (t x = true → el e1 = .ok (f x))) : eLc own src tgt tst el e = .ok (.lst ((xs.filter t).map f)) := by
  show (src e >>= fun l => nxA (comp tgt tst el (wipeE e own) l >>= mkL)) = _
  rw [hs, okb, comp_filter em t f xs h, okb, mkL_eq (by simpa using Nat.le_trans (List.length_filter_le t xs) hl)]
  rfl
end
/-! ### numbers that are not negative -/
abbrev nD (i : Nat) : D := .int (i : Int)
abbrev tN (l : List Nat) : D := .tup (l.map nD)
abbrev lN (l : List Nat) : D := .lst (l.map nD)
theorem em_nat : EmOk nD 0 := ⟨fun a => em_int.lay _, fun a => em_int.dep _, fun a b => by rw [em_int.eqv]; omega⟩
theorem mkRgI_nat {n : Nat} (h : n ≤ 1000000000) : mkRgI 0 (n : Int) = .ok ((List.range n).map nD) := by
  rw [mkRgI_eq h]
  unfold rg
  rw [List.map_map]
  rfl
theorem nth_map {α : Type} {f : α → D} {l : List α} {i : Nat} {d : α} (h : i < l.length) : (l.map f)[i]? = some (f (l.getD i d)) := by
  rw [List.getElem?_map, List.getElem?_eq_getElem h, List.getD_eq_getElem?_getD, List.getElem?_eq_getElem h]
  rfl
theorem dIx_tm {α : Type} {f : α → D} {l : List α} {i : Nat} {j : Int} (d : α) (h : i < l.length) (e : j = (i : Int) := by rfl) : dIx (.tup (l.map f)) (.int j) = .ok (f (l.getD i d)) := by
  subst e
  exact dIx_tup (by omega) (by rw [Int.toNat_natCast]; exact nth_map h)
theorem dIx_lm {α : Type} {f : α → D} {l : List α} {i : Nat} {j : Int} (d : α) (h : i < l.length) (e : j = (i : Int) := by rfl) : dIx (.lst (l.map f)) (.int j) = .ok (f (l.getD i d)) := by
  subst e
  exact dIx_lst (by omega) (by rw [Int.toNat_natCast]; exact nth_map h)
theorem dIx_fm {α : Type} {f : α → D} {l : List α} {i : Nat} {j : Int} (d : α) (h : i < l.length) (e : j = (i : Int) := by rfl) : dIx (.frz (l.map f)) (.int j) = .ok (f (l.getD i d)) := by
  subst e
  exact dIx_frz (by omega) (by rw [Int.toNat_natCast]; exact nth_map h)
theorem dMul_nn {i j : Nat} (h : j ≤ 1000000000) : dMul (nD i) (nD j) = .ok (nD (i * j)) := by
  rw [dMul_r (small_of (by omega) (by omega))]
  simp
theorem dMul_nl {i j : Nat} (h : i ≤ 1000000000) : dMul (nD i) (nD j) = .ok (nD (i * j)) := by
  rw [dMul_l (small_of (by omega) (by omega))]
  simp
theorem dAdd_nn (i j : Nat) : dAdd (nD i) (nD j) = .ok (nD (i + j)) := by simp
theorem dMod_nn {i j : Nat} (h : 0 < j) : dMod (nD i) (nD j) = .ok (nD (i % j)) := by
  rw [dMod_eq (by omega)]
  simp
theorem dFdiv_nn {i j : Nat} (h : 0 < j) (h2 : j < 1073741824) : dFdiv (nD i) (nD j) = .ok (nD (i / j)) := by
  rw [dFdiv_eq (by omega) (by omega)]
  simp
theorem apD_lst {l : List D} {d : D} {e : Env} {da : Env → R D} (i : Nat) (h1 : e[i]? = some (some (.lst l))) (h2 : da e = .ok d) (h3 : l.length < 16777216) : apD i da e = .nx (e.set i (some (.lst (l ++ [d])))) := by
  unfold apD
  rw [h1, h2]
  simp only [out_ok]
  rw [if_pos (by rw [sizeLine_eq]; exact h3)]
theorem map_snoc {α : Type} (f : α → D) (l : List α) (x : α) : l.map f ++ [f x] = (l ++ [x]).map f := by simp
/-- the number at a place -/
def nth (l : List Nat) (i : Nat) : Nat := l.getD i 0
theorem dIx_tN {l : List Nat} {i : Nat} {j : Int} (h : i < l.length) (e : j = (i : Int) := by rfl) : dIx (tN l) (.int j) = .ok (nD (nth l i)) := dIx_tm 0 h e
theorem dIx_lN {l : List Nat} {i : Nat} {j : Int} (h : i < l.length) (e : j = (i : Int) := by rfl) : dIx (lN l) (.int j) = .ok (nD (nth l i)) := dIx_lm 0 h e
theorem nth_mem {l : List Nat} {i : Nat} (h : i < l.length) : nth l i ∈ l := by
  unfold nth
  rw [List.getD_eq_getElem?_getD, List.getElem?_eq_getElem h]
  exact List.getElem_mem h
theorem getD_mem {α : Type} {l : List α} {i : Nat} {d : α} (h : i < l.length) : l.getD i d ∈ l := by
  rw [List.getD_eq_getElem?_getD, List.getElem?_eq_getElem h]
  exact List.getElem_mem h
theorem cutD_map {α : Type} {f : α → D} (l : List α) (a b : Nat) (h : a ≤ b) : cutD (l.map f) (some (a : Int)) (some (b : Int)) = ((l.drop a).take (b - a)).map f := by
  rw [cutD_nat _ _ _ h, ← List.map_drop, ← List.map_take]
theorem cutD_mapTo {α : Type} {f : α → D} (l : List α) (b : Nat) : cutD (l.map f) none (some (b : Int)) = (l.take b).map f := by
  rw [cutD_to, ← List.map_take]
theorem eLc2_map {β : Type} {tgt : D → Env → R Env} {tst : Env → R Bool} {el : Env → R D} {own vs1 : List Nat} {src src1 : Env → R (List D)} {tgt1 : D → Env → R Env} {tst1 : Env → R Bool} {e : Env} (em : β → D) (f : β → List D) (xs : List β) (hs : src e = .ok (xs.map em)) (hl : (xs.flatMap f).length ≤ 16777216)
    (h : ∀ x ∈ xs, ∃ e1 l1, tgt (em x) (wipeE e own) = .ok e1 ∧ tst e1 = .ok true ∧ src1 e1 = .ok l1 ∧ comp tgt1 tst1 el (wipeE e1 vs1) l1 = .ok (f x)) : eLc2 own src tgt tst src1 vs1 tgt1 tst1 el e = .ok (.lst (xs.flatMap f)) := by
  show (src e >>= fun l => nxA (comp2 tgt tst src1 vs1 tgt1 tst1 el (wipeE e own) l >>= mkL)) = _
  rw [hs, okb, comp2_map em f xs h, okb, mkL_eq hl]
  rfl
/-! ### rows of things -/
/-- all places are below n -/
def Th (n : Nat) (l : List Nat) : Prop := ∀ x ∈ l, x < n
/-- where a row stands in a table -/
def idx (n : Nat) (l : List Nat) : Nat := l.foldl (fun a x => a * n + x) 0
theorem idx_lt {n : Nat} {l : List Nat} (h : Th n l) : idx n l < n ^ l.length := by
  have main : ∀ (l : List Nat) (a k : Nat), Th n l → a < k → l.foldl (fun a x => a * n + x) a < k * n ^ l.length := by
    intro l
    induction l with
    | nil => intro a k _ h; simpa using h
    | cons x l ih =>
      intro a k ht ha
      have hx : x < n := ht x (.head _)
      have h1 : a * n + x < k * n := by
        have : (a + 1) * n ≤ k * n := Nat.mul_le_mul_right _ ha
        rw [Nat.add_mul, Nat.one_mul] at this
        omega
      have := ih (a * n + x) (k * n) (fun y hy => ht y (.tail _ hy)) h1
      rw [List.foldl_cons, List.length_cons, Nat.pow_succ, Nat.mul_comm (n ^ l.length), ← Nat.mul_assoc]
      exact this
  have := main l 0 1 h (by omega)
  rw [Nat.one_mul] at this
  exact this
/-- all rows of k things, ascending -/
def tps (n : Nat) : Nat → List (List Nat)
  | 0 => [[]]
  | k + 1 => (tps n k).flatMap fun r => (List.range n).map fun t => r ++ [t]
theorem tps_length (n : Nat) : ∀ k, (tps n k).length = n ^ k
  | 0 => rfl
  | k + 1 => by
    unfold tps
    rw [List.length_flatMap]
    simp only [List.length_map, List.length_range]
    rw [List.map_const', List.sum_replicate_nat, tps_length n k, Nat.pow_succ]
theorem tps_mem {n : Nat} : ∀ {k : Nat} {r : List Nat}, r ∈ tps n k → r.length = k ∧ Th n r
  | 0, r, h => by
    have : r = [] := by simpa [tps] using h
    subst this
    exact ⟨rfl, fun x hx => by simp at hx⟩
  | k + 1, r, h => by
    unfold tps at h
    rw [List.mem_flatMap] at h
    obtain ⟨q, hq, h⟩ := h
    rw [List.mem_map] at h
    obtain ⟨t, ht, rfl⟩ := h
    obtain ⟨h1, h2⟩ := tps_mem hq
    refine ⟨by simp [h1], fun x hx => ?_⟩
    rcases List.mem_append.mp hx with hx | hx
    · exact h2 x hx
    · have : x = t := by simpa using hx
      subst this
      exact List.mem_range.mp ht
end DL

/-! The data layer: how many texts a list holds, each once. -/
namespace DL
open PySem PySem.Spec PyProof.Rows L2
/-- each text once, by its first place -/
def once (l : List Str) : List Str := l.foldl (fun a x => if a.any (· == x) then a else a ++ [x]) []
theorem once_snoc (l : List Str) (x : Str) : once (l ++ [x]) = if (once l).any (· == x) then once l else once l ++ [x] := by
  unfold once
  rw [List.foldl_append]
  rfl
theorem once_take {xs : List Str} {i : Nat} (h : i < xs.length) : once (xs.take (i + 1)) = if (once (xs.take i)).any (· == xs.getD i Str.empty) then once (xs.take i) else once (xs.take i) ++ [xs.getD i Str.empty] := by
  have e : xs.take (i + 1) = xs.take i ++ [xs.getD i Str.empty] := by
    rw [List.take_succ, List.getElem?_eq_getElem h, List.getD_eq_getElem?_getD, List.getElem?_eq_getElem h]
    rfl
  rw [e, once_snoc]
theorem once_len (xs : List Str) : ∀ i, i ≤ xs.length → (once (xs.take i)).length ≤ i
  | 0, _ => by simp [once]
  | i + 1, h => by
    have ih := once_len xs i (by omega)
    rw [once_take h]
    split
    · omega
    · simp; omega
abbrev metS (xs : List Str) (i : Nat) : Str → Bool := fun k => (once (xs.take i)).any (· == k)
section
variable {prog : Program} {w : World} {A : Around}
theorem metS_step {xs : List Str} {i : Nat} {h : Heap} {a : Addr} (hi : i < xs.length)
    (q : h.SetOf (strKind prog w) a (fun k => metS xs i k || decide (k = xs.getD i Str.empty)) (if metS xs i (xs.getD i Str.empty) then (once (xs.take i)).length else (once (xs.take i)).length + 1)) :
    h.SetOf (strKind prog w) a (metS xs (i + 1)) (once (xs.take (i + 1))).length := by
  refine SetOf_congr q (fun k => ?_) ?_
  · show (metS xs i k || decide (k = xs.getD i Str.empty)) = (once (xs.take (i + 1))).any (· == k)
    rw [once_take hi]
    by_cases hm : (once (xs.take i)).any (· == xs.getD i Str.empty) = true
    · rw [if_pos hm]
      by_cases e : k = xs.getD i Str.empty
      · subst e
        show (((once (xs.take i)).any (· == xs.getD i Str.empty)) || _) = _
        rw [hm]
        rfl
      · rw [decide_eq_false e, Bool.or_false]
    · rw [if_neg hm, List.any_append]
      congr 1
      by_cases e : k = xs.getD i Str.empty
      · rw [← e]; simp
      · rw [decide_eq_false e]
        simp only [List.any_cons, List.any_nil, Bool.or_false]
        exact (beq_eq_false_iff_ne.mpr fun z => e z.symm).symm
  · rw [once_take hi]
    show (if (once (xs.take i)).any (· == xs.getD i Str.empty) = true then _ else _) = _
    split <;> simp
theorem add_all {I sa : Addr} {fp wr : List Addr} {G : Array GenState → Array GenState → Prop} {n : Nat} {P : Nat → Value → Prop} {St : Nat → Shared → Prop} {R : Result → Shared → Prop} (Wk : WalksS prog w A.in1 I fp wr G n P St) (nf : sa ∉ fp) {xs : List Str} (hn : xs.length = n) (hbig : n + 1 < scanBound)
    (val : ∀ i v, P i v → ∃ t, v = .str (xs.getD i Str.empty) t) : ∀ (j i : Nat) (s : Shared), i + j = n → St i s → s.heap.SetOf (strKind prog w) sa (metS xs i) (once (xs.take i)).length →
      (∀ z, Moved (sa :: wr) G s z → z.heap.SetOf (strKind prog w) sa (metS xs n) (once (xs.take n)).length → R (.ok (.ret .none)) z) → codeAny (model prog w) A (.builtin "set.update.loop" ⟨[.ref sa, .ref I], []⟩) R s := by
  have nw : sa ∉ wr := fun h => nf (Wk.sub _ h)
  have up : ∀ b ∈ wr, b ∈ sa :: wr := fun b h => .tail _ h
  have carry : ∀ {i : Nat} {s z : Shared}, Moved wr G s z → s.heap.SetOf (strKind prog w) sa (metS xs i) (once (xs.take i)).length → z.heap.SetOf (strKind prog w) sa (metS xs i) (once (xs.take i)).length := fun mv q => by
    obtain ⟨o, es, ep, tb, q1, q2⟩ := q
    exact ⟨o, es, ep, tb, mv.heap sa _ nw q1, q2⟩
  intro j
  induction j with
  | zero =>
    intro i s e st q fin
    have ei : i = n := by omega
    subst ei
    refine codeAny_builtin PyProof.Rows.F.entry_set_update_loop ?_
    rw [Around.under_plainId PyProof.Rows.F.plain_set_update_loop _]
    refine wpAny_bind (m := pyNext (.ref I)) (Wk.done s _ _ st ?_)
    exact fun z mv => wpAny_pure (fin z (mv.mono up) (carry mv q))
  | succ j ih =>
    intro i s e st q fin
    have lt : i < n := by omega
    have lx : i < xs.length := by omega
    refine codeAny_builtin PyProof.Rows.F.entry_set_update_loop ?_
    rw [Around.under_plainId PyProof.Rows.F.plain_set_update_loop _]
    refine wpAny_bind (m := pyNext (.ref I)) (Wk.item i s _ _ lt st ?_)
    rintro v z hv st2 mv
    obtain ⟨t, rfl⟩ := val i v hv
    have q2 := carry mv q
    have hb : (once (xs.take i)).length + 1 < scanBound := by
      have := once_len xs i (by omega)
      omega
    refine wpAny_bind (wpAny_holding (wpAny_holding (wpAny_bind ((strKind prog w).pyHash (k := xs.getD i Str.empty) (strKind_is _ _ _ _) ?_))))
    refine wpAny_setAddHashed_of (knd := strKind prog w) (s := { z with toks := z.toks + 1 }) (strKind_is _ _ _ _) rfl q2 hb ?_
    rintro g same q3
    have q4 := metS_step lx q3
    refine wpAny_pure ⟨plainId_quiet PyProof.Rows.F.plain_set_update_loop _, ih (i + 1) _ (by omega) ?_ q4 ?_⟩
    · exact Wk.frame _ z _ _ st2 (Nat.le_succ _) fun b hb o e => by
        rw [same.2 b fun h => nf (h ▸ hb)]
        exact e
    · intro z2 mv2 q5
      refine fin z2 (Moved.trans Wk.gtrans ((mv.mono up).then_heap (Nat.le_succ _) fun b o hb e => ?_) mv2) q5
      rw [same.2 b fun h => hb (h ▸ List.mem_cons_self)]
      exact e
theorem str_at : ∀ {us : List Value} {xs : List Str}, StrsAre us xs → ∀ (i : Nat) (v : Value), us[i]? = some v → ∃ t, v = .str (xs.getD i Str.empty) t
  | _, _, .nil, i, v, h => by simp at h
  | _, _, .cons y t r, 0, v, h => by
    cases h
    exact ⟨t, rfl⟩
  | _, _, .cons y t r, i + 1, v, h => by
    obtain ⟨t', e⟩ := str_at r i v h
    exact ⟨t', e⟩
set_option maxHeartbeats 8000000 in
/-- set(xs), xs a list of texts -/
theorem set_strs {E : Value → Shared → Prop} {s : Shared} {l : Addr} {items : Array Value} {xs : List Str} {Q : Value → Shared → Prop} (free : A.handled = none) (il : s.heap.IsList l items) (are : StrsAre items.toList xs) (small : xs.length < 4000)
    (go : ∀ (g : Heap) (tk : Nat), g.SetOf (strKind prog w) s.heap.objs.size (metS xs xs.length) (once xs).length → (∀ b o, b < s.heap.objs.size → s.heap.get? b = some o → g.get? b = some o) → Q (.ref s.heap.objs.size) { s with heap := g, toks := tk }) :
    wpAny (model prog w) A (call (.type "set") [.ref l]) Q E s := by
  obtain ⟨cc, tl, mr⟩ := PySem.F.called_set.mro
  have m1 := PySem.F.called_set.made
  have m2 := PySem.F.called_set.sub
  have m3 := PySem.F.called_set.notType
  have m4 := PySem.F.called_set.canCreate
  have m5 := PySem.F.typeCall_set_1 (.ref l)
  have sz : xs.length = items.size := by rw [← StrsAre.len_eq are, Array.length_toList]
  refine wpAny_call (codeAny_of_tree ?_)
  show wpAny _ _ (callAny (.type "set") ⟨[.ref l], []⟩) _ _ s
  refine wpAny_pure (And.intro (Code.quiet_builtin _ (by decide +kernel)) (codeAny_builtin PySem.F.entry_type_call ?_))
  rw [Around.under_plain (weight_type_call_type "set" [.ref l] []) rfl]
  repeat (any_goals (first | assumption | wp_step))
  refine codeAny_mono (code_set_new_1 (.ref l) (E := E) (Q₁ := fun u z => ∃ d : Bool, u = .ref s.heap.objs.size ∧ z = { s with heap := s.heap.push { cls := .type "set", dict := none, data := .set #[] 0 (.fresh 0 0 d) } }) fun d => ⟨d, rfl, rfl⟩) ?_
  rintro (er | fo) z1 hz
  · exact hz
  cases fo with
  | ret u =>
    obtain ⟨d, rfl, rfl⟩ := hz
    have at1 : (s.heap.push { cls := .type "set", dict := none, data := .set #[] 0 (.fresh 0 0 d) }).get? s.heap.objs.size = some { cls := .type "set", dict := none, data := .set #[] 0 (.fresh 0 0 d) } := Heap.get?_push_size _ rfl
    have ty : Shared.TypeIs { s with heap := s.heap.push { cls := .type "set", dict := none, data := .set #[] 0 (.fresh 0 0 d) } } (.ref s.heap.objs.size) "set" := ⟨_, at1, rfl⟩
    have m6 := PySem.F.called_set.init.lookup
    have m7 := PySem.F.called_set.init.bind (.ref s.heap.objs.size)
    repeat (any_goals (first | assumption | wp_step))
    refine codeAny_mono (codeAny_call_builtin (R := wants (fun u z => u = .none ∧ ∃ g tk, z = { s with heap := g, toks := tk } ∧ g.SetOf (strKind prog w) s.heap.objs.size (metS xs xs.length) (once xs).length ∧ (∀ b o, b < s.heap.objs.size → s.heap.get? b = some o → g.get? b = some o)) E)
      PySem.F.called_set.init.plain PySem.F.entry_set_init (check_set_init_1 ty ?_)) ?_
    · obtain ⟨ol, lat, lc, ln, ld⟩ := il
      obtain ⟨oc, od, dt, osl⟩ := ol
      cases (show oc = .type "list" from lc)
      cases (show dt = .seq items ln from ld)
      have lat2 : (s.heap.push { cls := .type "set", dict := none, data := .set #[] 0 (.fresh 0 0 d) }).get? l = some ⟨.type "list", od, .seq items ln, osl⟩ := Heap.get?_push_of_some _ lat
      have il1 : (s.heap.push { cls := .type "set", dict := none, data := .set #[] 0 (.fresh 0 0 d) }).IsList l items := ⟨_, lat2, rfl, ln, rfl⟩
      have b1 := PySem.F.sub_list_set
      have b2 := PySem.F.sub_list_frozenset
      have b3 : (Value.type "list" == Value.type "dict") = false := by decide
      unfold Builtin.«set.__init__» noKeywords Builtin.Frozenset.updateFrom
      generalize hp : pyIter = pI
      wp_walk
      subst hp
      refine wpAny_pyIter_list il1 ?_
      refine wpAny_bind ?_
      refine wpAny_runValue ?_
      have lt : l < s.heap.objs.size := Heap.lt_size lat
      have f3 : A.in1.in1.in1.handled = none := by simp [free]
      have sz1 : (s.heap.push { cls := .type "set", dict := none, data := .set #[] 0 (.fresh 0 0 d) }).objs.size = s.heap.objs.size + 1 := Heap.size_push ..
      have ne1 : l ≠ (s.heap.push { cls := .type "set", dict := none, data := .set #[] 0 (.fresh 0 0 d) }).objs.size := by
        rw [sz1]
        exact Nat.ne_of_lt (Nat.lt_succ_of_lt lt)
      have nf : s.heap.objs.size ∉ [(s.heap.push { cls := .type "set", dict := none, data := .set #[] 0 (.fresh 0 0 d) }).objs.size, l] := by
        rw [sz1]
        intro z
        rcases List.mem_cons.mp z with z | z
        · exact absurd z (Nat.ne_of_lt (Nat.lt_succ_self _))
        · exact absurd (List.mem_singleton.mp z).symm (Nat.ne_of_lt lt)
      have vals : ∀ (i : Nat) (v : Value), items[i]? = some v → ∃ t, v = .str (xs.getD i Str.empty) t := fun i v hv => str_at are i v (by rw [Array.getElem?_toList]; exact hv)
      refine add_all (Walks.list f3 _ l ne1 items).toS nf sz (by rw [← sz]; unfold scanBound; omega) vals items.size 0 _ (by omega) ⟨⟨_, Heap.get?_push_size _ rfl, rfl, rfl⟩, il1.push _⟩ ?first ?last
      case first =>
        have at2 := Heap.get?_push_of_some { cls := .type "list_iterator", data := .fields #[.ref l, .int 0 0] } at1
        exact SetOf_congr ((setObjOf_fresh (knd := strKind prog w) d).setOf at2 (by unfold scanBound; omega)) (fun _ => rfl) rfl
      case last =>
        rintro ⟨g, gs, dr, tk, os⟩ mv q
        cases (show gs = s.gens from mv.gens)
        cases (show dr = s.drawn from mv.drawn)
        cases (show os = s.os from mv.os)
        refine wpAny_pure (wpAny_pure ⟨rfl, g, tk, rfl, ?_, fun b o hb e => ?_⟩)
        · rw [← sz] at q
          rw [List.take_length] at q
          exact q
        · have c1 : b ≠ s.heap.objs.size := Nat.ne_of_lt hb
          have c2 : b ≠ (s.heap.push { cls := .type "set", dict := none, data := .set #[] 0 (.fresh 0 0 d) }).objs.size := by
            rw [sz1]
            exact Nat.ne_of_lt (Nat.lt_succ_of_lt hb)
          refine mv.heap b o (fun z => ?_) (Heap.get?_push_of_some _ (Heap.get?_push_of_some _ e))
          rcases List.mem_cons.mp z with z | z
          · exact c1 z
          · exact c2 (List.mem_singleton.mp z)
    · rintro (er | fo2) z2 hz2
      · exact hz2
      cases fo2 with
      | ret u2 =>
        obtain ⟨rfl, g, tk, rfl, q, keep⟩ := hz2
        repeat (any_goals (first | assumption | wp_step))
        exact go _ _ q keep
      | next => exact hz2.elim
      | brk => exact hz2.elim
      | cont => exact hz2.elim
  | next => exact hz.elim
  | brk => exact hz.elim
  | cont => exact hz.elim
end
end DL

/-! The data layer: own classes. -/
namespace DL
open PySem PySem.Spec PyProof.Rows L2
/-! ### fields -/
def fieldD : List Str → List D → Str → Option D
  | f :: fs, d :: ds, x => if f = x then some d else fieldD fs ds x
  | _, _, _ => none
def dFld (c : Str) (fs : List Str) (x : Str) : D → R D
  | .obj c' l => if c' = c then (match fieldD fs l x with | some d => .ok d | none => .bad) else .bad
  | _ => .bad
/-- an attribute stands with the instance -/
def FldAt (K : PySem.W.Frag) (mg : Str → Option Value) (c x : Str) : Prop := ∃ C, mg c = some (.ref C) ∧ Cls K C ∧ NoAttr K C x
theorem field_rp {G : Gx} {H : Hp} {P : Addr → Prop} {x : Str} : ∀ {fs : List (Str × V)} {ds : List D} {d : D}, RpAll G H P (fs.map (·.2)) ds → fieldD (fs.map (·.1)) ds x = some d → ∃ v, fs.lookup x = some v ∧ Rp G H P v d ∧ x ∈ fs.map (·.1)
  | [], ds, d, r, h => by cases ds <;> cases h
  | (f, v) :: fs, [], d, r, h => by cases h
  | (f, v) :: fs, d0 :: ds, d, r, h => by
    cases r with
    | cons r1 r2 =>
      rw [List.map_cons, fieldD] at h
      by_cases e : f = x
      · rw [if_pos e] at h
        cases h
        subst e
        exact ⟨v, by rw [List.lookup_cons, beq_self_eq_true], r1, by simp⟩
      · rw [if_neg e] at h
        obtain ⟨v', h1, h2, h3⟩ := field_rp r2 h
        refine ⟨v', ?_, h2, by rw [List.map_cons]; exact .tail _ h3⟩
        rw [List.lookup_cons, show (x == f) = false from beq_eq_false_iff_ne.mpr fun z => e z.symm]
        exact h1
theorem RpI.obj' {G : Gx} {H : Hp} {P : Addr → Prop} {v : V} {c : Str} {l : List D} (h : RpI G H P v (.obj c l)) : Rp G H P v (.obj c l) := by
  rcases h with h | ⟨a, rfl, o⟩
  · exact h
  · cases o
section
variable {X : Cx} {fl : Str → List Str} {W : WX} {ow : List Bool} {m : Md} {e o : Expr} {es : List Expr} {da : Env → R D} {pos apos : Pos}
theorem de_fld {c f : Str} {fs0 : List Str} (h : DE X fl W ow m e da) (hF : FldAt X.K X.mg c f) (hfl : fl c = fs0) (hb : attributeBase e f X.env (eval e X.env) = eval e X.env := by rfl) : DE X fl W ow m (.Attribute e f pos) (fun dl => da dl >>= dFld c fs0 f) := by
  obtain ⟨C0, g1, g2, g3⟩ := hF
  obtain ⟨t, p, k⟩ := h
  refine ⟨_, pe_fld p hb, fun av H0 hs dl st H Q e q => k av H0 hs dl st H _ e (q.bind.mono (fun d _ w v H1 s r => ?_) fun _ z => z)⟩
  cases d with
  | obj c' l =>
    replace w : Asks (if c' = c then (match fieldD fs0 l f with | some d => R.ok d | none => .bad) else .bad) (OkV (gx X fl) H (pm m av ow dl st) m Q) (EX (gx X fl) H W st) := w
    by_cases ec : c' = c
    · subst ec
      rw [if_pos rfl] at w
      cases hd : fieldD fs0 l f with
      | none => rw [hd] at w; exact w.elim
      | some d' =>
        rw [hd] at w
        cases r.toI.obj' with
        | @obj a C dx fs _ _ h1 hM h2 h3 h4 =>
          cases (show X.mg c' = some (.ref _) from h2).symm.trans g1
          rw [← hfl, ← show fs.map (·.1) = fl c' from h3] at hd
          obtain ⟨v', y1, y2, y3⟩ := field_rp h4 hd
          exact ⟨a, _, dx, fs, v', rfl, h1, g2, g3, y1, w v' H1 s (Rp.toM y2)⟩
    · rw [if_neg ec] at w
      exact w.elim
  | _ => exact w.elim
/-! ### methods -/
/-- a method keeps its promise -/
def CalM (P : Program) (w : World) (K : PySem.W.Frag) (mg : Str → Option Value) (base : Heap) (fl : Str → List Str) (k : Nat) (c x : Str) (n : Nat) (F : List D → R D) : Prop :=
  ∃ C f fd ps, mg c = some (.ref C) ∧ Cls K C ∧ Meth K C x f ∧ x ∉ fl c ∧ Binds K fd ps [] ∧ FnOk P w K mg base (L2.CX P w) k f fd ps (spD ⟨K, mg, fl⟩ n F)
def tMetW (C : Addr) (x : Str) (sp : Sp) (W : WX) (ta : TE) (t : TA) : TE := fun σ H Q => ta σ H fun y H1 => ∃ a dx fs, y = .ref a ∧ H1 a = some (.ins C dx fs) ∧ fs.lookup x = none ∧ t σ H1 fun vs H2 => sp (y :: vs) H2 Q (WE W σ)
theorem pe_metW {x : Str} {C f : Addr} {fd : FuncData} {ps : List Str} {k : Nat} {sp : Sp} {ta : TE} {t : TA} {pl : Sem Bool} (he : PE X o ta) (c : Cls X.K C) (hm : Meth X.K C x f) (tk : Takes X W)
    (F : FnOk X.prog X.w X.K X.mg X.base (L2.CX X.prog X.w) k f fd ps sp) (hr : Room k X.A) (hb : Binds X.K fd ps []) (ha : PA X (e :: es) t)
    (s1 : starEach (e :: es) X.env = (false, eval e X.env) :: starEach es X.env := by rfl) (s2 : (backTo pos (starEach es X.env)).any (·.1) = false := by rfl)
    (s3 : eval (.Call (.Attribute o x apos) (e :: es) [] pos) X.env = (eval o X.env >>= fun ov => standAt apos.atName >>= fun _ => holding [ov] (getMethod ov x pl) >>= fun r => callWith pos r.1 r.2 (backTo pos (starEach (e :: es) X.env)) (backToKw pos (keywordEach [] X.env))) := by rfl) :
    PE X (.Call (.Attribute o x apos) (e :: es) [] pos) (tMetW C x sp W ta t) := by
  constructor
  intro pins s σ H Q I h
  have step := fun (u : Value) (s1 : Shared) (z : EP X pins σ (fun y H1 => ∃ a dx fs, y = .ref a ∧ H1 a = some (.ins C dx fs) ∧ fs.lookup x = none ∧ t σ H1 fun vs H2 => sp (y :: vs) H2 Q (WE W σ)) u s1) => z
  refine PySem.W.methodCall_KW (pl := pl) (thn (he.run pins s σ H _ I h) ?_) s3
  rintro u t1 ⟨y, H1, J, ry, a, dx, fs, rfl, ea, hl, q⟩
  cases (show u = Value.ref a from ry)
  refine getmeth_ok J ea c hm hl (PySem.W.callWith_K (first := [.ref a]) (h₀ := X.base) J.ok.mod.kin hm.kp (thn (ha.run pos pins t1 σ H1 _ J q) ?_) s1 s2)
  rintro us t2 ⟨vs, H2, J2, rv, q2⟩
  exact ⟨J2.kIn, run_fnS (E := WE W) (us := .ref a :: us) (vs := .ref a :: vs) F hr hb (passAt tk σ) J2 (.cons rfl rv) q2⟩
/-- the class of the object, then the method -/
abbrev eMet (c : Str) (n : Nat) (F : List D → R D) (a : Env → R D) (ds : Env → R (List D)) : Env → R D := fun dl => a dl >>= fun x => match x with | .obj c' l' => if c' = c then ds dl >>= fun l => if l.length + 1 = n then F (.obj c' l' :: l) else .bad else .bad | _ => .bad
theorem dc_met {k k' n : Nat} {c x : Str} {F : List D → R D} {ds : Env → R (List D)} {pl : Sem Bool} (tk : Takes X W) (M : CalM X.prog X.w X.K X.mg X.base fl k c x n F) (hr : Room k' X.A) (hk : k ≤ k')
    (ho : DE X fl W ow m o da) (ha : DA X fl W ow m (e :: es) ds) (hmi : (m == .i) = false := by rfl) (s1 : starEach (e :: es) X.env = (false, eval e X.env) :: starEach es X.env := by rfl) (s2 : (backTo pos (starEach es X.env)).any (·.1) = false := by rfl)
    (s3 : eval (.Call (.Attribute o x apos) (e :: es) [] pos) X.env = (eval o X.env >>= fun ov => standAt apos.atName >>= fun _ => holding [ov] (getMethod ov x pl) >>= fun r => callWith pos r.1 r.2 (backTo pos (starEach (e :: es) X.env)) (backToKw pos (keywordEach [] X.env))) := by rfl) :
    DE X fl W ow m (.Call (.Attribute o x apos) (e :: es) [] pos) (eMet c n F da ds) := by
  obtain ⟨C, f, fd, ps, g1, g2, g3, g4, g5, g6⟩ := M
  obtain ⟨t, p, k1⟩ := ho
  obtain ⟨t2, p2, k2⟩ := ha
  refine ⟨_, pe_metW p g2 g3 tk g6 (hr.mono hk) g5 p2 s1 s2 s3, fun av H0 hs dl st H Q e q => ?_⟩
  refine k1 av H0 hs dl st H _ e (q.bind.mono (fun d _ w v H1 s r => ?_) fun _ z => z)
  cases d with
  | obj c' l' =>
    replace w : Asks (if c' = c then ds dl >>= fun l => if l.length + 1 = n then F (.obj c' l' :: l) else .bad else .bad) (OkV (gx X fl) H (pm m av ow dl st) m Q) (EX (gx X fl) H W st) := w
    by_cases ec : c' = c
    · subst ec
      rw [if_pos rfl] at w
      cases r.toI.obj' with
      | @obj a C' dx fs _ _ h1 hM h2 h3 h4 =>
        cases h2.symm.trans g1
        refine ⟨a, dx, fs, rfl, h1, ?_, ?_⟩
        · cases z : fs.lookup x with
          | none => rfl
          | some v' =>
            have : x ∈ fs.map (·.1) := by
              clear r h1 h2 h3 h4 hM
              induction fs with
              | nil => cases z
              | cons p fs ih =>
                rw [List.lookup_cons] at z
                by_cases e : (x == p.1) = true
                · rw [List.map_cons, eq_of_beq e]
                  exact .head _
                · rw [Bool.not_eq_true] at e
                  rw [e] at z
                  exact .tail _ (ih z)
            rw [show fs.map (·.1) = fl c' from h3] at this
            exact absurd this g4
        · refine k2 av H0 hs dl st H1 _ (e.sm s) (w.bind.mono (fun l _ w vs H2 s2 r2 => ?_) fun _ z => z.sm s)
          split at w
          · rename_i hl
            refine ⟨by rw [List.length_cons, r2.length]; exact hl, _, _, (e.sm (s.trans s2)).pmh m, .cons ((Rp.obj h1 hM h2 h3 h4).sm s2) r2, w.mono (fun d _ w v H3 s3 r3 => ?_) fun c z C' H3 hC s3 => z C' H3 hC (s.trans (s2.trans s3))⟩
            exact w v H3 (s.trans (s2.trans s3)) (Rp.toM r3)
          · exact w.elim
    · rw [if_neg ec] at w
      exact w.elim
  | _ => exact w.elim
end
end DL

/-! The data layer: instances are made. -/
namespace DL
open PySem PySem.Spec PyProof.Rows L2
/-- an instance that is being made is changed -/
theorem ER.updX {G : Gx} {av : Addr → Prop} {H0 : Hp} {hs : List (V × D)} {ow : List Bool} {dl : Env} {st : L2.St} {H : Hp} {x : Addr} {o o' : HO} (e : ER G av H0 hs ow dl st H) (hx : av x) (h0 : H0 x = none) (hH : H x = some o) (hm : isM o = true) :
    ER G av H0 hs ow dl st (L2.upd H x o') := by
  have hxa : avo av ow dl st x := .inl hx
  have keep : ∀ b u, b ≠ x → H b = some u → L2.upd H x o' b = some u := fun b u hb h => by
    unfold L2.upd
    rw [if_neg hb]
    exact h
  have mv : Mv H (avo av ow dl st) (L2.upd H x o') (avo av ow dl st) := fun b u h n => by
    have hb : b ≠ x := fun z => by
      subst z
      rw [hH] at h
      cases h
      exact n hm hxa
    exact ⟨keep b u hb h, n⟩
  have same : Same H0 (L2.upd H x o') := fun b u h => by
    have hb : b ≠ x := fun z => by
      subst z
      rw [h0] at h
      cases h
    exact keep b u hb (e.same b u h)
  refine ⟨same, fun b hb => ?_, e.len, fun i d h1 h2 => ?_, fun i d h1 h2 => ?_, e.ds, fun p hp => (e.hd p hp).mv mv⟩
  · by_cases hbx : b = x
    · subst hbx
      exact ⟨o', by unfold L2.upd; rw [if_pos rfl]⟩
    · obtain ⟨u, q⟩ := e.avh b hb
      exact ⟨u, keep b u hbx q⟩
  · obtain ⟨v, q1, q2⟩ := e.pl i d h1 h2
    exact ⟨v, q1, q2.mv mv⟩
  · obtain ⟨a, q1, q2, q3, q4⟩ := e.on i d h1 h2
    exact ⟨a, q1, q2, q3, q4.mv mv fun u z => keep a u (fun w => q3 (w ▸ hx)) z⟩
theorem putF_new {f : Str} {v : V} : ∀ {fs : List (Str × V)}, f ∉ fs.map (·.1) → putF f v fs = fs ++ [(f, v)]
  | [], _ => rfl
  | (g, y) :: fs, h => by
    unfold putF
    rw [if_neg (fun z => h (by rw [List.map_cons]; subst z; exact .head _)), putF_new fun z => h (by rw [List.map_cons]; exact .tail _ z)]
    rfl
/-- x is the instance that is being made, fs its fields so far -/
structure Made (X : Cx) (fl : Str → List Str) (av : Addr → Prop) (H0 : Hp) (dl : Env) (H : Hp) (c : Str) (x C dx : Addr) (fs : List (Str × V)) : Prop where
  av : av x
  h0 : H0 x = none
  raw : fl "<raw>" = List.replicate (x + 1) Str.empty
  at_ : H x = some (.ins C dx fs)
  cls : Cls X.K C
  mg : X.mg c = some (.ref C)
  part : isM (.ins C dx fs) = true
def selfD (dl : Env) : Bool := match dl[0]? with
  | some (some D.raw) => true
  | _ => false
def tailD : List (Env → R D) → Env → R (List D)
  | [], _ => .ok []
  | d :: ds, dl => nx (d dl) >>= fun a => if imm a then tailD ds dl >>= fun l => .ok (a :: l) else .bad
/-- self.f = e, .. to the end of the body -/
def DTl (X : Cx) (fl : Str → List Str) (W : WX) (ow : List Bool) (c : Str) (ss : List Stmt) (fs : List Str) (ds : List (Env → R D)) : Prop :=
  ∃ t, PSs X ss t ∧ ∀ av H0 hs dl st H Dn x C dx done, ER (gx X fl) av H0 hs ow dl st H → Made X fl av H0 dl H c x C dx done → selfD dl = true → (∀ f ∈ fs, NoAttr X.K C f) → (done.map (·.1) ++ fs).Nodup → done.length + fs.length < 1000 →
    Asks (tailD ds dl) (fun l => ∀ H' vs, (∀ b u, b ≠ x → H b = some u → H' b = some u) → H' x = some (.ins C dx (done ++ fs.zip vs)) → vs.length = fs.length → RpAll (gx X fl) H' (fun _ => False) vs l → Dn.nx st H') (fun _ => False) → t Dn st H
section
variable {X : Cx} {fl : Str → List Str} {W : WX} {ow : List Bool} {m : Md} {e o : Expr} {es : List Expr} {da : Env → R D} {pos apos : Pos}
theorem self_at {G : Gx} {av : Addr → Prop} {H0 : Hp} {hs : List (V × D)} {dl : Env} {st : L2.St} {H : Hp} {x : Addr} (e : ER G av H0 hs ow dl st H) (ho : ow[0]? ≠ some true) (hr : G.fl "<raw>" = List.replicate (x + 1) Str.empty) (h : selfD dl = true) : st[0]? = some (some (.ref x)) := by
  unfold selfD at h
  split at h
  · rename_i q
    have q : dl[0]? = some (some D.raw) := q
    obtain ⟨v, q1, q2⟩ := e.pl 0 .raw q ho
    cases q2 with
    | raw hr2 =>
      have := congrArg List.length (hr2.symm.trans hr)
      simp at this
      rw [q1, this]
  · cases h
theorem tl_nil {c : Str} : DTl X fl W ow c [] [] [] := by
  refine ⟨_, pss_nil, fun av H0 hs dl st H Dn x C dx done e M hs _ _ _ q => ?_⟩
  exact q H [] (fun _ _ _ h => h) (by rw [List.zip_nil_left, List.append_nil]; exact M.at_) rfl .nil
theorem tl_cons {c f y : Str} {p' p2 : Pos} {ss : List Stmt} {fs : List Str} {ds : List (Env → R D)} (ho : (ow[0]? == some true) = false) (hN : X.N[0]? = some y) (hv : Vis X.env.scope y) (hfo : (f == ("operations" : Str)) = false) (h : DE X fl W ow .t e da) (r : DTl X fl W ow c ss fs ds)
    (hs : swapsWith e (some (.Attribute (.Name y p2) f p')) pos.line X.env = pure false := by rfl) (hd : (y == ("__debug__" : Str)) = false := by decide) (hcd : (y == ("__classdict__" : Str)) = false := by decide) :
    DTl X fl W ow c (.Assign [.Attribute (.Name y p2) f p'] e pos :: ss) (f :: fs) (da :: ds) := by
  obtain ⟨t, p, k⟩ := h
  obtain ⟨t2, q2, k2⟩ := r
  refine ⟨_, pss_cons (ps_fld (pe_var hN hv hd hcd) p hs) q2, fun av H0 hs dl st H Dn x C dx done e M hself hno hnd hlen q => ?_⟩
  have ho' : ow[0]? ≠ some true := by simpa using ho
  have hst := self_at (G := gx X fl) e ho' M.raw hself
  have hnf : f ∉ done.map (·.1) := fun z => (List.nodup_append.mp hnd).2.2 f z f (.head _) rfl
  have q : Asks (nx (da dl) >>= fun a => if imm a then tailD ds dl >>= fun l => .ok (a :: l) else .bad) _ _ := q
  refine k av H0 hs dl st H _ e ((nx_asks q.bind).mono (fun d _ w v H1 s rv => ?_) fun _ z => z.elim)
  by_cases hi : imm d = true
  · rw [if_pos hi] at w
    have hx1 := s _ _ M.at_
    refine ⟨_, hst, x, C, dx, done, rfl, hx1, M.cls, hno f (.head _), by simp at hlen; omega, ?_⟩
    rw [putF_new hnf]
    have keep : ∀ b u, b ≠ x → H1 b = some u → L2.upd H1 x (.ins C dx (done ++ [(f, v)])) b = some u := fun b u hb hu => by
      unfold L2.upd
      rw [if_neg hb]
      exact hu
    have hat : L2.upd H1 x (.ins C dx (done ++ [(f, v)])) x = some (.ins C dx (done ++ [(f, v)])) := by
      unfold L2.upd
      rw [if_pos rfl]
    have vx : Rp (gx X fl) H1 (fun b => b = x) v d := Rp.imm (show Rp (gx X fl) H1 _ v d from rv) hi
    have ext : ∀ (H' : Hp) (vs : List V) (l : List D), (∀ b u, b ≠ x → L2.upd H1 x (.ins C dx (done ++ [(f, v)])) b = some u → H' b = some u) → H' x = some (.ins C dx ((done ++ [(f, v)]) ++ fs.zip vs)) → vs.length = fs.length → RpAll (gx X fl) H' (fun _ => False) vs l →
        (∀ b u, b ≠ x → H b = some u → H' b = some u) ∧ H' x = some (.ins C dx (done ++ (f :: fs).zip (v :: vs))) ∧ (v :: vs).length = (f :: fs).length ∧ RpAll (gx X fl) H' (fun _ => False) (v :: vs) (d :: l) := fun H' vs l g1 g2 g3 g4 => by
      refine ⟨fun b u hb hu => g1 b u hb (keep b u hb (s _ _ hu)), by rw [g2, List.zip_cons_cons, List.append_assoc]; rfl, by simp [g3], .cons ?_ g4⟩
      have mv : Mv H1 (fun b => b = x) H' (fun _ => False) := fun b u hb n => by
        have hbx : b ≠ x := fun z => by
          subst z
          rw [hx1] at hb
          cases hb
          exact n M.part rfl
        exact ⟨g1 b u hbx (keep b u hbx hb), fun _ z => z⟩
      exact vx.mv mv
    have M2 : Made X fl av H0 dl (L2.upd H1 x (.ins C dx (done ++ [(f, v)]))) c x C dx (done ++ [(f, v)]) := by
      refine ⟨M.av, M.h0, M.raw, hat, M.cls, M.mg, ?_⟩
      have hp : (done.lookup ("operations" : Str)).isNone = true := M.part
      show ((done ++ [(f, v)]).lookup ("operations" : Str)).isNone = true
      have z1 : done.lookup ("operations" : Str) = none := by simpa using hp
      rw [List.lookup_append, z1, List.lookup_cons, show (("operations" : Str) == f) = false from beq_eq_false_iff_ne.mpr fun z => beq_eq_false_iff_ne.mp hfo z.symm]
      rfl
    refine k2 av H0 hs dl st _ Dn x C dx (done ++ [(f, v)]) (ER.updX (e.sm s) M.av M.h0 hx1 M.part) M2 hself (fun g hg => hno g (.tail _ hg)) (by rw [List.map_append, List.append_assoc]; exact hnd) (by simp at hlen ⊢; omega) (w.bind.mono (fun l _ w' H' vs g1 g2 g3 g4 => ?_) fun _ z => z.elim)
    obtain ⟨y1, y2, y3, y4⟩ := ext H' vs l g1 g2 g3 g4
    exact w' H' (v :: vs) y1 y2 y3 y4
  · rw [if_neg hi] at w
    exact w.elim
theorem tl_last {c f y : Str} {p' p2 : Pos} (ho : (ow[0]? == some true) = false) (hN : X.N[0]? = some y) (hv : Vis X.env.scope y) (h : DE X fl W ow .t e da)
    (hs : swapsWith e (some (.Attribute (.Name y p2) f p')) pos.line X.env = pure false := by rfl) (hd : (y == ("__debug__" : Str)) = false := by decide) (hcd : (y == ("__classdict__" : Str)) = false := by decide) :
    DTl X fl W ow c (.Assign [.Attribute (.Name y p2) f p'] e pos :: []) [f] [da] := by
  obtain ⟨t, p, k⟩ := h
  refine ⟨_, pss_cons (ps_fld (pe_var hN hv hd hcd) p hs) pss_nil, fun av H0 hs dl st H Dn x C dx done e M hself hno hnd hlen q => ?_⟩
  have ho' : ow[0]? ≠ some true := by simpa using ho
  have hst := self_at (G := gx X fl) e ho' M.raw hself
  have hnf : f ∉ done.map (·.1) := fun z => (List.nodup_append.mp hnd).2.2 f z f (.head _) rfl
  have q : Asks (nx (da dl) >>= fun a => if imm a then tailD [] dl >>= fun l => .ok (a :: l) else .bad) _ _ := q
  refine k av H0 hs dl st H _ e ((nx_asks q.bind).mono (fun d _ w v H1 s rv => ?_) fun _ z => z.elim)
  by_cases hi : imm d = true
  · rw [if_pos hi] at w
    have hx1 := s _ _ M.at_
    refine ⟨_, hst, x, C, dx, done, rfl, hx1, M.cls, hno f (.head _), by simp at hlen; omega, ?_⟩
    rw [putF_new hnf]
    have keep : ∀ b u, b ≠ x → H1 b = some u → L2.upd H1 x (.ins C dx (done ++ [(f, v)])) b = some u := fun b u hb hu => by
      unfold L2.upd
      rw [if_neg hb]
      exact hu
    have hat : L2.upd H1 x (.ins C dx (done ++ [(f, v)])) x = some (.ins C dx (done ++ [(f, v)])) := by
      unfold L2.upd
      rw [if_pos rfl]
    have vx : Rp (gx X fl) H1 (fun b => b = x) v d := Rp.imm (show Rp (gx X fl) H1 _ v d from rv) hi
    have ext : ∀ (H' : Hp) (vs : List V) (l : List D), (∀ b u, b ≠ x → L2.upd H1 x (.ins C dx (done ++ [(f, v)])) b = some u → H' b = some u) → H' x = some (.ins C dx ((done ++ [(f, v)]) ++ ([] : List Str).zip vs)) → vs.length = ([] : List Str).length → RpAll (gx X fl) H' (fun _ => False) vs l →
        (∀ b u, b ≠ x → H b = some u → H' b = some u) ∧ H' x = some (.ins C dx (done ++ [f].zip (v :: vs))) ∧ (v :: vs).length = [f].length ∧ RpAll (gx X fl) H' (fun _ => False) (v :: vs) (d :: l) := fun H' vs l g1 g2 g3 g4 => by
      refine ⟨fun b u hb hu => g1 b u hb (keep b u hb (s _ _ hu)), by rw [g2, List.zip_cons_cons, List.append_assoc]; rfl, by simp [g3], .cons ?_ g4⟩
      have mv : Mv H1 (fun b => b = x) H' (fun _ => False) := fun b u hb n => by
        have hbx : b ≠ x := fun z => by
          subst z
          rw [hx1] at hb
          cases hb
          exact n M.part rfl
        exact ⟨g1 b u hbx (keep b u hbx hb), fun _ z => z⟩
      exact vx.mv mv
    obtain ⟨y1, y2, y3, y4⟩ := ext _ [] [] (fun b u _ h => h) (by rw [hat, List.zip_nil_left, List.append_nil]) rfl .nil
    exact w _ [v] y1 y2 y3 y4
  · rw [if_neg hi] at w
    exact w.elim
end
end DL

/-! The data layer: C(..). -/
namespace DL
open PySem PySem.Spec PyProof.Rows L2
def tailI (ds : List (Env → R D)) : Env → R (List D) := fun dl => if selfD dl then nxA (tailD ds dl) else .bad
/-- a body of __init__ -/
def DIn (X : Cx) (fl : Str → List Str) (W : WX) (ow : List Bool) (c : Str) (ss : List Stmt) (fs : List Str) (F : Env → R (List D)) : Prop :=
  ∃ t, PSs X ss t ∧ ∀ av H0 hs dl st H Dn x C dx, ER (gx X fl) av H0 hs ow dl st H → av x → H0 x = some (.ins C dx []) → fl "<raw>" = List.replicate (x + 1) Str.empty → Cls X.K C → X.mg c = some (.ref C) → (∀ f ∈ fs, NoAttr X.K C f) → fs.Nodup → fs.length < 1000 →
    Asks (F dl) (fun l => ∀ st' H' vs, (∀ b u, b ≠ x → H0 b = some u → H' b = some u) → H' x = some (.ins C dx (fs.zip vs)) → vs.length = fs.length → RpAll (gx X fl) H' (fun _ => False) vs l → Dn.nx st' H')
      (fun cls => ∀ C' st' H', X.mg cls = some (.ref C') → Same H0 H' → W (.ref C') none st' H') → t Dn st H
section
variable {X : Cx} {fl : Str → List Str} {W : WX} {ow : List Bool} {m : Md} {e o : Expr} {es : List Expr} {da : Env → R D} {pos apos : Pos} {c : Str} {ss : List Stmt} {fs : List Str}
theorem di_tail {ds : List (Env → R D)} (h : DTl X fl W ow c ss fs ds) : DIn X fl W ow c ss fs (tailI ds) := by
  obtain ⟨t, p, k⟩ := h
  refine ⟨t, p, fun av H0 hs dl st H Dn x C dx e hx h0 hr hc hm hno hnd hlen q => ?_⟩
  have q2 : Asks (if selfD dl = true then nxA (tailD ds dl) else .bad) _ _ := q
  by_cases hself : selfD dl = true
  · rw [if_pos hself] at q2
    have e2 : ER (gx X fl) av (fun b => if b = x then none else H0 b) hs ow dl st H := by
      refine ⟨fun b u hb => ?_, e.avh, e.len, e.pl, fun i d h1 h2 => ?_, e.ds, e.hd⟩
      · have hb : (if b = x then none else H0 b) = some u := hb
        split at hb
        · cases hb
        · exact e.same b u hb
      · obtain ⟨a, q1, q2, q3, q4⟩ := e.on i d h1 h2
        exact ⟨a, q1, by show (if a = x then none else H0 a) = none; split; rfl; exact q2, q3, q4⟩
    have hH := e.same x _ h0
    refine k av _ hs dl st H Dn x C dx [] e2 ⟨hx, by show (if x = x then none else H0 x) = none; rw [if_pos rfl], hr, hH, hc, hm, rfl⟩ hself hno (by simpa using hnd) (by simpa using hlen) ((nxA_asks q2).mono (fun l _ w H' vs g1 g2 g3 g4 => ?_) fun _ z => z)
    exact w st H' vs (fun b u hb hu => g1 b u hb (e.same b u hu)) (by simpa using g2) g3 g4
  · rw [if_neg hself] at q2
    exact q2.elim
def preI (d1 : Env → Out) (F : Env → R (List D)) : Env → R (List D) := fun dl => match d1 dl with | .nx dl' => F dl' | .exc c _ => .exc c | _ => .bad
theorem di_pre {s : Stmt} {d1 : Env → Out} {F : Env → R (List D)} (h : DS X fl W ow s d1) (r : DIn X fl W ow c ss fs F) : DIn X fl W ow c (s :: ss) fs (preI d1 F) := by
  obtain ⟨t, p, k⟩ := r
  refine ⟨_, pss_cons h p, fun av H0 hs dl st H Dn x C dx e hx h0 hr hc hm hno hnd hlen q => ⟨av, H0, hs, dl, e, ?_⟩⟩
  unfold preI at q
  generalize d1 dl = o at q ⊢
  cases o with
  | nx dl' => exact fun st' H' e' => k av H0 hs dl' st' H' Dn x C dx e' hx h0 hr hc hm hno hnd hlen q
  | exc c' dl' => exact fun C' st' H' hC e' => q C' st' H' hC e'.same
  | _ => exact q.elim
end
/-! ### the class of what is being made -/
def rawF (fl : Str → List Str) (x : Addr) : Str → List Str := fun c => if c = "<raw>" then List.replicate (x + 1) Str.empty else fl c
theorem rawF_at (fl : Str → List Str) (x : Addr) : rawF fl x "<raw>" = List.replicate (x + 1) Str.empty := if_pos rfl
theorem rawF_of {fl : Str → List Str} {x : Addr} {c : Str} (h : c ≠ "<raw>") : rawF fl x c = fl c := if_neg h
section
variable {K : PySem.W.Frag} {mg : Str → Option Value} {fl fl' : Str → List Str} {H : Hp} {P : Addr → Prop}
mutual
theorem Rp.toFl (h : ∀ c C, mg c = some (.ref C) → fl c = fl' c) (hb : fl "<raw>" = []) : ∀ {v : V} {d : D}, Rp ⟨K, mg, fl⟩ H P v d → Rp ⟨K, mg, fl'⟩ H P v d
  | _, _, .non => .non
  | _, _, .bl b => .bl b
  | _, _, .int i => .int i
  | _, _, .str x => .str x
  | _, _, .tup a b r => .tup a b (RpAll.toFl h hb r)
  | _, _, .lst a b n r => .lst a b n (RpAll.toFl h hb r)
  | _, _, .lstF a b r => .lstF a b (RpAll.toFl h hb r)
  | _, _, .obj a y g f r => .obj a y g (f.trans (h _ _ g)) (RpAll.toFl h hb r)
  | _, _, .dct a n r e q => .dct a n (RpAll.toFl h hb r) e (RpAll.toFl h hb q)
  | _, _, .dcl a r e q => .dcl a (RpAll.toFl h hb r) e (RpAll.toFl h hb q)
  | _, _, .lk a => .lk a
  | _, _, .raw z => absurd (show fl "<raw>" = _ from z) (by rw [hb]; simp [List.replicate_succ])
theorem RpAll.toFl (h : ∀ c C, mg c = some (.ref C) → fl c = fl' c) (hb : fl "<raw>" = []) : ∀ {vs : List V} {ds : List D}, RpAll ⟨K, mg, fl⟩ H P vs ds → RpAll ⟨K, mg, fl'⟩ H P vs ds
  | _, _, .nil => .nil
  | _, _, .cons r rs => .cons (Rp.toFl h hb r) (RpAll.toFl h hb rs)
end
mutual
theorem Rp.immFl {P' : Addr → Prop} (h : ∀ c C, mg c = some (.ref C) → fl c = fl' c) : ∀ {v : V} {d : D}, Rp ⟨K, mg, fl⟩ H P v d → imm d = true → Rp ⟨K, mg, fl'⟩ H P' v d
  | _, _, .non, _ => .non
  | _, _, .bl b, _ => .bl b
  | _, _, .int i, _ => .int i
  | _, _, .str x, _ => .str x
  | _, _, .tup a b r, q => .tup a b (RpAll.immFl h r (by unfold DL.imm at q; exact q))
  | _, _, .lst a b n r, q => by unfold DL.imm at q; cases q
  | _, _, .lstF a b r, q => .lstF a b (RpAll.immFl h r (by unfold DL.imm at q; exact q))
  | _, _, .obj a y g f r, q => .obj a y g (f.trans (h _ _ g)) (RpAll.immFl h r (by unfold DL.imm at q; exact q))
  | _, _, .raw z, q => by unfold DL.imm at q; cases q
  | _, _, .dct .., q => by unfold DL.imm at q; cases q
  | _, _, .dcl .., q => by unfold DL.imm at q; cases q
  | _, _, .lk .., q => by unfold DL.imm at q; cases q
theorem RpAll.immFl {P' : Addr → Prop} (h : ∀ c C, mg c = some (.ref C) → fl c = fl' c) : ∀ {vs : List V} {ds : List D}, RpAll ⟨K, mg, fl⟩ H P vs ds → immAll ds = true → RpAll ⟨K, mg, fl'⟩ H P' vs ds
  | _, _, .nil, _ => .nil
  | _, _, .cons r rs, q => by
    unfold immAll at q
    rw [Bool.and_eq_true] at q
    exact .cons (Rp.immFl h r q.1) (RpAll.immFl h rs q.2)
end
end
/-- what __init__ promises -/
def spI (G : Gx) (c : Str) (n : Nat) (F : List D → R D) : Sp := fun vs H Q E => vs.length = n + 1 ∧ ∃ (x dx C : Addr) (rest : List V) (av : Addr → Prop) (l : List D) (H1 : Hp), vs = .ref x :: rest ∧ H1 x = none ∧ H1 dx = none ∧ dx ≠ x ∧
  H = L2.upd (L2.upd H1 dx (.own x)) x (.ins C dx []) ∧ G.mg c = some (.ref C) ∧ (∀ b, av b → ∃ o, H1 b = some o) ∧ RpAll G H1 av rest l ∧
  Asks (F l) (fun d => ∀ H', Same H1 H' → Rp G H' av (.ref x) d → Q .non H') (fun cls => ∀ C' H', G.mg cls = some (.ref C') → Same H1 H' → E (.ref C') none H')
def inD (c : Str) (n N : Nat) (F : Env → R (List D)) : List D → R D := fun l => if l.length = n then (F (some .raw :: (l.map some ++ List.replicate (N - (n + 1)) none)) >>= fun ds => if immAll ds then .ok (.obj c ds) else .bad) else .bad
theorem zip_fst {α β : Type} : ∀ {a : List α} {b : List β}, b.length = a.length → (a.zip b).map (·.1) = a
  | [], _, _ => rfl
  | x :: a, y :: b, h => by rw [List.zip_cons_cons, List.map_cons, zip_fst (by simpa using h)]
theorem zip_snd {α β : Type} : ∀ {a : List α} {b : List β}, b.length = a.length → (a.zip b).map (·.2) = b
  | [], [], _ => rfl
  | x :: a, y :: b, h => by rw [List.zip_cons_cons, List.map_cons, zip_snd (by simpa using h)]
theorem lookup_some {α : Type} {x : Str} : ∀ {l : List (Str × α)}, x ∈ l.map (·.1) → (l.lookup x).isSome = true
  | [], h => by simp at h
  | (y, v) :: l, h => by
    rw [List.lookup_cons]
    by_cases e : (x == y) = true
    · rw [e]; rfl
    · rw [Bool.not_eq_true] at e
      rw [e]
      rw [List.map_cons] at h
      refine lookup_some ((List.mem_cons.mp h).elim (fun z => ?_) fun z => z)
      exact absurd (beq_iff_eq.mpr z) (by rw [e]; simp)
theorem init_def {P : Program} {w : World} {K : PySem.W.Frag} {mg : Str → Option Value} {base : Heap} {fl : Str → List Str} {x qual c : Str} {st : Stmt} {f : Addr} {fd : FuncData} {N ps fs : List Str} {k n : Nat} {ow : List Bool} {F : Env → R (List D)} (Fn : Fun K x qual st f fd) (S : FnScope N ps (defScope st))
    (hn : ps.length = n + 1) (ho : ((ow.take (n + 1)).all (!·)) = true) (hraw : mg "<raw>" = none) (hfl : fl "<raw>" = []) (hfs : fl c = fs) (hop : ("operations" : Str) ∈ fs) (hcls : ∀ C, mg c = some (.ref C) → Cls K C ∧ ∀ f ∈ fs, NoAttr K C f) (hnd : fs.Nodup) (hlen : fs.length < 1000)
    (hbody : ∀ (y : Addr) (cdv : Value) (A : Around) (outer : List PySem.Env) (s : Shared) (H : Hp) (E : XK), Room k (A.deeper (envOfC qual (defScope st) s.heap.objs.size f cdv)) →
      DIn (cxOf (L2.CX P w) P w K mg base N qual (defScope st) f cdv A outer s H E) (rawF fl y) (fun cls d _ H => E cls d H) ow c (defBody st) fs F) :
    FnOk P w K mg base (L2.CX P w) (k + 1) f fd ps (spI ⟨K, mg, fl⟩ c n (inD c n N.length F)) := by
  have tfl : ∀ (y : Addr) (c' : Str) (C : Addr), mg c' = some (.ref C) → fl c' = rawF fl y c' := fun y c' C h => (rawF_of fun z => by rw [z, hraw] at h; cases h).symm
  refine Fn.okX S (fun vs H Q E h => h.1.trans hn.symm) fun cdv A outer s H vs Q E hr h => ?_
  obtain ⟨h1, y, dx, C, rest, av, l, H1, rfl, hy, hdx, hne, rfl, hm, hav, r, q⟩ := h
  obtain ⟨t, p, kk⟩ := hbody y cdv A outer s _ E hr
  have hat : L2.upd (L2.upd H1 dx (.own y)) y (.ins C dx []) y = some (.ins C dx []) := by
    unfold L2.upd
    rw [if_pos rfl]
  have keep : ∀ b u, H1 b = some u → L2.upd (L2.upd H1 dx (.own y)) y (.ins C dx []) b = some u ∧ b ≠ y := fun b u hb => by
    have z1 : b ≠ y := fun z => by rw [z, hy] at hb; cases hb
    have z2 : b ≠ dx := fun z => by rw [z, hdx] at hb; cases hb
    refine ⟨?_, z1⟩
    unfold L2.upd
    rw [if_neg z1, if_neg z2]
    exact hb
  have rr : RpAll ⟨K, mg, rawF fl y⟩ (L2.upd (L2.upd H1 dx (.own y)) y (.ins C dx [])) (fun b => b = y) (.ref y :: rest) (.raw :: l) :=
    .cons (.raw (rawF_at fl y)) (RpAll.mv (fun b u hb _ => ⟨(keep b u hb).1, fun _ => (keep b u hb).2⟩) (r.toFl (fun c' C' h => tfl y c' C' h) hfl))
  have hl : l.length = n := by
    have := r.length
    simp at h1
    omega
  have e := er_start (ow := ow) (N := N) (fun b hb => ⟨.ins C dx [], by rw [show b = y from hb]; exact hat⟩) rr (by rw [List.length_cons, hl]; exact ho)
  refine ⟨t, p, kk _ _ _ _ _ _ _ y C dx e rfl hat (rawF_at fl y) (hcls C hm).1 hm (hcls C hm).2 hnd hlen ?_⟩
  unfold inD at q
  rw [if_pos hl] at q
  have ee : (List.map some (D.raw :: l) ++ List.replicate (N.length - (D.raw :: l).length) none) = some D.raw :: (l.map some ++ List.replicate (N.length - (n + 1)) none) := by rw [List.map_cons, List.length_cons, hl]; rfl
  rw [ee]
  refine q.bind.mono (fun ds _ w st' H' vs g1 g2 g3 g4 => ?_) fun c' z C' st' H' hC s => z C' H' hC fun b u hb => s b u (keep b u hb).1
  by_cases hi : immAll ds = true
  · rw [if_pos hi] at w
    refine w H' (fun b u hb => g1 b u (keep b u hb).2 (keep b u hb).1) ?_
    refine .obj g2 ?_ hm ((zip_fst g3).trans hfs.symm) ?_
    · have := lookup_some (x := "operations") (l := fs.zip vs) (by rw [zip_fst g3]; exact hop)
      show ((fs.zip vs).lookup ("operations" : Str)).isNone = false
      cases z : (fs.zip vs).lookup ("operations" : Str) with
      | none => rw [z] at this; cases this
      | some _ => rfl
    · rw [zip_snd g3]
      exact RpAll.immFl (fun c' C' h => (tfl y c' C' h).symm) g4 hi
  · rw [if_neg hi] at w
    exact w.elim
end DL

/-! The data layer: C(..), isinstance. -/
namespace DL
open PySem PySem.Spec PyProof.Rows L2
section
variable {X : Cx} {fl : Str → List Str} {W : WX} {ow : List Bool} {m : Md} {e o : Expr} {es : List Expr} {da : Env → R D} {p pos apos : Pos}
def tMkW (C : Addr) (sp : Sp) (W : WX) (t : TA) : TE := fun σ H Q => t σ H fun vs H1 => ∀ x dx, H1 x = none → H1 dx = none → dx ≠ x → sp (.ref x :: vs) (L2.upd (L2.upd H1 dx (.own x)) x (.ins C dx [])) (fun v H2 => v = .non ∧ Q (.ref x) H2) (WE W σ)
theorem pe_mkW {x : Str} {C f : Addr} {fd : FuncData} {ps : List Str} {k : Nat} {sp : Sp} {t : TA} (tk : Takes X W) (M : Mk X.K C f) (F : FnOk X.prog X.w X.K X.mg X.base (L2.CX X.prog X.w) k f fd ps sp) (hr : Room (k + 1) X.A) (hg : Gl X x) (hm : X.mg x = some (.ref C))
    (hb : Binds X.K fd ps []) (ha : PA X (e :: es) t) (hdb : (x == ("__debug__" : Str)) = false := by decide) (s1 : starEach (e :: es) X.env = (false, eval e X.env) :: starEach es X.env := by rfl) (s2 : (backTo pos (starEach es X.env)).any (·.1) = false := by rfl) :
    PE X (.Call (.Name x p) (e :: es) [] pos) (tMkW C sp W t) := by
  constructor
  intro pins s σ H Q I h
  refine wpAny_Call_Name_kw (ld_glob I hg hm (PySem.W.callWith_K (h₀ := X.base) I.ok.mod.kin M.kp (thn (ha.run pos pins s σ H _ I h) ?_) s1 s2) hdb)
  rintro us t1 ⟨vs, H1, J, rv, q⟩
  have n1 : t1.heap.objs.size ≤ t1.heap.objs.size + 1 := Nat.le_succ _
  have hq := q (t1.heap.objs.size + 1) t1.heap.objs.size (J.hok.fresh n1) (J.hok.fresh (Nat.le_refl _)) (Nat.ne_of_lt (Nat.lt_succ_self _))
  have J2 := Inv.made (C := C) J
  have rv2 : Vals (V.ref (t1.heap.objs.size + 1) :: vs) (.ref (t1.heap.objs.size + 1) :: us) := .cons rfl rv
  have hl : (Value.ref (t1.heap.objs.size + 1) :: us).length = ps.length := rv2.length.symm.trans (F.len _ _ _ _ hq)
  have hl2 : ((Value.ref (t1.heap.objs.size + 1) :: us) ++ []).length = ps.length := by rw [List.append_nil]; exact hl
  have bb := hb _ (.ref (t1.heap.objs.size + 1) :: us) J2.kIn hl2
  rw [List.append_nil] at bb
  have go := F.run _ X.stack _ _ ⟨.ref (t1.heap.objs.size + 1) :: us, []⟩ _ _ _ (WE W σ) (hr.make C us []) (J2.env0.make C us []) bb rv2 hq
  refine ⟨J.kIn, wpAny_call (make_map (f := f) J.kIn M.makes M.init (beq_iff_eq.mp M.fn) (codeAny_mono go ?_))⟩
  rintro (er | fl') t2 z
  · exact passAt tk σ pins _ _ er t2 J2 z
  · cases fl' with
    | ret u =>
      obtain ⟨v, H', J3, rw3, ev, q3⟩ := J2.after z
      cases ev
      exact ⟨rw3, V.ref (t1.heap.objs.size + 1), H', J3, rfl, q3⟩
    | next => exact z.elim
    | brk => exact z.elim
    | cont => exact z.elim
/-- a class whose __init__ keeps its promise -/
def CalI (P : Program) (w : World) (K : PySem.W.Frag) (mg : Str → Option Value) (base : Heap) (fl : Str → List Str) (k : Nat) (c : Str) (n : Nat) (F : List D → R D) : Prop :=
  ∃ C f fd ps, mg c = some (.ref C) ∧ Mk K C f ∧ Binds K fd ps [] ∧ FnOk P w K mg base (L2.CX P w) k f fd ps (spI ⟨K, mg, fl⟩ c n F)
theorem dc_mk {k k' n : Nat} {F : List D → R D} {c : Str} {ds : Env → R (List D)} (tk : Takes X W) (M : CalI X.prog X.w X.K X.mg X.base fl k c n F) (hr : Room k' X.A) (hk : k + 1 ≤ k') (hn : (es.length + 1 == n) = true) (hg : Gl X c) (ha : DA X fl W ow m (e :: es) ds)
    (hmi : (m == .i) = false := by rfl) (hdb : (c == ("__debug__" : Str)) = false := by decide) (s1 : starEach (e :: es) X.env = (false, eval e X.env) :: starEach es X.env := by rfl) (s2 : (backTo pos (starEach es X.env)).any (·.1) = false := by rfl) :
    DE X fl W ow m (.Call (.Name c p) (e :: es) [] pos) (eDef n F ds) := by
  obtain ⟨C, f, fd, ps, g1, g2, g3, g4⟩ := M
  obtain ⟨t, q1, k1⟩ := ha
  refine ⟨_, pe_mkW tk g2 g4 (hr.mono hk) hg g1 g3 q1 hdb s1 s2, fun av H0 hs dl st H Q e q => k1 av H0 hs dl st H _ e (q.bind.mono (fun l _ w vs H1 s r => ?_) fun _ z => z)⟩
  intro x dx hx hdx hne
  split at w
  · rename_i hl
    refine ⟨by rw [List.length_cons, r.length, hl], x, dx, C, vs, _, l, H1, rfl, hx, hdx, hne, rfl, g1, (e.sm s).pmh m, r, w.mono (fun d _ w H2 s2 r2 => ?_) fun c' z C' H2 hC s2 => z C' H2 hC (s.trans s2)⟩
    exact ⟨rfl, w _ H2 (s.trans s2) (Rp.toM r2)⟩
  · exact w.elim
end
/-- __init__ as it stands behind the top -/
structure IniAt (K : PySem.W.Frag) (mg : Str → Option Value) (c : Str) (fs : List Str) (q : Str) (st : Stmt) (n : Nat) : Prop where
  ex : ∃ C f fd ps, mg c = some (.ref C) ∧ Mk K C f ∧ Cls K C ∧ (∀ g ∈ fs, NoAttr K C g) ∧ Fun K "__init__" q st f fd ∧ Binds K fd ps [] ∧ ps.length = n + 1 ∧ ps = (defArgs st).args.map (·.arg)
theorem IniAt.cal {P : Program} {w : World} {K : PySem.W.Frag} {mg : Str → Option Value} {base : Heap} {fl : Str → List Str} {k n : Nat} {c q : Str} {fs : List Str} {st : Stmt} {N ps : List Str} {ow : List Bool} {F : Env → R (List D)} (h : IniAt K mg c fs q st n) (S : FnScope N ps (defScope st)) (hps : ps = (defArgs st).args.map (·.arg)) (ho : ((ow.take (n + 1)).all (!·)) = true)
    (hraw : mg "<raw>" = none) (hfl : fl "<raw>" = []) (hfs : fl c = fs) (hop : ("operations" : Str) ∈ fs) (hnd : fs.Nodup) (hlen : fs.length < 1000)
    (hbody : ∀ (f : Addr) (y : Addr) (cdv : Value) (A : Around) (outer : List PySem.Env) (s : Shared) (H : Hp) (E : XK), Room k (A.deeper (envOfC q (defScope st) s.heap.objs.size f cdv)) →
      DIn (cxOf (L2.CX P w) P w K mg base N q (defScope st) f cdv A outer s H E) (rawF fl y) (fun cls d _ H => E cls d H) ow c (defBody st) fs F) : CalI P w K mg base fl (k + 1) c n (inD c n N.length F) := by
  obtain ⟨C, f, fd, ps', h1, h2, h3, h4, h5, h6, h7, h8⟩ := h
  subst hps
  subst h8
  exact ⟨C, f, fd, _, h1, h2, h6, init_def h5 S h7 ho hraw hfl hfs hop (fun C' hC => by cases hC.symm.trans h1; exact ⟨h3, h4⟩) hnd hlen (hbody f)⟩
/-- a method as it stands behind the top -/
structure MetAt (K : PySem.W.Frag) (mg : Str → Option Value) (c x q : Str) (st : Stmt) (n : Nat) : Prop where
  ex : ∃ C f fd ps, mg c = some (.ref C) ∧ Cls K C ∧ Meth K C x f ∧ Fun K x q st f fd ∧ Binds K fd ps [] ∧ ps.length = n ∧ ps = (defArgs st).args.map (·.arg)
theorem MetAt.cal {P : Program} {w : World} {K : PySem.W.Frag} {mg : Str → Option Value} {base : Heap} {fl : Str → List Str} {k n : Nat} {c x q : Str} {st : Stmt} {N ps : List Str} {ow : List Bool} {den : Env → Out} (h : MetAt K mg c x q st n) (S : FnScope N ps (defScope st)) (hps : ps = (defArgs st).args.map (·.arg)) (ho : ((ow.take n).all (!·)) = true) (hx : x ∉ fl c)
    (hbody : ∀ (f : Addr) (cdv : Value) (A : Around) (outer : List PySem.Env) (s : Shared) (H : Hp) (E : XK), Room k (A.deeper (envOfC q (defScope st) s.heap.objs.size f cdv)) →
      DSs (cxOf (L2.CX P w) P w K mg base N q (defScope st) f cdv A outer s H E) fl (fun cls d _ H => E cls d H) ow (defBody st) den) : CalM P w K mg base fl (k + 1) c x n (fnD n N.length den) := by
  obtain ⟨C, f, fd, ps', h1, h2, h3, h4, h5, h6, h7⟩ := h
  subst hps
  subst h7
  exact ⟨C, f, fd, _, h1, h2, h3, hx, h5, fn_def h4 S (by simpa using h6) ho (hbody f)⟩
end DL

/-! The data layer: len(set(texts)), isinstance of an own class. -/
namespace DL
open PySem PySem.Spec PyProof.Rows L2
def unS : List D → Option (List Str)
  | [] => some []
  | .str x :: l => (unS l).map (x :: ·)
  | _ => none
theorem unS_v {G : Gx} {H : Hp} {P : Addr → Prop} : ∀ {vs : List V} {l : List D} {xs : List Str}, RpAll G H P vs l → unS l = some xs → vs = xs.map V.str
  | [], _, xs, .nil, h => by cases h; rfl
  | v :: vs, d :: l, xs, .cons r rs, h => by
    cases d with
    | str x =>
      unfold unS at h
      cases z : unS l with
      | none => rw [z] at h; cases h
      | some ys =>
        rw [z] at h
        cases h
        cases r
        rw [unS_v rs z]
        rfl
    | _ => cases h
theorem unS_map (xs : List Str) : unS (xs.map D.str) = some xs := by
  induction xs with
  | nil => rfl
  | cons n ns ih => simp [unS, ih]
def dOnce : D → R D
  | .lst l => match unS l with | some xs => if xs.length < 4000 then .ok (.int (once xs).length) else .bad | none => .bad
  | _ => .bad
theorem strs_of_vals : ∀ {xs : List Str} {us : List Value}, Vals (xs.map V.str) us → StrsAre us xs
  | [], _, .nil => .nil
  | x :: xs, _, .cons r t => by
    obtain ⟨k, rfl⟩ := r
    exact .cons x k (strs_of_vals t)
section
variable {X : Cx} {fl : Str → List Str} {W : WX} {ow : List Bool} {m : Md} {a : Expr} {da : Env → R D} {p p2 q pos : Pos}
def tOnce (K : PySem.W.Frag) (ta : TE) : TE := fun σ H Q => ta σ H fun x H1 => ∃ (l : Addr) (xs : List Str), x = .ref l ∧ SqL K H1 l (xs.map V.str) ∧ xs.length < 4000 ∧ Q (.int (once xs).length) H1
theorem pe_once {ta : TE} (hc : X.calm = true) (g1 : Gl X "len") (m1 : X.mg "len" = none) (g2 : Gl X "set") (m2 : X.mg "set" = none) (ha : PE X a ta) (na : starEach [a] X.env = (false, eval a X.env) :: starEach [] X.env := by rfl) :
    PE X (.Call (.Name "len" p) [.Call (.Name "set" p2) [a] [] q] [] pos) (tOnce X.K ta) := by
  constructor
  intro pins s σ H Q I h
  refine Call_ (ld_blt I g1 m1 boot_len (PyProof.Rows.callWith_builtin1 (PyProof.Rows.args_cons (Call_ (ld_blt I g2 m2 boot_set (PyProof.Rows.callWith_type1 (PyProof.Rows.args_cons (thn (ha.run pins s σ H _ I h) ?_) na) na rfl))) rfl) rfl rfl))
  rintro v t ⟨x, H1, J, rv, l, xs, rfl, hq, hn, z⟩
  refine PyProof.Rows.args_nil ?_
  cases (show v = Value.ref l from rv)
  obtain ⟨its, r, pl, hz⟩ := J.list hq
  refine set_strs (J.ok.hd hc) pl.isList (by simpa using strs_of_vals r) hn ?_
  intro g tk hS keep
  refine PyProof.Rows.args_nil ?_
  obtain ⟨o, es, ep, tb, q1, q2, q3, _, _, _, q4, q5⟩ := hS
  have J2 : Inv X pins σ H1 { t with heap := g, toks := tk } := J.kept fun b o e => keep b o (Heap.lt_size e) e
  have hb : es.size < 4000 := by
    rw [q5]
    have := once_len xs xs.length (Nat.le_refl _)
    rw [List.take_length] at this
    omega
  exact call_len_set q1 q2 q3 q4 (by omega) ⟨.int (once xs).length, H1, J2.tok _, ⟨_, by rw [q5]⟩, z⟩
theorem de_once (hc : X.calm = true) (g1 : Gl X "len") (m1 : X.mg "len" = none) (g2 : Gl X "set") (m2 : X.mg "set" = none) (h : DE X fl W ow .f a da) (na : starEach [a] X.env = (false, eval a X.env) :: starEach [] X.env := by rfl) :
    DE X fl W ow m (.Call (.Name "len" p) [.Call (.Name "set" p2) [a] [] q] [] pos) (fun dl => da dl >>= fun d => nx (dOnce d)) := by
  obtain ⟨t, p, k⟩ := h
  refine ⟨_, pe_once hc g1 m1 g2 m2 p na, fun av H0 hs dl st H Q e q => k av H0 hs dl st H _ e (q.bind.mono (fun d _ w v H1 s r => ?_) fun _ z => z)⟩
  have w := nx_asks w
  cases d with
  | lst l =>
    replace w : Asks (match unS l with | some xs => if xs.length < 4000 then .ok (.int (once xs).length) else .bad | none => .bad) (OkV (gx X fl) H (pm m av ow dl st) m Q) (fun _ => False) := w
    cases z : unS l with
    | none => rw [z] at w; exact w.elim
    | some xs =>
      rw [z] at w
      replace w : Asks (if xs.length < 4000 then R.ok (D.int (once xs).length) else .bad) (OkV (gx X fl) H (pm m av ow dl st) m Q) (fun _ => False) := w
      by_cases hn : xs.length < 4000
      · rw [if_pos hn] at w
        obtain ⟨y, ys, rfl, hx, zx, rx⟩ := r.toI.lst'
        refine ⟨y, xs, rfl, ?_, hn, w _ H1 s (Rp.toM (.int _))⟩
        rw [← unS_v rx z]
        exact .of hx
      · rw [if_neg hn] at w
        exact w.elim
  | _ => exact w.elim
/-! ### isinstance(x, C), C an own class -/
/-- what isinstance wants of an own class -/
structure InsOk (K : PySem.W.Frag) (C : Addr) : Prop where
  cl : Cls K C
  ha : PySem.W.findIn K (.ref C) "__class__" = some (some (.builtin "object.__class__"))
  hn : PySem.W.specialIn K (.builtin "object.__class__") "__get__" = some (some (.builtin "getset_descriptor.__get__"))
  ht : PySem.W.takesIn K (.builtin "object.__class__") = some true
  hm : PySem.W.mroIn K C (.type "object") = some true
  me : PySem.W.kitOne K (.ref C) (.ref C) = some true
def baseTys : List String := ["NoneType", "bool", "int", "str", "tuple", "list"]
/-- an own class that isinstance tells -/
def InsAt (K : PySem.W.Frag) (mg : Str → Option Value) (c : Str) : Prop := ∃ C, mg c = some (.ref C) ∧ InsOk K C ∧ ∀ t ∈ baseTys, PySem.W.kitOne K (.type t) (.ref C) = some false
def dIsC (c : Str) : D → R D
  | .obj c' _ => if c' = c then .ok (.bl true) else .bad
  | d => match tyD d with | some _ => .ok (.bl false) | none => .bad
theorem tyD_base {d : D} {t : String} (h : tyD d = some t) : t ∈ baseTys := by
  cases d <;> cases h <;> decide
theorem de_isC {c : Str} (hn : X.mg "isinstance" = none) (hg : Gl X "isinstance") (h2 : InsAt X.K X.mg c) (hg2 : Gl X c) (h : DE X fl W ow .f a da) (hd : (c == ("__debug__" : Str)) = false := by decide)
    (s1 : starEach [a, .Name c p2] X.env = (false, eval a X.env) :: starEach [.Name c p2] X.env := by rfl) (s2 : starEach [.Name c p2] X.env = (false, eval (.Name c p2) X.env) :: starEach [] X.env := by rfl) (s3 : (backTo pos (starEach [.Name c p2] X.env)).any (·.1) = false := by rfl) :
    DE X fl W ow m (.Call (.Name "isinstance" p) [a, .Name c p2] [] pos) (fun dl => da dl >>= fun d => nx (dIsC c d)) := by
  obtain ⟨C, hm, ok, no⟩ := h2
  obtain ⟨t, q1, k⟩ := h
  refine ⟨_, pe_callB call_isi hg hn (by decide +kernel) (pa_cons q1 (pa_cons (pe_glob (v := .ref C) hg2 hm rfl hd) pa_nil s2) s1) (by decide) (by decide) s1 s3, fun av H0 hs dl st H Q e q => k av H0 hs dl st H _ e (q.bind.mono (fun d _ w v H1 s r => ?_) fun _ z => z)⟩
  have w := nx_asks w
  have base : ∀ t', tyD d = some t' → Asks (R.ok (D.bl false)) (OkV (gx X fl) H (pm m av ow dl st) m Q) (fun _ => False) → rIsi X.K [v, .ref C] H1 Q := fun t' et w =>
    ⟨v, .ref C, .type t', .ref C, false, rfl, .own C, rpI_ty (G := gx X fl) (P := av) (.inl (show Rp (gx X fl) H1 av v d from r)) et, no t' (tyD_base et), w _ H1 s (Rp.toM (.bl false))⟩
  cases d with
  | obj c' l =>
    replace w : Asks (if c' = c then R.ok (D.bl true) else .bad) (OkV (gx X fl) H (pm m av ow dl st) m Q) (fun _ => False) := w
    by_cases e2 : c' = c
    · subst e2
      rw [if_pos rfl] at w
      cases r.toI.obj' with
      | @obj y C' dx fs _ _ g1 gM g2 g3 g4 =>
        cases (show X.mg c' = some (.ref C') from g2).symm.trans hm
        exact ⟨_, .ref C, .ref C, .ref C, true, rfl, .own C, .base (.ins g1 ok.cl ok.ha ok.hn ok.ht ok.hm), ok.me, w _ H1 s (Rp.toM (.bl true))⟩
    · rw [if_neg e2] at w
      exact w.elim
  | non => exact base _ rfl w
  | bl b => exact base _ rfl w
  | int b => exact base _ rfl w
  | str b => exact base _ rfl w
  | tup b => exact base _ rfl w
  | lst b => exact base _ rfl w
  | frz b => exact base _ rfl w
  | _ => exact w.elim
end
abbrev eFld (c : Str) (fs : List Str) (x : Str) (a : Env → R D) : Env → R D := fun dl => a dl >>= dFld c fs x
abbrev eOnce (a : Env → R D) : Env → R D := fun dl => a dl >>= fun d => nx (dOnce d)
abbrev eIsC (c : Str) (a : Env → R D) : Env → R D := fun dl => a dl >>= fun d => nx (dIsC c d)
/-- a def that calls itself, no turn yet -/
theorem DefAt.zero {P : Program} {w : World} {K : PySem.W.Frag} {mg : Str → Option Value} {base : Heap} {fl : Str → List Str} {k n : Nat} {x : Str} {st : Stmt} (h : DefAt K mg x st n) : Cal P w K mg base fl k x n (fun _ => .bad) := by
  obtain ⟨f, fd, ps, h1, h2, h3, h4, h5⟩ := h
  exact ⟨f, fd, ps, h1, h2.kp, h3, fun vs H Q E z => z.1.trans h4.symm, fun A outer s H args us vs Q E hr he hb hv z => z.2.elim fun av z => z.elim fun l z => z.2.2.elim⟩
end DL

/-! The data layer: extend, pop. -/
namespace DL
open PySem PySem.Spec PyProof.Rows L2
section
variable {X : Cx} {fl : Str → List Str} {W : WX} {ow : List Bool} {e : Expr} {da : Env → R D} {pos : Pos}
/-- x.extend(e), x own, e makes a new list -/
def exD (i : Nat) (da : Env → R D) : Env → Out := fun dl => match dl[i]? with
  | some (some (.lst l)) => (da dl).out dl fun d => match d with
    | .lst z => if l.length + z.length ≤ sizeLine then .nx (dl.set i (some (.lst (l ++ z)))) else .bad
    | _ => .bad
  | _ => .bad
theorem ds_extend {i : Nat} {x : Str} {p1 p2 p3 : Pos} (ho : (ow[i]? == some true) = true) (hN : X.N[i]? = some x) (hv : Vis X.env.scope x) (h : DF X fl W ow e da)
    (hsw : swapsWith (.Call (.Attribute (.Name x p1) "extend" p2) [e] [] p3) none pos.line X.env = pure false := by rfl) (hbase : attributeBase (.Name x p1) "extend" X.env (eval (.Name x p1) X.env) = eval (.Name x p1) X.env := by rfl)
    (hfew : ((backTo p3 (starEach [e] X.env)).all (fun x => !x.1) && (backToKw p3 (keywordEach [] X.env)).all (fun x => x.1.isSome) && decide (([e] : List Expr).length + ([] : List Keyword).length + (if ([] : List Keyword).isEmpty then 0 else 1) < 30)) = true := by rfl)
    (hline : (p2.endLine == p3.line) = true := by rfl) (s1 : starEach [e] X.env = (false, eval e X.env) :: starEach [] X.env := by rfl) (s2 : (backTo p3 (starEach [] X.env)).any (·.1) = false := by rfl) (hd : (x == ("__debug__" : Str)) = false := by decide) (hcd : (x == ("__classdict__" : Str)) = false := by decide) :
    DS X fl W ow (.Expr (.Call (.Attribute (.Name x p1) "extend" p2) [e] [] p3) pos) (exD i da) := by
  obtain ⟨t, p, k⟩ := h
  refine DS.mk (ps_expr (pe_bm PySem.F.plainAttrs_list PySem.F.slot_list_extend PySem.F.type_list_extend mt_extend (pe_var hN hv hd hcd) (pa_cons p pa_nil s1) hbase hfew hline s1 s2) hsw) fun av H0 hs dl st H Dn e q => ?_
  unfold exD at q
  split at q
  · rename_i l el
    have ho' : ow[i]? = some true := by simpa using ho
    obtain ⟨a, z1, z2, z3, z4⟩ := e.on i _ el ho'
    cases z4 with
    | lst ha hz hr =>
      rename_i xs
      refine ⟨_, z1, .inl ⟨rfl, xs, .of ha⟩, k av H0 hs dl st H _ e ((asks_out e q).mono (fun d _ w b H1 hb s o => ?_) fun _ z => z)⟩
      cases o with
      | @lst zs z hb1 hbz hbr =>
        replace w : SAsks (gx X fl) av H0 hs ow W (if l.length + z.length ≤ sizeLine then .nx (dl.set i (some (.lst (l ++ z)))) else .bad) Dn := w
        by_cases hlen : l.length + z.length ≤ sizeLine
        · rw [if_pos hlen] at w
          have pa : avo av ow dl st a := .inr ⟨i, _, ho', el, z1⟩
          have mv : Mv H1 (avo av ow dl st) (L2.upd H1 a (.lst (xs ++ zs))) (avo av ow dl st) := fun c u hc n => by
            have hca : c ≠ a := fun y => by
              subst y
              rw [s _ _ ha] at hc
              cases hc
              exact n rfl pa
            exact ⟨by rw [upd_ne hca]; exact hc, n⟩
          have lx := hr.length
          have lz := hbr.length
          refine ⟨a, b, xs, zs, rfl, rfl, s _ _ ha, hb1, by omega, ?_⟩
          refine w _ _ ((e.sm s).upd ho' el z1 (.lst upd_same (by rw [List.length_append]; omega) (((hr.sm s).append (hbr.le fun _ y => .inl y)).mv mv)))
        · rw [if_neg hlen] at w
          exact w.elim
      | dct => exact w.elim
      | dcl => exact w.elim
  · exact q.elim
/-- the last item goes -/
def popD (i : Nat) (tgt : D → Env → R Env) : Env → Out := fun dl => match dl[i]? with
  | some (some (.lst l)) => match l.getLast? with
    | some d => (nxA (tgt d (dl.set i (some (.lst l.dropLast))))).out dl Out.nx
    | none => .bad
  | _ => .bad
/-- (a, b) = x.pop(), x own -/
theorem ds_pop {i k : Nat} {ix : List Nat} {es : List Expr} {tp : Pos} {x : Str} {p1 p2 p3 : Pos} {tgt : D → Env → R Env} (ho : (ow[i]? == some true) = true) (hN : X.N[i]? = some x) (hv : Vis X.env.scope x) (g : DG X fl ow ix (.Tuple es k tp) tgt)
    (hbase : attributeBase (.Name x p1) "pop" X.env (eval (.Name x p1) X.env) = eval (.Name x p1) X.env := by rfl) (hline : (p2.endLine == p3.line) = true := by rfl) (hd : (x == ("__debug__" : Str)) = false := by decide) (hcd : (x == ("__classdict__" : Str)) = false := by decide)
    (hs : swapsWithSole [.Tuple es k tp] (.Call (.Attribute (.Name x p1) "pop" p2) [] [] p3) pos.line X.env = pure false := by rfl) (hw : swappedStores [.Tuple es k tp] (.Call (.Attribute (.Name x p1) "pop" p2) [] [] p3) X.env = pure none := by rfl)
    (h1 : (assignEach [.Tuple es k tp] X.env).map (·.2) = [assign (.Tuple es k tp) X.env] := by rfl) :
    DS X fl W ow (.Assign [.Tuple es k tp] (.Call (.Attribute (.Name x p1) "pop" p2) [] [] p3) pos) (popD i tgt) := by
  obtain ⟨t', p', k2⟩ := g
  refine DS.mk (ps_asg (pe_bm0 PySem.F.plainAttrs_list PySem.F.slot_list_pop PySem.F.type_list_pop mt_pop (pe_var hN hv hd hcd) hbase hline) p' hs hw h1) fun av H0 hs dl st H Dn e q => ?_
  unfold popD at q
  split at q
  · rename_i l el
    have ho' : ow[i]? = some true := by simpa using ho
    obtain ⟨a, z1, z2, z3, z4⟩ := e.on i _ el ho'
    cases z4 with
    | @lst xs _ ha hz hr =>
      cases hl : l.getLast? with
      | none => rw [hl] at q; exact q.elim
      | some d =>
        rw [hl] at q
        replace q : SAsks (gx X fl) av H0 hs ow W ((nxA (tgt d (dl.set i (some (.lst l.dropLast))))).out dl Out.nx) Dn := q
        have hd2 : l[l.length - 1]? = some d := by rw [← List.getLast?_eq_getElem?]; exact hl
        obtain ⟨v, y1, y2⟩ := hr.get hd2
        have pa : avo av ow dl st a := .inr ⟨i, _, ho', el, z1⟩
        have mv : Mv H (avo av ow dl st) (L2.upd H a (.lst xs.dropLast)) (avo av ow dl st) := fun c u hc n => by
          have hca : c ≠ a := fun y => by
            subst y
            rw [ha] at hc
            cases hc
            exact n rfl pa
          exact ⟨by rw [upd_ne hca]; exact hc, n⟩
        have e2 := e.upd ho' el z1 (.lst upd_same (by rw [List.length_dropLast]; omega) (hr.dropLast.mv mv))
        refine ⟨_, z1, .inl ⟨rfl, xs, .of ha⟩, a, xs, v, rfl, rfl, ha, by rw [hr.length]; exact y1, ?_⟩
        have w := nxA_asks (asks_out e q)
        exact k2 av H0 hs _ st _ v d _ e2 (by rw [avo_same el]; exact y2.mv mv) (w.mono (fun dl' _ w' st' H2 s2 e3 _ _ => w' st' H2 e3) fun _ z => z.elim)
  · exact q.elim
end
end DL

/-! The data layer: tuple * int. -/
namespace DL
open PySem PySem.Spec PyProof.Rows L2
/-- t * 1 is t -/
theorem mulT_one (l : Addr) (items : Array Value) (n : Nat) (dd : Option Addr) (sl : Array (Option Value)) (x : Int) (u : Tok) (c0 : (decide (x < -(2 ^ 63)) || decide (x ≥ 2 ^ 63)) = false) (c1 : (items.isEmpty || x == 1) = true) :
    Meets (Builtin.«tuple.__mul__» ⟨[.ref l, .int x u], []⟩) (fun _ R s => s.heap.get? l = some { cls := .type "tuple", dict := dd, data := .seq items n, slots := sl } ∧ R (.ok (.ret (.ref l))) s) :=
  .of_wp fun prog w A R s h => by
    obtain ⟨hp, g, d, tk, os⟩ := s
    obtain ⟨hl, h⟩ := h
    have f1 := AutoSeq1.idx_int
    wp_walk using wpAny_loadPart' hl
    repeat (first
      | (refine wpAny_ite_false (decide_eq_false (by rw [c0]; decide)) ?_; wp_walk using wpAny_loadPart' hl)
      | (refine wpAny_ite_true (decide_eq_true c1) ?_; wp_walk using wpAny_loadPart' hl))
    exact ⟨_, rfl, h⟩
/-- t * 0 is empty -/
theorem mulT_none (l : Addr) (items : Array Value) (n : Nat) (dd : Option Addr) (sl : Array (Option Value)) (x : Int) (u : Tok) (c0 : (decide (x < -(2 ^ 63)) || decide (x ≥ 2 ^ 63)) = false) (c1 : (items.isEmpty || x == 1) = false) (c2 : (decide (x ≤ 0) || items.isEmpty) = true) :
    Meets (Builtin.«tuple.__mul__» ⟨[.ref l, .int x u], []⟩) (fun _ R s => s.heap.get? l = some { cls := .type "tuple", dict := dd, data := .seq items n, slots := sl } ∧ R (.ok (.ret (.ref s.heap.objs.size))) { s with heap := s.heap.push { cls := .type "tuple", data := .seq #[] } }) :=
  .of_wp fun prog w A R s h => by
    obtain ⟨hp, g, d, tk, os⟩ := s
    obtain ⟨hl, h⟩ := h
    have f1 := AutoSeq1.idx_int
    have f2 : (0 : Nat) ≤ sizeLine := Nat.zero_le _
    wp_walk using wpAny_loadPart' hl
    repeat (first
      | (refine wpAny_ite_false (decide_eq_false (by rw [c0]; decide)) ?_; wp_walk using wpAny_loadPart' hl)
      | (refine wpAny_ite_false (decide_eq_false (by rw [c1]; decide)) ?_; wp_walk using wpAny_loadPart' hl)
      | (refine wpAny_ite_true (decide_eq_true c2) ?_; wp_walk using wpAny_loadPart' hl)
      | (refine wpAny_ite_false (decide_eq_false (Nat.not_lt.mpr f2)) ?_; wp_walk using wpAny_loadPart' hl))
    exact ⟨_, rfl, h⟩
/-- tuple * int, same or empty -/
def rRepS (K : PySem.W.Frag) : R2 := fun x y H Q => ∃ l k xs, x = .ref l ∧ y = .int k ∧ SqT K H l xs ∧ k.natAbs ≤ 1000 ∧ (((xs = [] ∨ k = 1) ∧ Q (.ref l) H) ∨ (xs ≠ [] ∧ k ≤ 0 ∧ ∀ p, H p = none → Q (.ref p) (L2.upd H p (.tup []))))
section
variable {X : Cx}
theorem op_repS : OpR X (binaryOp .Mult) (rRepS X.K) := by
  intro pins s σ H x y v u Q I rx ry h
  obtain ⟨l, k, xs, rfl, rfl, hT, hk, h⟩ := h
  cases rx
  obtain ⟨t, rfl⟩ := ry
  obtain ⟨its, r, ⟨⟨cls, dd, data, sl⟩, ho, hc, n, hd⟩, hs⟩ := I.tuple hT
  cases (show cls = .type "tuple" from hc)
  cases (show data = .seq its.toArray n from hd)
  have c0 : (decide (k < -(2 ^ 63)) || decide (k ≥ 2 ^ 63)) = false := by
    rw [decide_eq_false (by omega), decide_eq_false (by omega)]
    rfl
  have emp : its.toArray.isEmpty = xs.isEmpty := by
    cases r with
    | nil => rfl
    | cons _ _ => rfl
  rcases h with ⟨h1, q⟩ | ⟨h1, h2, q⟩
  · have c1 : (its.toArray.isEmpty || k == 1) = true := by
      rw [emp]
      rcases h1 with rfl | rfl
      · rfl
      · simp
    refine wpAny_binaryOp_repeat_ref (T := "tuple") (U := "int") (by decide) ⟨_, ho, rfl⟩ (fun z => typeIs_int z k t) noFill_tuple_mul F.fills_int_mul F.slot_int_rmul repeat_tuple F.slot_int_index.lookup ?_
    refine call_meets F.slot_int_rmul (typeIs_int s k t) F.entry_int_rmul (F.args_int_rmul_2 _ _) (int_rmul_tuple k t l its.toArray n dd sl) ⟨ho, rfl, ⟨_, ho, rfl⟩, ?_⟩
    refine call_meets F.slot_tuple_mul ⟨_, ho, rfl⟩ F.entry_tuple_mul (F.args_tuple_mul_2 _ _) (mulT_one l its.toArray n dd sl k t c0 c1) ⟨ho, ?_⟩
    exact ⟨.ref l, H, I, rfl, q⟩
  · have c1 : (its.toArray.isEmpty || k == 1) = false := by
      rw [emp, List.isEmpty_eq_false_iff.mpr h1, Bool.false_or]
      exact beq_eq_false_iff_ne.mpr (by omega)
    have c2 : (decide (k ≤ 0) || its.toArray.isEmpty) = true := by rw [decide_eq_true h2]; rfl
    refine wpAny_binaryOp_repeat_ref (T := "tuple") (U := "int") (by decide) ⟨_, ho, rfl⟩ (fun z => typeIs_int z k t) noFill_tuple_mul F.fills_int_mul F.slot_int_rmul repeat_tuple F.slot_int_index.lookup ?_
    refine call_meets F.slot_int_rmul (typeIs_int s k t) F.entry_int_rmul (F.args_int_rmul_2 _ _) (int_rmul_tuple k t l its.toArray n dd sl) ⟨ho, rfl, ⟨_, ho, rfl⟩, ?_⟩
    refine call_meets F.slot_tuple_mul ⟨_, ho, rfl⟩ F.entry_tuple_mul (F.args_tuple_mul_2 _ _) (mulT_none l its.toArray n dd sl k t c0 c1 c2) ⟨ho, ?_⟩
    exact ⟨.ref s.heap.objs.size, _, I.laid (t' := s.toks) (o := .tup []) (fun b ob z => Heap.get?_push_of_some _ z) (Nat.le_refl _) ⟨Nat.zero_le _, [], .nil, IsTup.new _ _⟩, rfl, q _ (I.hok.fresh (Nat.le_refl _))⟩
end
def dMulT : D → D → R D
  | .tup a, .int k => if k.natAbs ≤ 1000 ∧ a.length ≤ 1000 then .ok (.tup (List.replicate k.toNat a).flatten) else .bad
  | _, _ => .bad
def rMulT (K : PySem.W.Frag) : R2 := fun x y H Q => rRepT K x y H Q ∨ rRepS K x y H Q
theorem op_mulT {X : Cx} : OpR X (binaryOp .Mult) (rMulT X.K) := op_repT.or op_repS
theorem flat_nil {α : Type} : ∀ k : Nat, (List.replicate k ([] : List α)).flatten = []
  | 0 => rfl
  | k + 1 => by rw [List.replicate_succ, List.flatten_cons, flat_nil k]; rfl
theorem o_mulT {G : Gx} : Op2 G true (rMulT G.K) dMulT := by
  intro H P P' x y a b Q hk hP ra rb h
  obtain rfl := hk rfl
  unfold dMulT at h
  split at h
  · split at h
    · rename_i l k z
      obtain ⟨z1, z2⟩ := z
      obtain ⟨p, xs, ep, hx, zx, rx⟩ := ra.tup'
      cases rb.int'
      have e1 := rx.length
      by_cases h0 : xs = []
      · subst h0
        cases rx
        rw [flat_nil] at h
        exact .inr ⟨p, k, [], ep, rfl, hx, z1, .inl ⟨.inl rfl, h _ H (.refl H) (by subst ep; exact ra.tupR)⟩⟩
      · by_cases h1 : k = 1
        · subst h1
          have e2 : (List.replicate (1 : Int).toNat l).flatten = l := by
            show (List.replicate 1 l).flatten = l
            simp
          rw [e2] at h
          exact .inr ⟨p, 1, xs, ep, rfl, hx, z1, .inl ⟨.inr rfl, h _ H (.refl H) (by subst ep; exact ra.tupR)⟩⟩
        · by_cases h2 : k ≤ 0
          · have e2 : k.toNat = 0 := by omega
            rw [e2] at h
            exact .inr ⟨p, k, xs, ep, rfl, hx, z1, .inr ⟨h0, h2, fun q hq => h _ _ (same_new hq) (rp_new_tup hq .nil (Nat.zero_le _))⟩⟩
          · refine .inl ⟨p, k, xs, ep, rfl, hx, h0, by omega, by omega, by omega, fun q hq => ?_⟩
            refine h _ _ (same_new hq) (rp_new_tup hq (rx.rep _) ?_)
            rw [len_rep, sizeLine_eq]
            have : l.length * k.toNat ≤ 1000 * 1000 := Nat.mul_le_mul z2 (by omega)
            omega
    · exact h.elim
  · exact h.elim
end DL

/-! The data layer: except X as e. -/
namespace DL
open PySem PySem.Spec PyProof.Rows L2
theorem ER.toFl {K : PySem.W.Frag} {mg : Str → Option Value} {fl fl' : Str → List Str} {av : Addr → Prop} {H0 : Hp} {hs : List (V × D)} {ow : List Bool} {dl : Env} {st : L2.St} {H : Hp} (h : ∀ c C, mg c = some (.ref C) → fl c = fl' c) (hb : fl "<raw>" = []) (e : ER ⟨K, mg, fl⟩ av H0 hs ow dl st H) : ER ⟨K, mg, fl'⟩ av H0 hs ow dl st H := by
  refine ⟨e.same, e.avh, e.len, fun i d h1 h2 => ?_, fun i d h1 h2 => ?_, e.ds, fun p hp => (e.hd p hp).toFl h hb⟩
  · obtain ⟨v, q1, q2⟩ := e.pl i d h1 h2
    exact ⟨v, q1, q2.toFl h hb⟩
  · obtain ⟨a, q1, q2, q3, q4⟩ := e.on i d h1 h2
    refine ⟨a, q1, q2, q3, ?_⟩
    cases q4 with
    | lst y1 y2 y3 => exact .lst y1 y2 (RpAll.toFl h hb y3)
    | dct y1 y2 y3 y4 => exact .dct y1 (RpAll.toFl h hb y2) y3 (RpAll.toFl h hb y4)
    | dcl y1 y2 y3 y4 => exact .dcl y1 (RpAll.toFl h hb y2) y3 (RpAll.toFl h hb y4)
/-- what the suite's end is, behind the name -/
def endAs (o : Out) : Out := match o with | .rt d => if imm d then .rt d else .bad | _ => .bad
def tryAs (sb : Str → Str → Option Bool) (x : Str) (i : Nat) (d1 : Env → Out) (f : Str → Env → Out) : Env → Out := fun dl => match d1 dl with
  | .exc c dl' => (match sb c x with
    | some true => endAs (f c (dl'.set i (some .raw)))
    | some false => .exc c dl'
    | none => .bad)
  | o => o
section
variable {X : Cx} {fl : Str → List Str} {W : WX} {ow : List Bool} {m : Md} {ss : List Stmt} {d1 : Env → Out} {pos : Pos}
theorem ds_tryAs {sb : Str → Str → Option Bool} {x n : Str} {i : Nat} {b₀ : Stmt} {suite : List Stmt} {np pos' : Pos} {C0 : Addr} {f : Str → Env → Out} (hs : X.stack = X.env :: X.outer) (hf : X.env.frame = some X.env.locals) (hN : X.N.Nodup) (hi : X.N[i]? = some n) (hln : X.env.kindOf n = some .local)
    (ho : (ow[i]? == some true) = false) (hx : X.mg x = some (.ref C0)) (hg : Gl X x) (hd : (x == ("__debug__" : Str)) = false) (tk : Takes X W) (hsb : SubOk (gx X fl) sb) (hbase : fl "<raw>" = []) (hraw : X.mg "<raw>" = none)
    (hb : ∀ (W : WX) (pn : List (Addr × Obj)) (xe : Value → Shared → Prop), Takes (X.tr pn xe) W → PassesOwn (model X.prog X.w) X.A X.env xe → DSs (X.tr pn xe) fl W ow ss d1)
    (hsu : ∀ (c : Str) (C a : Addr) (oe : Obj) (pn : List (Addr × Obj)), X.mg c = some (.ref C) → sb c x = some true → Zc (.ref C) none oe → (∃ vs, oe.data = .fields vs) → DSs (X.suite a ((a, oe) :: pn)) (rawF fl a) W0 ow (b₀ :: suite) (f c)) :
    DS X fl W ow (.Try ss [.ExceptHandler (some (.Name x np)) (some n) (b₀ :: suite) pos'] [] [] pos) (tryAs sb x i d1 f) := by
  have tfl : ∀ (a : Addr) (c : Str) (C : Addr), X.mg c = some (.ref C) → fl c = rawF fl a c := fun a c C h => (rawF_of fun z => by rw [z, hraw] at h; cases h).symm
  refine DS.mk (ps_try_as (tb := fun W => TSd (gx X fl) W ow d1) (ts := fun a cls d Dn st H => ∃ c C, cls = .ref C ∧ d = none ∧ X.mg c = some (.ref C) ∧ sb c x = some true ∧ TSd (gx X (rawF fl a)) W0 ow (f c) Dn st H) (Wout := W) hs hf hN hi hln ⟨hg, hd, .inl hx⟩ tk hb ?_) fun av H0 hs' dl st H Dn e q => ⟨av, H0, hs', dl, e, ?_⟩
  · intro a oe cls d pn hz hfi
    constructor
    rintro pins s σ H D I ⟨c, C, rfl, rfl, hC, hcx, z⟩
    exact (hsu c C a oe pn hC hcx hz hfi).run pins s σ H D I z
  · unfold tryAs at q
    generalize d1 dl = o at q ⊢
    cases o with
    | exc c dl' =>
      intro C st' H' hC e'
      replace q : SAsks (gx X fl) av H0 hs' ow W (match sb c x with | some true => endAs (f c (dl'.set i (some .raw))) | some false => .exc c dl' | none => .bad) Dn := q
      cases z : sb c x with
      | none => rw [z] at q; exact q.elim
      | some b =>
        rw [z] at q
        refine ⟨b, hsb c x C C0 b hC hx z, fun hb a ha => ?_, fun hb => ?_⟩
        · subst hb
          replace q : SAsks (gx X fl) av H0 hs' ow W (endAs (f c (dl'.set i (some .raw)))) Dn := q
          refine ⟨c, C, rfl, rfl, hC, z, av, H0, hs', dl'.set i (some .raw), ?_, ?_⟩
          · exact ER.put (ER.toFl (tfl a) hbase e') (by simpa using ho) (.raw (rawF_at fl a))
          · generalize f c (dl'.set i (some .raw)) = o2 at q ⊢
            cases o2 with
            | rt d =>
              replace q : SAsks (gx X fl) av H0 hs' ow W (if imm d then .rt d else .bad) Dn := q
              by_cases hi : imm d = true
              · rw [if_pos hi] at q
                exact fun v H2 s r => q v H2 s (Rp.immFl (fun c C h => (tfl a c C h).symm) r hi)
              · rw [if_neg hi] at q
                exact q.elim
            | _ => exact q.elim
        · subst hb
          exact q C st' H' hC e'
    | _ => exact q
/-- what isinstance says of an exception -/
structure IsEOk (K : PySem.W.Frag) (mg : Str → Option Value) (sb : Str → Str → Option Bool) : Prop where
  cls : ∀ c C, mg c = some (.ref C) → sb c c = some true → ExcC K C
  kit : ∀ c C y Y b, mg c = some (.ref C) → mg y = some (.ref Y) → sb c y = some b → PySem.W.kitOne K (.ref C) (.ref Y) = some b
def dIsE (sb : Str → Str → Option Bool) (c y : Str) (i : Nat) : Env → R D := fun dl => match dl[i]? with
  | some (some .raw) => (match sb c c, sb c y with | some true, some b => .ok (.bl b) | _, _ => .bad)
  | _ => .bad
theorem de_isE {sb : Str → Str → Option Bool} {c y n : Str} {i : Nat} {C Y a : Addr} {oe : Obj} {pn : List (Addr × Obj)} {p p1 p2 : Pos} (hE : IsEOk X.K X.mg sb) (hC : X.mg c = some (.ref C)) (hself : sb c c = some true) (hY : X.mg y = some (.ref Y)) (hz : Zc (.ref C) none oe) (hf : ∃ vs, oe.data = .fields vs)
    (hn : X.mg "isinstance" = none) (hg : Gl (X.suite a ((a, oe) :: pn)) "isinstance") (hg2 : Gl (X.suite a ((a, oe) :: pn)) y) (ho : (ow[i]? == some true) = false) (hN : X.N[i]? = some n) (hv : Vis X.env.scope n) (hd : (y == ("__debug__" : Str)) = false := by decide) (hd1 : (n == ("__debug__" : Str)) = false := by decide) (hd2 : (n == ("__classdict__" : Str)) = false := by decide)
    (s1 : starEach [.Name n p1, .Name y p2] X.env = (false, eval (.Name n p1) X.env) :: starEach [.Name y p2] X.env := by rfl) (s2 : starEach [.Name y p2] X.env = (false, eval (.Name y p2) X.env) :: starEach [] X.env := by rfl) (s3 : (backTo pos (starEach [.Name y p2] X.env)).any (·.1) = false := by rfl) :
    DE (X.suite a ((a, oe) :: pn)) (rawF fl a) W ow m (.Call (.Name "isinstance" p) [.Name n p1, .Name y p2] [] pos) (dIsE sb c y i) := by
  refine ⟨_, pe_callB (call_isE (hE.cls c C hC hself) hz hf) hg hn (by decide +kernel) (pa_cons (pe_var hN hv hd1 hd2) (pa_cons (pe_glob (v := .ref Y) hg2 hY rfl hd) pa_nil s2) s1) (by decide) (by decide) s1 s3, fun av H0 hs dl st H Q e q => ?_⟩
  unfold dIsE at q
  split at q
  · rename_i hq
    obtain ⟨v, q1, q2⟩ := e.pl i .raw hq (by simpa using ho)
    cases q2 with
    | raw hr =>
      rename_i a'
      have hlen := congrArg List.length (hr.symm.trans (rawF_at fl a))
      simp at hlen
      subst hlen
      rw [hself] at q
      cases z : sb c y with
      | none => rw [z] at q; exact q.elim
      | some b =>
        rw [z] at q
        exact ⟨_, q1, .ref Y, .ref Y, b, rfl, fun u ru => ru, hE.kit c C y Y b hC hY z, q _ H (.refl H) (Rp.toM (.bl b))⟩
  · exact q.elim
end
end DL

/-! The data layer: min, max of a tuple or a list of numbers. -/
namespace DL
open PySem PySem.Spec PyProof.Rows L2
theorem reads_ints {h : Heap} : ∀ {us : List Value} {ns : List Int}, IntsAre us ns → PySem.W.HoldAll (α := Int) h us ns
  | [], [], .nil => ⟨[], .nil⟩
  | _ :: _, n :: ns, .cons _ t r => by
    obtain ⟨as, ra⟩ := reads_ints (h := h) r
    exact ⟨_, .cons (show Reads h (Value.int n t) (PySem.W.Datum.toD n) [] from Reads.int n t) ra⟩
theorem int_holds {h : Heap} {v : Value} {n : Int} (H : PySem.W.Holds (α := Int) h v n) : ∃ t, v = .int n t := by
  obtain ⟨as, r⟩ := H
  cases (show Reads h v (.int n) as from r) with
  | int _ t => exact ⟨t, rfl⟩
def rMinS (K : PySem.W.Frag) : List V → Hp → VK → Prop := fun vs H Q => ∃ (a : Addr) (n : Int) (ns : List Int), vs = [V.ref a] ∧ (SqL K H a ((n :: ns).map V.int) ∨ SqT K H a ((n :: ns).map V.int)) ∧ Q (.int (PySem.W.minOf n ns)) H
def rMaxS (K : PySem.W.Frag) : List V → Hp → VK → Prop := fun vs H Q => ∃ (a : Addr) (n : Int) (ns : List Int), vs = [V.ref a] ∧ (SqL K H a ((n :: ns).map V.int) ∨ SqT K H a ((n :: ns).map V.int)) ∧ Q (.int (PySem.W.maxOf n ns)) H
section
variable {X : Cx}
theorem cr_minS (hc : X.calm = true) (hu : X.A.units + 65 < cLine) : CallR X (.builtin "min") (rMinS X.K) := by
  intro pins s σ H vs us Q I r h
  obtain ⟨a, n, ns, rfl, hs, q⟩ := h
  rw [Vals.ref1 r]
  have room : X.A.units + 1 + PySem.W.Datum.depth Int < cLine := Nat.lt_of_le_of_lt (show X.A.units + 1 + 0 ≤ X.A.units + 65 by omega) hu
  have fin : ∀ (v : Value) (h' : Heap) (tk : Nat), PySem.W.Holds (α := Int) h' v (PySem.W.minOf n ns) → (∀ b o, s.heap.get? b = some o → h'.get? b = some o) → EP X pins σ Q v { s with heap := h', toks := tk } := fun v h' tk hv hk => by
    obtain ⟨t, rfl⟩ := int_holds hv
    exact ⟨.int (PySem.W.minOf n ns), H, I.kept hk, ⟨t, rfl⟩, q⟩
  rcases hs with hs | hs
  · obtain ⟨its, rv, hl, _⟩ := I.list hs
    exact PySem.W.min_list_datum (α := Int) (I.ok.hd hc) hl.isList (by simpa using reads_ints rv.ints) room fun i v h' tk _ hv hk => fin v h' tk hv hk
  · obtain ⟨its, rv, hl, _⟩ := I.tuple hs
    exact PySem.W.min_tuple_datum (α := Int) (I.ok.hd hc) hl (by simpa using reads_ints rv.ints) room fun i v h' tk _ hv hk => fin v h' tk hv hk
theorem cr_maxS (hc : X.calm = true) (hu : X.A.units + 65 < cLine) : CallR X (.builtin "max") (rMaxS X.K) := by
  intro pins s σ H vs us Q I r h
  obtain ⟨a, n, ns, rfl, hs, q⟩ := h
  rw [Vals.ref1 r]
  have room : X.A.units + 1 + PySem.W.Datum.depth Int < cLine := Nat.lt_of_le_of_lt (show X.A.units + 1 + 0 ≤ X.A.units + 65 by omega) hu
  have fin : ∀ (v : Value) (h' : Heap) (tk : Nat), PySem.W.Holds (α := Int) h' v (PySem.W.maxOf n ns) → (∀ b o, s.heap.get? b = some o → h'.get? b = some o) → EP X pins σ Q v { s with heap := h', toks := tk } := fun v h' tk hv hk => by
    obtain ⟨t, rfl⟩ := int_holds hv
    exact ⟨.int (PySem.W.maxOf n ns), H, I.kept hk, ⟨t, rfl⟩, q⟩
  rcases hs with hs | hs
  · obtain ⟨its, rv, hl, _⟩ := I.list hs
    exact PySem.W.max_list_datum (α := Int) (I.ok.hd hc) hl.isList (by simpa using reads_ints rv.ints) room fun i v h' tk _ hv hk => fin v h' tk hv hk
  · obtain ⟨its, rv, hl, _⟩ := I.tuple hs
    exact PySem.W.max_tuple_datum (α := Int) (I.ok.hd hc) hl (by simpa using reads_ints rv.ints) room fun i v h' tk _ hv hk => fin v h' tk hv hk
end
def itemsD : D → Option (List D)
  | .tup l => some l
  | .lst l => some l
  | .frz l => some l
  | _ => none
def dMinS : List D → R D
  | [d] => match (itemsD d).bind unI with | some (n :: ns) => .ok (.int (PySem.W.minOf n ns)) | _ => .bad
  | _ => .bad
def dMaxS : List D → R D
  | [d] => match (itemsD d).bind unI with | some (n :: ns) => .ok (.int (PySem.W.maxOf n ns)) | _ => .bad
  | _ => .bad
theorem items_sq {G : Gx} {H : Hp} {P : Addr → Prop} {v : V} {d : D} {ns : List Int} (r : RpI G H P v d) (h : (itemsD d).bind unI = some ns) : ∃ a, v = .ref a ∧ (SqL G.K H a (ns.map V.int) ∨ SqT G.K H a (ns.map V.int)) := by
  cases d with
  | tup l =>
    obtain ⟨a, xs, rfl, hx, _, rx⟩ := r.tup'
    refine ⟨a, rfl, .inr ?_⟩
    rw [← unI_v rx h]
    exact hx
  | lst l =>
    obtain ⟨a, xs, rfl, hx, _, rx⟩ := r.lst'
    refine ⟨a, rfl, .inl ?_⟩
    rw [← unI_v rx h]
    exact .of hx
  | frz l =>
    obtain ⟨a, xs, rfl, hx, _, rx⟩ := r.frz'
    refine ⟨a, rfl, .inl ?_⟩
    rw [← unI_v rx h]
    exact hx.sq
  | _ => cases h
theorem o_minS {G : Gx} : OpL G false (rMinS G.K) dMinS := by
  intro H P P' vs l Q _ hP r0 h
  unfold dMinS at h
  split at h
  · obtain ⟨v, rfl, r⟩ := paired1 r0
    split at h
    · rename_i n ns e
      obtain ⟨a, rfl, hs⟩ := items_sq r e
      exact ⟨a, n, ns, rfl, hs, h _ H (.refl H) (.int _)⟩
    · exact h.elim
  · exact h.elim
theorem o_maxS {G : Gx} : OpL G false (rMaxS G.K) dMaxS := by
  intro H P P' vs l Q _ hP r0 h
  unfold dMaxS at h
  split at h
  · obtain ⟨v, rfl, r⟩ := paired1 r0
    split at h
    · rename_i n ns e
      obtain ⟨a, rfl, hs⟩ := items_sq r e
      exact ⟨a, n, ns, rfl, hs, h _ H (.refl H) (.int _)⟩
    · exact h.elim
  · exact h.elim
end DL

/-! The data layer: a op b op c op d. -/
namespace DL
open PySem PySem.Spec PyProof.Rows L2
section
variable {X : Cx} {fl : Str → List Str} {W : WX} {ow : List Bool} {a b c d : Expr} {da db dc dd : Env → R D} {pos : Pos} {ta tb tc td : TE}
def tThree (r r' r2 : R2) (ta tb tc td : TE) : TT := fun σ H Q => ta σ H fun x H1 => tb σ H1 fun y H2 => r x y H2 fun z H3 => ∃ k, z = .bl k ∧ (if k = true then tc σ H3 fun x2 H4 => r' y x2 H4 fun z2 H5 => ∃ k2, z2 = .bl k2 ∧ (if k2 = true then td σ H5 fun x3 H6 => r2 x2 x3 H6 fun z3 H7 => ∃ k3, z3 = .bl k3 ∧ Q k3 H7 else Q false H5) else Q false H3)
theorem pt_three {o1 o2 o3 : CmpOp} {r r' r2 : R2} (h1 : OpR X (compareOp o1) r) (h2 : OpR X (compareOp o2) r') (h3 : OpR X (compareOp o3) r2) (ha : PE X a ta) (hb : PE X b tb) (hc : PE X c tc) (hd : PE X d td)
    (hm : lastMarks [o1, o2, o3] [b, c, d] = false := by with_unfolding_all rfl) : PT X (.Compare a [o1, o2, o3] [b, c, d] pos) (tThree r r' r2 ta tb tc td) := by
  constructor
  intro pins s σ H Q I h
  refine isTrue_chain (thn (ha.run pins s σ H _ I h) ?_) hm
  rintro v s1 ⟨x, H1, I1, r1, q1⟩
  refine test_link (thn (hb.run pins s1 σ H1 _ I1 q1) ?_)
  rintro u s2 ⟨y, H2, I2, ry, q2⟩
  refine thn (h1 pins s2 σ H2 x y v u _ I2 r1 ry q2) ?_
  rintro k0 s3 ⟨z, H3, I3, rz, k, ek, q3⟩
  subst ek
  cases rz
  refine wpAny_truthy_bool ?_
  cases k with
  | false => exact ite_ff ⟨H3, I3, q3⟩
  | true =>
    refine ite_tt (test_link (thn (hc.run pins s3 σ H3 _ I3 q3) ?_))
    rintro u2 s4 ⟨x2, H4, I4, rx2, q4⟩
    refine thn (h2 pins s4 σ H4 y x2 u u2 _ I4 ry rx2 q4) ?_
    rintro k0 s5 ⟨z2, H5, I5, rz2, k2, ek2, q5⟩
    subst ek2
    cases rz2
    refine wpAny_truthy_bool ?_
    cases k2 with
    | false => exact ite_ff ⟨H5, I5, q5⟩
    | true =>
      refine ite_tt (test_last (thn (hd.run pins s5 σ H5 _ I5 q5) ?_))
      rintro u3 s6 ⟨x3, H6, I6, rx3, q6⟩
      refine thn (h3 pins s6 σ H6 x2 x3 u2 u3 _ I6 rx2 rx3 q6) ?_
      rintro k0 s7 ⟨z3, H7, I7, rz3, k3, ek3, q7⟩
      subst ek3
      cases rz3
      exact wpAny_truthy_bool ⟨H7, I7, q7⟩
abbrev tThree' (f f' f2 : D → D → R D) (a b c d : Env → R D) : Env → R Bool := fun dl => a dl >>= fun x => b dl >>= fun y => nx (f x y) >>= asB >>= fun k => if k then c dl >>= fun z => nx (f' y z) >>= asB >>= fun k2 => if k2 then d dl >>= fun u => nx (f2 z u) >>= asB else .ok false else .ok false
theorem dt_three {o1 o2 o3 : CmpOp} {r r' r2 : R2} {f f' f2 : D → D → R D} (h1 : OpR X (compareOp o1) r) (h2 : OpR X (compareOp o2) r') (h3 : OpR X (compareOp o3) r2) (p1 : Op2 (gx X fl) false r f) (p2 : Op2 (gx X fl) false r' f') (p3 : Op2 (gx X fl) false r2 f2)
    (ha : DE X fl W ow .f a da) (hb : DE X fl W ow .f b db) (hc : DE X fl W ow .f c dc) (hd : DE X fl W ow .f d dd) (hm : lastMarks [o1, o2, o3] [b, c, d] = false := by with_unfolding_all rfl) :
    DT X fl W ow (.Compare a [o1, o2, o3] [b, c, d] pos) (tThree' f f' f2 da db dc dd) := by
  obtain ⟨ta, q1, k1⟩ := ha
  obtain ⟨tb, q2, k2⟩ := hb
  obtain ⟨tc, q3, k3⟩ := hc
  obtain ⟨td, q4, k4⟩ := hd
  refine ⟨_, pt_three h1 h2 h3 q1 q2 q3 q4 hm, fun av H0 hs dl st H Q e q => ?_⟩
  refine k1 av H0 hs dl st H _ e (q.bind.mono (fun x _ w v H1 s r => ?_) fun _ z => z)
  refine k2 av H0 hs dl st H1 _ (e.sm s) (w.bind.mono (fun y _ w' v' H2 s2 r2 => ?_) fun _ z => z.sm s)
  have w1 := w'.bind
  refine p1 H2 (pm .f av ow dl st) (pm .f av ow dl st) v v' x y _ (fun z => rfl) ((e.sm (s.trans s2)).pmh .f) (r.toI.sm s2) r2.toI ((nx_asks (r := f x y) (E := EX (gx X fl) H W st) (w1.bind.mono (fun u _ z => z) fun _ z => z)).mono (fun u _ z v3 H3 s3 r3 => ?_) fun _ z => z)
  obtain ⟨k, rfl, z⟩ := asB_some z
  refine ⟨k, rpM_bl (m := .t) r3, ?_⟩
  have S3 := (s.trans s2).trans s3
  cases k with
  | false => exact z H3 S3
  | true =>
    replace z : Asks (dc dl >>= fun z => nx (f' y z) >>= asB >>= fun k2 => if k2 then dd dl >>= fun u => nx (f2 z u) >>= asB else .ok false) (OkT H Q) (EX (gx X fl) H W st) := z
    refine k3 av H0 hs dl st H3 _ (e.sm S3) (z.bind.mono (fun x2 _ w' v4 H4 s4 r4 => ?_) fun _ z => z.sm S3)
    have w2 := w'.bind
    refine p2 H4 (pm .f av ow dl st) (pm .f av ow dl st) v' v4 y x2 _ (fun z => rfl) ((e.sm (S3.trans s4)).pmh .f) (r2.toI.sm (s3.trans s4)) r4.toI ((nx_asks (r := f' y x2) (E := EX (gx X fl) H W st) (w2.bind.mono (fun u _ z => z) fun _ z => z)).mono (fun u _ z v5 H5 s5 r5 => ?_) fun _ z => z)
    obtain ⟨k, rfl, z⟩ := asB_some z
    refine ⟨k, rpM_bl (m := .t) r5, ?_⟩
    have S5 := (S3.trans s4).trans s5
    cases k with
    | false => exact z H5 S5
    | true =>
      replace z : Asks (dd dl >>= fun u => nx (f2 x2 u) >>= asB) (OkT H Q) (EX (gx X fl) H W st) := z
      refine k4 av H0 hs dl st H5 _ (e.sm S5) (z.bind.mono (fun x3 _ w' v6 H6 s6 r6 => ?_) fun _ z => z.sm S5)
      refine p3 H6 (pm .f av ow dl st) (pm .f av ow dl st) v4 v6 x2 x3 _ (fun z => rfl) ((e.sm (S5.trans s6)).pmh .f) (r4.toI.sm (s5.trans s6)) r6.toI ((nx_asks (r := f2 x2 x3) (E := EX (gx X fl) H W st) (w'.bind.mono (fun u _ z => z) fun _ z => z)).mono (fun u _ z v7 H7 s7 r7 => ?_) fun _ z => z)
      obtain ⟨k, rfl, z⟩ := asB_some z
      exact ⟨k, rpM_bl (m := .t) r7, z H7 ((S5.trans s6).trans s7)⟩
end
/-- isinstance(e, Y), Y an own error class -/
theorem de_isEx {X : Cx} {fl : Str → List Str} {W : WX} {ow : List Bool} {m : Md} {pos : Pos} {sb : Str → Str → Option Bool} {c y n : Str} {i : Nat} {C a : Addr} {oe : Obj} {pn : List (Addr × Obj)} {p p1 p2 : Pos} (hE : IsEOk X.K X.mg sb) (hC : X.mg c = some (.ref C)) (hself : sb c c = some true) (h : ExcAt X.K X.mg y) (hz : Zc (.ref C) none oe) (hf : ∃ vs, oe.data = .fields vs)
    (hn : X.mg "isinstance" = none) (hg : Gl (X.suite a ((a, oe) :: pn)) "isinstance") (hg2 : Gl (X.suite a ((a, oe) :: pn)) y) (ho : (ow[i]? == some true) = false) (hN : X.N[i]? = some n) (hv : Vis X.env.scope n) (hd : (y == ("__debug__" : Str)) = false := by decide) (hd1 : (n == ("__debug__" : Str)) = false := by decide) (hd2 : (n == ("__classdict__" : Str)) = false := by decide)
    (s1 : starEach [.Name n p1, .Name y p2] X.env = (false, eval (.Name n p1) X.env) :: starEach [.Name y p2] X.env := by rfl) (s2 : starEach [.Name y p2] X.env = (false, eval (.Name y p2) X.env) :: starEach [] X.env := by rfl) (s3 : (backTo pos (starEach [.Name y p2] X.env)).any (·.1) = false := by rfl) :
    DE (X.suite a ((a, oe) :: pn)) (rawF fl a) W ow m (.Call (.Name "isinstance" p) [.Name n p1, .Name y p2] [] pos) (dIsE sb c y i) := by
  obtain ⟨Y, hY, _⟩ := h
  exact de_isE hE hC hself hY hz hf hn hg hg2 ho hN hv hd hd1 hd2 s1 s2 s3
theorem sbOf_mem : ∀ {l : List (Str × Str × Bool)} {c x : Str} {b : Bool}, sbOf l c x = some b → (c, x, b) ∈ l
  | [], _, _, _, h => nomatch h
  | t :: r, c, x, b, h => by
    unfold sbOf at h
    split at h
    · rename_i q
      obtain ⟨rfl, rfl⟩ := q
      cases h
      exact .head _
    · exact .tail _ (sbOf_mem h)
/-- except X as e, the class told by its fact -/
theorem ds_tryAsE {X : Cx} {fl : Str → List Str} {W : WX} {ow : List Bool} {ss : List Stmt} {d1 : Env → Out} {pos : Pos} {sb : Str → Str → Option Bool} {x n : Str} {i : Nat} {b₀ : Stmt} {suite : List Stmt} {np pos' : Pos} {f : Str → Env → Out} (hs : X.stack = X.env :: X.outer) (hf : X.env.frame = some X.env.locals) (hN : X.N.Nodup) (hi : X.N[i]? = some n) (hln : X.env.kindOf n = some .local)
    (ho : (ow[i]? == some true) = false) (hx : ExcAt X.K X.mg x) (hg : Gl X x) (hd : (x == ("__debug__" : Str)) = false) (tk : Takes X W) (hsb : SubOk (gx X fl) sb) (hbase : fl "<raw>" = []) (hraw : X.mg "<raw>" = none)
    (hb : ∀ (W : WX) (pn : List (Addr × Obj)) (xe : Value → Shared → Prop), Takes (X.tr pn xe) W → PassesOwn (model X.prog X.w) X.A X.env xe → DSs (X.tr pn xe) fl W ow ss d1)
    (hsu : ∀ (c : Str) (C a : Addr) (oe : Obj) (pn : List (Addr × Obj)), X.mg c = some (.ref C) → sb c x = some true → Zc (.ref C) none oe → (∃ vs, oe.data = .fields vs) → DSs (X.suite a ((a, oe) :: pn)) (rawF fl a) W0 ow (b₀ :: suite) (f c)) :
    DS X fl W ow (.Try ss [.ExceptHandler (some (.Name x np)) (some n) (b₀ :: suite) pos'] [] [] pos) (tryAs sb x i d1 f) := by
  obtain ⟨C, hC, _⟩ := hx
  exact ds_tryAs hs hf hN hi hln ho hC hg hd tk hsb hbase hraw hb hsu
end DL

/-! More rules of such dicts: d[k], d.get, len, list, sorted. -/
namespace DL
open PySem PySem.Spec PyProof.Rows L2
def IsQ (H : Hp) (a : Addr) : Prop := (∃ kvs, Rd H a (.dK kvs)) ∨ ∃ w xs, Rd H a (.ext (dq w a xs))
theorem isQ_at {X : Cx} {pins : List (Addr × Obj)} {σ : L2.St} {H : Hp} {s : Shared} {a : Addr} (I : Inv X pins σ H s) (d : IsQ H a) :
    s.TypeIs (.ref a) "dict" ∧ (∀ b, Value.ref a = .ref b → ∃ ob, s.heap.get? b = some ob ∧ ob.dict = none) ∧ (a == sysModules) = false := by
  rcases d with ⟨kvs, e⟩ | ⟨w, xs, e⟩
  · exact isD_at I (.inl ⟨kvs, e⟩)
  · obtain ⟨o, es, ep, ys, h1, h2, h3, r, h4, h5, h6, h7⟩ := (rd_ok I e).1
    refine ⟨⟨o, h1, h2.1⟩, fun b q => ?_, h6⟩
    cases q
    exact ⟨o, h1, h2.2.1⟩
theorem NGet.isQ {K : PySem.W.Frag} {H : Hp} {a : Addr} {y : V} {o : Option V} (g : NGet K H a y o) : IsQ H a := by
  rcases g with ⟨kvs, k, e, ey, l⟩ | ⟨b, k, e, ey, n, ok, l⟩ | ⟨w, xs, b, k, e, ks, ey, n, ok, l⟩
  · exact .inl ⟨_, e⟩
  · exact .inl ⟨_, e⟩
  · exact .inr ⟨_, _, e⟩
section
variable {X : Cx} {pins : List (Addr × Obj)} {σ : L2.St} {H : Hp} {s : Shared} {a : Addr} {y d : V} {u r : Value} {o : Option V} {A : Around} {E : Value → Shared → Prop}
theorem n_get1 {Q : Value → Shared → Prop} (hu : A.units + 10 < cLine) (I : Inv X pins σ H s) (g : NGet X.K H a y o) (ry : RelV y u) (h : ∀ w' s', Inv X pins σ H s' → RelV (o.getD .non) w' → Q w' s') :
    wpAny (model X.prog X.w) A (call (.builtin "dict.get") [.ref a, u]) Q E s := by
  rcases g with ⟨kvs, k, e, ey, l⟩ | ⟨b, k, e, ey, n, ok, l⟩ | ⟨w, xs, b, k, e, ks, ey, n, ok, l⟩
  · exact d_get1 (by omega) I (.inl ⟨kvs, k, e, ey, l⟩) ry h
  · subst ey l
    cases (show u = Value.ref b from ry)
    obtain ⟨hd, dd⟩ := dk_nil I e
    exact call_meetsIn PySem.F.slot_dict_get dd.typeIs PySem.F.entry_dict_get (PySem.F.args_dict_get_2 _ _) (meetsH_dict_get (nestedKind X.prog X.w) a b hd) ⟨room_in1 hu, k, [], ⟨n.is I rfl, ok.2⟩, dd, h _ _ (I.tok _) rfl⟩
  · subst ey
    cases (show u = Value.ref b from ry)
    obtain ⟨hd, z, ys, rel, dd⟩ := dq_get I e ks
    refine call_meetsIn PySem.F.slot_dict_get dd.typeIs PySem.F.entry_dict_get (PySem.F.args_dict_get_2 _ _) (meetsH_dict_get (nestedKind X.prog X.w) a b hd) ⟨room_in1 hu, k, ys, ⟨n.is I rfl, ok.2⟩, dd, h _ _ (I.tok _) ?_⟩
    rw [l]
    exact (rel.val k).getD rfl
theorem n_get2 {Q : Value → Shared → Prop} (hu : A.units + 10 < cLine) (I : Inv X pins σ H s) (g : NGet X.K H a y o) (ry : RelV y u) (rd : RelV d r) (h : ∀ w' s', Inv X pins σ H s' → RelV (o.getD d) w' → Q w' s') :
    wpAny (model X.prog X.w) A (call (.builtin "dict.get") [.ref a, u, r]) Q E s := by
  rcases g with ⟨kvs, k, e, ey, l⟩ | ⟨b, k, e, ey, n, ok, l⟩ | ⟨w, xs, b, k, e, ks, ey, n, ok, l⟩
  · exact d_get2 (by omega) I (.inl ⟨kvs, k, e, ey, l⟩) ry rd h
  · subst ey l
    cases (show u = Value.ref b from ry)
    obtain ⟨hd, dd⟩ := dk_nil I e
    exact call_meetsIn PySem.F.slot_dict_get dd.typeIs PySem.F.entry_dict_get (PySem.F.args_dict_get_3 _ _ _) (meetsH_dict_get_default (nestedKind X.prog X.w) a b hd r) ⟨room_in1 hu, k, [], ⟨n.is I rfl, ok.2⟩, dd, h _ _ (I.tok _) rd⟩
  · subst ey
    cases (show u = Value.ref b from ry)
    obtain ⟨hd, z, ys, rel, dd⟩ := dq_get I e ks
    refine call_meetsIn PySem.F.slot_dict_get dd.typeIs PySem.F.entry_dict_get (PySem.F.args_dict_get_3 _ _ _) (meetsH_dict_get_default (nestedKind X.prog X.w) a b hd r) ⟨room_in1 hu, k, ys, ⟨n.is I rfl, ok.2⟩, dd, h _ _ (I.tok _) ?_⟩
    rw [l]
    exact (rel.val k).getD rd
end

end DL
namespace DL
open PySem PySem.Spec PyProof.Rows L2
def tQIx (K : PySem.W.Frag) (td ty : TE) : TE := fun σ H Q => td σ H fun x H1 => ty σ H1 fun y H2 => ∃ a v, x = .ref a ∧ NGet K H2 a y (some v) ∧ Q v H2
def tQGet1 (K : PySem.W.Frag) (td ty : TE) : TE := fun σ H Q => td σ H fun x H1 => ∃ a, x = .ref a ∧ IsQ H1 a ∧ ty σ H1 fun y H2 => ∃ o, NGet K H2 a y o ∧ Q (o.getD .non) H2
def tQGet2 (K : PySem.W.Frag) (td ty tx : TE) : TE := fun σ H Q => td σ H fun x H1 => ∃ a, x = .ref a ∧ IsQ H1 a ∧ ty σ H1 fun y H2 => tx σ H2 fun z H3 => ∃ o, NGet K H3 a y o ∧ Q (o.getD z) H3
section
variable {X : Cx} {o i e f : Expr} {pos apos cpos : Pos} {td ty tx : TE}
theorem pe_qix (hu : X.A.units + 10 < cLine) (ho : PE X o td) (hi : PE X i ty) (hs : NoSl i) : PE X (.Subscript o i pos) (tQIx X.K td ty) := by
  refine ⟨fun pins s σ H Q I h => ?_⟩
  refine subD_of PySem.F.slot_dict_getitem.lookup hs (thn (ho.run pins s σ H _ I h) fun u s1 ⟨x, H1, I1, rx, q1⟩ => thn (hi.run pins s1 σ H1 _ I1 q1) fun iv s2 ⟨y, H2, I2, ry, a, v, ex, g, q2⟩ => ?_)
  subst ex
  obtain rfl : u = Value.ref a := rx
  exact ⟨nget_type I2 g, n_getItem hu I2 g ry fun w' s3 I3 rw' => ⟨v, H2, I3, rw', q2⟩⟩
theorem pe_qget1 (hu : X.A.units + 10 < cLine) (ho : PE X o td) (he : PE X e ty) (m : M1 X o "get" apos e cpos) : PE X (.Call (.Attribute o "get" apos) [e] [] cpos) (tQGet1 X.K td ty) := by
  refine ⟨fun pins s σ H Q I h => ?_⟩
  refine wpAny_Call_method m.base m.few m.line PySem.F.plainAttrs_dict PySem.F.slot_dict_get PySem.F.type_dict_get (thn (ho.run pins s σ H _ I h) fun u s1 ⟨x, H1, I1, rx, a, ex, d, q1⟩ => ?_)
  subst ex
  obtain rfl : u = Value.ref a := rx
  obtain ⟨t1, t2, _⟩ := isQ_at I1 d
  refine ⟨t1, t2, ?_⟩
  rw [m.trees]
  refine Calls.callWith_builtin rfl (Calls.evalArgs_plain (Calls.spliced_cons (thn (he.run pins s1 σ H1 _ I1 q1) fun iv s2 ⟨y, H2, I2, ry, ov, g, q2⟩ => Calls.spliced_nil ?_)))
  exact n_get1 hu I2 g ry fun w' s3 I3 rw' => ⟨_, H2, I3, rw', q2⟩
theorem pe_qget2 (hu : X.A.units + 10 < cLine) (ho : PE X o td) (he : PE X e ty) (hf : PE X f tx) (m : M2 X o "get" apos e f cpos) : PE X (.Call (.Attribute o "get" apos) [e, f] [] cpos) (tQGet2 X.K td ty tx) := by
  refine ⟨fun pins s σ H Q I h => ?_⟩
  refine wpAny_Call_method m.base m.few m.line PySem.F.plainAttrs_dict PySem.F.slot_dict_get PySem.F.type_dict_get (thn (ho.run pins s σ H _ I h) fun u s1 ⟨x, H1, I1, rx, a, ex, d, q1⟩ => ?_)
  subst ex
  obtain rfl : u = Value.ref a := rx
  obtain ⟨t1, t2, _⟩ := isQ_at I1 d
  refine ⟨t1, t2, ?_⟩
  rw [m.trees]
  refine Calls.callWith_builtin rfl (Calls.evalArgs_plain (Calls.spliced_cons (thn (he.run pins s1 σ H1 _ I1 q1) fun iv s2 ⟨y, H2, I2, ry, q2⟩ =>
    Calls.spliced_cons (thn (hf.run pins s2 σ H2 _ I2 q2) fun fv s3 ⟨z, H3, I3, rz, ov, g, q3⟩ => Calls.spliced_nil ?_))))
  exact n_get2 hu I3 g ry rz fun w' s4 I4 rw' => ⟨_, H3, I4, rw', q3⟩
end
/-! ### the keys in their order -/
/-- the dict's keys as values -/
def KeysQ (K : PySem.W.Frag) (H : Hp) (a : Addr) (vk : List V) : Prop := (∃ kvs, Rd H a (.dK kvs) ∧ vk = kvs.map fun p => kV p.1) ∨ ∃ w xs, Rd H a (.ext (dq w a xs)) ∧ KeysAt K H xs ∧ vk = xs.map fun x => .ref x.2.1
theorem keysQ_raw {X : Cx} {pins : List (Addr × Obj)} {σ : L2.St} {H : Hp} {s : Shared} {a : Addr} {vk : List V} (I : Inv X pins σ H s) (k : KeysQ X.K H a vk) :
    (a == sysModules) = false ∧ vk.length ≤ sizeLine ∧ ∃ es ep, s.heap.DictRaw a es ep ∧ es.size = vk.length ∧ ∀ i (hi : i < es.size) v, vk[i]? = some v → RelV v es[i].key := by
  rcases k with ⟨kvs, e, rfl⟩ | ⟨w, xs, e, ks, rfl⟩
  · obtain ⟨z, lo, vs, rel, dd⟩ := dk_rd I.hok e
    obtain ⟨ep, hat⟩ := dd.dictAt
    obtain ⟨es, hr, hs, hk⟩ := Heap.DictAt.raw hat
    refine ⟨lo, by rw [List.length_map]; exact z, es, ep, hr, by rw [hs, List.length_map, rel.length], fun i hi v hv => ?_⟩
    have hiv : i < vs.length := by omega
    have hik : i < kvs.length := by rw [rel.length]; exact hiv
    have e2 : vs[i]? = some (vs[i].1, vs[i].2) := List.getElem?_eq_getElem hiv
    obtain ⟨q1, _⟩ := hk i hi _ _ e2
    rw [List.getElem?_map, List.getElem?_eq_getElem hik] at hv
    cases hv
    have e3 : (kvs.map (·.1))[i]? = (vs.map (·.1))[i]? := by rw [rel.keys]
    rw [List.getElem?_map, List.getElem?_map, List.getElem?_eq_getElem hik, List.getElem?_eq_getElem hiv] at e3
    have e3 : kvs[i].1 = vs[i].1 := by simpa using e3
    show L2.RelV (kV kvs[i].1) es[i].key
    rw [e3]
    rcases keyIs_shape (show keyIs _ _ = true from q1) with ⟨i', t, ek, ev⟩ | ⟨z, t, ek, ev⟩
    · rw [ek, ev]; exact ⟨t, rfl⟩
    · rw [ek, ev]; exact ⟨t, rfl⟩
  · obtain ⟨hd, z, ys, rel, dd⟩ := dq_get I e ks
    obtain ⟨es, ep, hr, hs, hk⟩ := dd.raw
    have hl := Paired.length rel
    refine ⟨hd, by rw [List.length_map]; exact z, es, ep, hr, by rw [hs, List.length_map, hl], fun i hi v hv => ?_⟩
    obtain ⟨y, hy, h1, _, _⟩ := hk i hi
    rw [h1]
    have : ∀ {l : List (NestedKey × Addr × V)} {m : List (NestedKey × Addr × Value)}, KQ l m → ∀ (i : Nat) (y : NestedKey × Addr × Value) (v : V), m[i]? = some y → (l.map fun x => V.ref x.2.1)[i]? = some v → v = V.ref y.2.1 := by
      intro l m q
      induction q with
      | nil => intro i y v h; simp at h
      | @cons p q ps qs hq t ih =>
        intro i y v h1 h2
        cases i with
        | zero =>
          simp at h1 h2
          subst h1 h2
          rw [hq.2.1]
        | succ j =>
          exact ih j y v (by simpa using h1) (by simpa using h2)
    rw [this rel i y v hy hv]
    rfl
end DL

/-! sorted(list, tuple or dict) of alike data; list(d). -/
namespace DL
open PySem PySem.Spec PyProof.Rows L2
open PySem.W (EachIs AllAlike Sortable SortsAt dataLe dataKind list_sort_vals sortVals sortVals_data sortingHeap sortingHeap_old sortVals_length each_map)
/-- what is walked: a list, a tuple, a dict by its keys -/
def ItsQ (K : PySem.W.Frag) (H : Hp) (a : Addr) (xs : List V) : Prop := SqL K H a xs ∨ SqT K H a xs ∨ KeysQ K H a xs
section
variable {X : Cx} {pins : List (Addr × Obj)} {σ : L2.St} {H : Hp} {s : Shared} {a : Addr} {xs : List V} {A : Around} {E : Value → Shared → Prop}
theorem vals_of_get : ∀ {xs : List V} {us : List Value}, us.length = xs.length → (∀ (i : Nat) (v : V) (u : Value), xs[i]? = some v → us[i]? = some u → RelV v u) → Vals xs us
  | [], [], _, _ => .nil
  | [], _ :: _, h, _ => by simp at h
  | _ :: _, [], h, _ => by simp at h
  | x :: xs, u :: us, h, k => .cons (k 0 x u rfl rfl) (vals_of_get (by simpa using h) fun i v w h1 h2 => k (i + 1) v w (by simpa using h1) (by simpa using h2))
theorem collect_q {Q : List Value → Shared → Prop} (hh : A.handled = none) (I : Inv X pins σ H s) (q : ItsQ X.K H a xs) (hQ : ∀ us s', Inv X pins σ H s' → xs.length ≤ sizeLine → Vals xs us → s'.gens = s.gens → s'.drawn = s.drawn → s'.os = s.os → (∀ b o, s.heap.get? b = some o → s'.heap.get? b = some o) → Q us s') : wpAny (model X.prog X.w) A (collect (.ref a)) Q E s := by
  rcases q with q | q | q
  · obtain ⟨its, rv, ⟨o, n, e, c, dd, hd⟩, hz⟩ := I.list q
    refine wpAny_collect_seq a (.inl rfl) e c hd (fun h' k => hQ _ _ (I.kept (t' := s.toks) k) hz (by simpa using rv) rfl rfl rfl k) (by rw [List.size_toArray, ← rv.length]; exact hz)
  · obtain ⟨its, rv, ⟨o, e, c, n, hd⟩, hz⟩ := I.tuple q
    refine wpAny_collect_seq a (.inr rfl) e c hd (fun h' k => hQ _ _ (I.kept (t' := s.toks) k) hz (by simpa using rv) rfl rfl rfl k) (by rw [List.size_toArray, ← rv.length]; exact hz)
  · obtain ⟨lo, hz, es, ep, hr, hs, hk⟩ := keysQ_raw I q
    refine PySem.W.kdu_collect (PySem.KdlSrc.rawDict lo) hh hr (by rw [hs]; exact hz) fun h' tk acc k it => hQ _ _ (I.kept (t' := tk) k) hz ?_ rfl rfl rfl k
    refine vals_of_get (by rw [Array.length_toList, it.1, hs]) fun i v u h1 h2 => ?_
    obtain ⟨hi, e⟩ := it.2 i u (by rw [← Array.getElem?_toList]; exact h2)
    rw [e]
    exact hk i hi v h1
end
/-- the items beside what they are -/
def srtQ {β : Type} (enc : β → PyData) (bs : List (V × β)) : List (V × β) := bs.mergeSort (dataLe false fun b => enc b.2)
def rSortedQ (K : PySem.W.Frag) {β : Type} (enc : β → PyData) : List V → Hp → VK → Prop := fun vs H Q => ∃ a bs, vs = [V.ref a] ∧ ItsQ K H a (bs.map (·.1)) ∧ (∀ b ∈ bs, Dp K H b.1 (enc b.2)) ∧ AllAlike (bs.map fun b => enc b.2) ∧ Sortable (bs.map fun b => enc b.2) ∧ (∀ b ∈ bs, (enc b.2).depth ≤ 50) ∧
  ∀ p, H p = none → bs.length ≤ sizeLine → Q (.ref p) (upd H p (.lst ((srtQ enc bs).map (·.1))))
theorem vals_each {us : List Value} {β : Type} {enc : β → PyData} : ∀ {bs : List (V × β)} {us : List Value}, Vals (bs.map (·.1)) us → EachIs (fun u (b : V × β) => RelV b.1 u) us bs
  | [], _, r => by cases r; exact .nil
  | b :: bs, _, r => by
    rw [List.map_cons] at r
    cases r with
    | cons h t => exact .cons h (vals_each (us := us) (enc := enc) t)
theorem each_mem {α β : Type} {R R' : α → β → Prop} : ∀ {as : List α} {bs : List β}, EachIs R as bs → (∀ a b, b ∈ bs → R a b → R' a b) → EachIs R' as bs
  | _, _, .nil, _ => .nil
  | _, _, .cons h t, k => .cons (k _ _ (by simp) h) (each_mem t fun a b hb => k a b (by simp [hb]))
theorem each_vals {β : Type} : ∀ {us : List Value} {bs : List (V × β)}, EachIs (fun u (b : V × β) => RelV b.1 u) us bs → Vals (bs.map (·.1)) us
  | _, _, .nil => .nil
  | _, _, .cons h t => .cons h (each_vals t)
theorem cr_sortedQ {X : Cx} {β : Type} (enc : β → PyData) (hc : X.calm = true) (hu : X.A.units + 65 < cLine) : CallR X (.builtin "sorted") (rSortedQ X.K enc) := by
  intro pins s σ H vs us Q I r h
  obtain ⟨a, bs, rfl, q, hd, hal, hk, hdep, h⟩ := h
  obtain ⟨u, rfl, rx⟩ := vals1 r
  obtain rfl : u = Value.ref a := rx
  refine Calls.call_function_entry kind_sorted plain_sorted entry_sorted (args_sorted1 _) ?_
  unfold Builtin.«sorted»
  refine wpAny_bind (m := checkCount "sorted" 1 1 _) (wpAny_pure ?_)
  refine wpAny_bind (collect_q (I.ok.hd hc) I q fun us s' I' hz rv g1 g2 g3 k => ?_)
  have hlen : us.length = bs.length := by rw [← rv.length, List.length_map]
  have hL : us.length ≤ sizeLine := by rw [← rv.length]; exact hz
  refine wpAny_bind (wpAny_newList ?_ hL)
  have hoL : (s'.heap.push (seqObj "list" us.toArray 0)).get? s'.heap.objs.size = some (seqObj "list" us.toArray 0) := Heap.get?_push_size _ rfl
  have keepL : ∀ b o, s'.heap.get? b = some o → (s'.heap.push (seqObj "list" us.toArray 0)).get? b = some o := fun b o e => Heap.get?_push_of_some _ e
  -- the data
  have e0 : EachIs (fun u (b : V × β) => RelV b.1 u) us bs := vals_each (us := us) (enc := enc) rv
  have er0 : EachIs (fun u (b : V × β) => ∃ as, Reads s'.heap u (enc b.2) as) us bs := each_mem e0 fun u b hb hr => Dp.reads I' (enc b.2) b.1 u (hd b hb) hr
  have er : EachIs (fun u (b : V × β) => ∃ as, Reads (sortingHeap (s'.heap.push (seqObj "list" us.toArray 0)) s'.heap.objs.size us) u (enc b.2) as) us bs :=
    er0.mono fun _ _ ⟨as, r⟩ => ⟨as, PyProof.Rows.Reads.keeps (fun b o e => sortingHeap_old (Nat.ne_of_lt (Heap.lt_size e)) (keepL b o e)) r⟩
  have S : ∀ A' : Around, (A'.units + 50 < cLine) → SortsAt X.prog X.w A' { s' with heap := sortingHeap (s'.heap.push (seqObj "list" us.toArray 0)) s'.heap.objs.size us } (dataKind (sortingHeap (s'.heap.push (seqObj "list" us.toArray 0)) s'.heap.objs.size us) (bs.map fun b => enc b.2)) us := fun A' hA =>
    SortsAt.data (s := { s' with heap := sortingHeap (s'.heap.push (seqObj "list" us.toArray 0)) s'.heap.objs.size us }) (each_map (R := fun v d => ∃ as, Reads (sortingHeap (s'.heap.push (seqObj "list" us.toArray 0)) s'.heap.objs.size us) v d as) (fun b : V × β => enc b.2) er) hal hk (fun d hd => by
      obtain ⟨b, hb, rfl⟩ := List.mem_map.mp hd
      have := hdep b hb
      omega)
  show wpAny _ _ _ _ _ { s' with heap := s'.heap.push (seqObj "list" us.toArray 0) }
  refine wpAny_bind (wpAny_holding (wpAny_call_entry slot_list_sort ⟨_, hoL, rfl⟩ entry_list_sort
    (list_sort_vals (s := { s' with heap := s'.heap.push (seqObj "list" us.toArray 0) }) hoL (S _ ?room) hL ⟨_, rfl, ?_⟩) (args_list_sort _)))
  case room =>
    show X.A.in1.in1.units + 50 < cLine
    have : X.A.in1.in1.units ≤ X.A.units + 2 := by
      simp [Around.in1, Around.units]
      try omega
    omega
  have srt := sortVals_data (h' := sortingHeap (s'.heap.push (seqObj "list" us.toArray 0)) s'.heap.objs.size us) (R := fun u (b : V × β) => RelV b.1 u) (enc := fun b : V × β => enc b.2) false e0 er hal
  generalize hout : sortVals (dataKind (sortingHeap (s'.heap.push (seqObj "list" us.toArray 0)) s'.heap.objs.size us) (bs.map fun b => enc b.2)) false us us = out at srt ⊢
  have hlenO : out.length ≤ sizeLine := by rw [srt.length, List.length_mergeSort, ← hlen]; exact hL
  obtain ⟨e', he'⟩ := PyProof.Rows.sortedHeap_at (vs := us) (out := out.toArray) hoL
  refine wpAny_pure ⟨_, rfl, .ref s'.heap.objs.size, upd H s'.heap.objs.size (.lst ((srtQ enc bs).map (·.1))), I'.laid (t' := s'.toks) (fun b u e => ?_) (Nat.le_refl _)
    (show ObjOk X.prog X.w _ _ _ (.lst ((srtQ enc bs).map (·.1))) from ⟨by rw [← (each_vals srt).length] at hlenO; exact hlenO, out, e', each_vals srt, he'⟩), rfl, h _ (I'.hok.fresh (Nat.le_refl _)) (by rw [← hlen]; exact hL)⟩
  have hb : b < s'.heap.objs.size := Heap.lt_size e
  rw [PyProof.Rows.sortedHeap_old (Nat.ne_of_lt hb) (by rw [size_push']; exact Nat.lt_succ_of_lt hb)]
  exact Heap.get?_push_of_some _ e
/-- list(d) -/
def rListQ (K : PySem.W.Frag) : List V → Hp → VK → Prop := fun xs H Q => ∃ d vk, xs = [V.ref d] ∧ KeysQ K H d vk ∧ ∀ p, H p = none → vk.length ≤ sizeLine → Q (.ref p) (upd H p (.lst vk))
theorem call_listQ {X : Cx} (hc : X.calm = true) : CallR X (.type "list") (rListQ X.K) := by
  intro pins s σ H xs us Q I r h
  obtain ⟨d, vk, rfl, hd, q⟩ := h
  obtain ⟨u, rfl, rx⟩ := r.one
  cases rx
  obtain ⟨lo, hz, es, ep, hr, hs, hk⟩ := keysQ_raw I hd
  refine PySem.W.kdl_call (PySem.KdlSrc.rawDict lo) (I.ok.hd hc) hr (by rw [hs]; exact hz) fun h' tk acc' c' kp e it => ?_
  have rv : Vals vk acc'.toList := vals_of_get (by rw [Array.length_toList, it.1, hs]) fun i v u h1 h2 => by
    obtain ⟨hi, e⟩ := it.2 i u (by rw [← Array.getElem?_toList]; exact h2)
    rw [e]
    exact hk i hi v h1
  exact ⟨.ref s.heap.objs.size, upd H s.heap.objs.size (.lst vk), I.laid (t' := tk) kp (Nat.le_refl _) ⟨hz, acc'.toList, c', rv, by rw [Array.toArray_toList]; exact e⟩, rfl, q _ (I.hok.fresh (Nat.le_refl _)) hz⟩
/-- len(d) -/
def rLenQ (K : PySem.W.Frag) : List V → Hp → VK → Prop := fun xs H Q => ∃ d vk, xs = [V.ref d] ∧ KeysQ K H d vk ∧ Q (.int ((vk.length : Nat) : Int)) H
theorem call_lenQ {X : Cx} : CallR X (.builtin "len") (rLenQ X.K) := by
  intro pins s σ H xs us Q I r h
  obtain ⟨d, vk, rfl, hd, q⟩ := h
  rcases hd with ⟨kvs, e, rfl⟩ | ⟨w, ys, e, ks, rfl⟩
  · rw [List.length_map] at q
    obtain ⟨u, rfl, rx⟩ := vals1 r
    obtain rfl : u = .ref d := rx
    exact d_len I e fun tk s' I' => ⟨.int ((kvs.length : Nat) : Int), H, I', ⟨tk, rfl⟩, q⟩
  · obtain ⟨u, rfl, rx⟩ := vals1 r
    obtain rfl : u = .ref d := rx
    obtain ⟨hd, z, zs, rel, dd⟩ := dq_get I e ks
    have hl : ys.length = zs.length := Paired.length rel
    refine call_len_dictH hd dd (by rw [← hl]; rw [sizeLine_eq] at z; omega) ?_
    rw [← hl]
    rw [List.length_map] at q
    exact ⟨.int ((ys.length : Nat) : Int), H, I.tok _, ⟨_, rfl⟩, q⟩
end DL

/-! The data layer: dicts. -/
namespace DL
open PySem PySem.Spec PyProof.Rows L2
def dGet : List D → List D → NestedKey → Option D
  | a :: ks, v :: vs, k => if nk a = some k then some v else dGet ks vs k
  | _, _, _ => none
def atomD : D → Bool
  | .int _ => true
  | .str _ => true
  | _ => false
def tupD : D → Bool
  | .tup _ => true
  | _ => false
def nkOkB (k : NestedKey) : Bool := nkPlain k && decide (k.depth ≤ 8)
/-- this key may be asked of (or put into) a dict with these keys -/
def kdOk (ks : List D) (kd : D) : Bool := match kd with
  | .int _ => ks.all atomD
  | .str _ => ks.all atomD
  | .tup _ => ks.all tupD && (match nk kd with | some k => nkOkB k | none => false)
  | _ => false
theorem nkOk_of {k : NestedKey} (h : nkOkB k = true) : nkOk k := by
  unfold nkOkB at h
  rw [Bool.and_eq_true, decide_eq_true_eq] at h
  exact h
theorem keyNk_inj {a b : Key} (e : keyNk a = keyNk b) : a = b := by
  cases a <;> cases b <;> simp [keyNk] at e <;> rw [e]
section
variable {G : Gx} {H : Hp} {P : Addr → Prop}
mutual
theorem Rp.nkV : ∀ {v : V} {d : D} {k : NestedKey}, Rp G H P v d → nk d = some k → NkV G.K H v k
  | _, _, _, .non, e => by simp [nk] at e
  | _, _, _, .bl b, e => by simp [nk] at e
  | _, _, _, .int i, e => by simp [nk] at e; subst e; exact .int i
  | _, _, _, .str x, e => by simp [nk] at e; subst e; exact .str x
  | _, _, _, .tup (ds := ds) h z r, e => by
    unfold nk at e
    obtain ⟨ks, e1, rfl⟩ := Option.map_eq_some_iff.mp e
    exact .tup h (RpAll.nkV r e1)
  | _, _, _, .lst .., e => by simp [nk] at e
  | _, _, _, .lstF .., e => by simp [nk] at e
  | _, _, _, .obj .., e => by simp [nk] at e
  | _, _, _, .raw .., e => by simp [nk] at e
  | _, _, _, .dct .., e => by simp [nk] at e
  | _, _, _, .dcl .., e => by simp [nk] at e
  | _, _, _, .lk .., e => by simp [nk] at e
theorem RpAll.nkV : ∀ {vs : List V} {ds : List D} {ks : List NestedKey}, RpAll G H P vs ds → nkAll ds = some ks → NkVs G.K H vs ks
  | _, _, _, .nil, e => by simp [nkAll] at e; subst e; exact .nil
  | _, _, _, .cons h r, e => by
    unfold nkAll at e
    obtain ⟨k, e1, e⟩ := Option.bind_eq_some_iff.mp e
    obtain ⟨ks, e2, rfl⟩ := Option.map_eq_some_iff.mp e
    exact .cons (Rp.nkV h e1) (RpAll.nkV r e2)
end
theorem nkAll_cons {d : D} {ds : List D} {ns : List NestedKey} (e : nkAll (d :: ds) = some ns) : ∃ k ks, ns = k :: ks ∧ nk d = some k ∧ nkAll ds = some ks := by
  unfold nkAll at e
  obtain ⟨k, e1, e⟩ := Option.bind_eq_some_iff.mp e
  obtain ⟨ks, e2, rfl⟩ := Option.map_eq_some_iff.mp e
  exact ⟨k, ks, rfl, e1, e2⟩
theorem nkAll_len : ∀ {ds : List D} {ns : List NestedKey}, nkAll ds = some ns → ns.length = ds.length
  | [], ns, e => by simp [nkAll] at e; subst e; rfl
  | d :: ds, ns, e => by
    obtain ⟨k, ks, rfl, _, e2⟩ := nkAll_cons e
    simp [nkAll_len e2]
/-- what is found, and what it is -/
def RelG (G : Gx) (H : Hp) (P : Addr → Prop) (r : Option V) (o : Option D) : Prop := match r, o with
  | some v, some d => Rp G H P v d
  | none, none => True
  | _, _ => False
theorem kget (key : Key) : ∀ {kvs : List (Key × V)} {ks vs : List D}, RpAll G H P (kvs.map (·.2)) vs → nkAll ks = some (kvs.map fun p => keyNk p.1) → RelG G H P (valV kvs key) (dGet ks vs (keyNk key))
  | [], ks, vs, r, e => by
    cases r
    cases ks with
    | nil => exact True.intro
    | cons d ds => obtain ⟨k, ks, e1, _, _⟩ := nkAll_cons e; cases e1
  | p :: kvs, ks, vs, r, e => by
    cases ks with
    | nil => simp [nkAll] at e
    | cons d ds =>
      obtain ⟨k, ks, e1, e2, e3⟩ := nkAll_cons e
      rw [List.map_cons] at e1
      injection e1 with e1 e4
      subst e1 e4
      rw [List.map_cons] at r
      cases r with
      | cons r rs =>
        unfold dGet
        rw [e2]
        by_cases c : p.1 = key
        · rw [valV_pos c, if_pos (by rw [c])]; exact r
        · rw [valV_neg c, if_neg (fun z => c (keyNk_inj (Option.some.inj z)))]
          exact kget key rs e3
theorem qget (key : NestedKey) : ∀ {xs : List (NestedKey × Addr × V)} {ks vs : List D}, RpAll G H P (xs.map (·.2.2)) vs → nkAll ks = some (xs.map (·.1)) → RelG G H P (qGet xs key) (dGet ks vs key)
  | [], ks, vs, r, e => by
    cases r
    cases ks with
    | nil => exact True.intro
    | cons d ds => obtain ⟨k, ks, e1, _, _⟩ := nkAll_cons e; cases e1
  | p :: xs, ks, vs, r, e => by
    cases ks with
    | nil => simp [nkAll] at e
    | cons d ds =>
      obtain ⟨k, ks, e1, e2, e3⟩ := nkAll_cons e
      rw [List.map_cons] at e1
      injection e1 with e1 e4
      subst e1 e4
      rw [List.map_cons] at r
      cases r with
      | cons r rs =>
        unfold dGet
        rw [e2]
        have ih := qget key rs e3
        unfold qGet at ih ⊢
        rw [List.find?_cons]
        by_cases c : p.1 = key
        · rw [decide_eq_true c, if_pos (by rw [c])]; exact r
        · rw [decide_eq_false c, if_neg (fun z => c (Option.some.inj z))]
          exact ih
theorem keys_at : ∀ {xs : List (NestedKey × Addr × V)} {ks : List D}, RpAll G H P (xs.map fun x => V.ref x.2.1) ks → nkAll ks = some (xs.map (·.1)) → (∀ x ∈ xs, nkOk x.1) → KeysAt G.K H xs
  | [], _, _, _, _ => fun x hx => nomatch hx
  | p :: xs, ks, r, e, ok => by
    rw [List.map_cons] at r
    cases r with
    | cons r rs =>
      obtain ⟨k, ks, e1, e2, e3⟩ := nkAll_cons e
      rw [List.map_cons] at e1
      injection e1 with e1 e4
      subst e1 e4
      intro x hx
      rcases List.mem_cons.mp hx with rfl | hx
      · exact ⟨r.nkV e2, ok _ (by simp)⟩
      · exact keys_at rs e3 (fun y hy => ok y (by simp [hy])) x hx
/-- the dict, to be read -/
def DctR (H : Hp) (a : Addr) (vk : List V) (ns : List NestedKey) (vv : List V) : Prop := Dct H a vk ns vv ∨ ∃ o, DctL o H a vk ns vv
theorem DctR.rd {a : Addr} {vk : List V} {ns : List NestedKey} {vv : List V} (d : DctR H a vk ns vv) : (∃ kvs : List (Key × V), Rd H a (.dK kvs) ∧ vk = kvs.map (fun p => kV p.1) ∧ ns = kvs.map (fun p => keyNk p.1) ∧ vv = kvs.map (·.2)) ∨
    ∃ (w : World) (xs : List (NestedKey × Addr × V)), Rd H a (.ext (dq w a xs)) ∧ xs ≠ [] ∧ (∀ x ∈ xs, nkOk x.1) ∧ vk = xs.map (fun x => .ref x.2.1) ∧ ns = xs.map (·.1) ∧ vv = xs.map (·.2.2) := by
  rcases d with d | ⟨o, d⟩
  · cases d with
    | k h => exact .inl ⟨_, .inl h, rfl, rfl, rfl⟩
    | q h n ok => exact .inr ⟨_, _, .inl h, n, ok, rfl, rfl, rfl⟩
  · cases d with
    | k h => exact .inl ⟨_, .inr ⟨o, h⟩, rfl, rfl, rfl⟩
    | q h n ok => exact .inr ⟨_, _, .inr ⟨o, h⟩, n, ok, rfl, rfl, rfl⟩
theorem dct_len {a : Addr} {vk : List V} {ns : List NestedKey} {vv : List V} (d : Dct H a vk ns vv) : vk.length = ns.length ∧ vv.length = ns.length := by
  cases d <;> simp
/-- the dict's keys as values -/
theorem dct_keys {a : Addr} {vk : List V} {ns : List NestedKey} {vv : List V} {ks : List D} (d : DctR H a vk ns vv) (rk : RpAll G H P vk ks) (en : nkAll ks = some ns) : KeysQ G.K H a vk := by
  rcases d.rd with ⟨kvs, h, rfl, rfl, rfl⟩ | ⟨w, xs, h, n, ok, rfl, rfl, rfl⟩
  · exact .inl ⟨_, h, rfl⟩
  · exact .inr ⟨_, _, h, keys_at rk en ok, rfl⟩
theorem dct_get {P' : Addr → Prop} {a : Addr} {vk : List V} {ns : List NestedKey} {vv : List V} {ks vs : List D} {y : V} {kd : D} {k : NestedKey} (d : DctR H a vk ns vv) (rk : RpAll G H P vk ks) (en : nkAll ks = some ns) (rv : RpAll G H P vv vs) (ry : Rp G H P' y kd) (ek : nk kd = some k) (ok : kdOk ks kd = true) :
    ∃ r, NGet G.K H a y r ∧ RelG G H P r (dGet ks vs k) := by
  cases kd with
  | int i =>
    cases ry
    cases ek
    rcases d.rd with ⟨kvs, h, rfl, rfl, rfl⟩ | ⟨w, xs, h, n, o, rfl, rfl, rfl⟩
    · exact ⟨_, .inl ⟨_, .inl i, h, rfl, rfl⟩, kget (.inl i) rv en⟩
    · cases xs with
      | nil => exact absurd rfl n
      | cons x xs =>
        rw [List.map_cons] at rk
        cases rk with
        | cons r rs =>
          unfold kdOk at ok
          rw [List.all_cons, Bool.and_eq_true] at ok
          cases r <;> simp [atomD] at ok
  | str x =>
    cases ry
    cases ek
    rcases d.rd with ⟨kvs, h, rfl, rfl, rfl⟩ | ⟨w, xs, h, n, o, rfl, rfl, rfl⟩
    · exact ⟨_, .inl ⟨_, .inr x, h, rfl, rfl⟩, kget (.inr x) rv en⟩
    · cases xs with
      | nil => exact absurd rfl n
      | cons x xs =>
        rw [List.map_cons] at rk
        cases rk with
        | cons r rs =>
          unfold kdOk at ok
          rw [List.all_cons, Bool.and_eq_true] at ok
          cases r <;> simp [atomD] at ok
  | tup l =>
    unfold kdOk at ok
    rw [ek, Bool.and_eq_true] at ok
    have nv := ry.nkV ek
    have hy : ∃ b, y = .ref b := by cases ry; exact ⟨_, rfl⟩
    obtain ⟨b, rfl⟩ := hy
    rcases d.rd with ⟨kvs, h, rfl, rfl, rfl⟩ | ⟨w, xs, h, n, o, rfl, rfl, rfl⟩
    · cases kvs with
      | nil =>
        cases rk
        exact ⟨none, .inr (.inl ⟨b, k, h, rfl, nv, nkOk_of ok.2, rfl⟩), by cases rv; exact True.intro⟩
      | cons p kvs =>
        rw [List.map_cons] at rk
        generalize hpk : kV p.1 = pk at rk
        cases rk with
        | cons r rs =>
          rw [List.all_cons, Bool.and_eq_true] at ok
          cases r <;> simp [tupD] at ok
          cases hp : p.1 <;> rw [hp] at hpk <;> cases hpk
    · exact ⟨_, .inr (.inr ⟨_, _, b, k, h, keys_at rk en o, rfl, nv, nkOk_of ok.2, rfl⟩), qget k rv en⟩
  | _ => simp [kdOk] at ok
/-- the data behind d[k] = v -/
def dPutV : List D → List D → NestedKey → D → List D
  | a :: ks, x :: vs, k, v => (if nk a = some k then v else x) :: dPutV ks vs k v
  | _, vs, _, _ => vs
def dPut (ks vs : List D) (kd : D) (k : NestedKey) (v : D) : D := if (dGet ks vs k).isSome then .dct ks (dPutV ks vs k v) else .dct (ks ++ [kd]) (vs ++ [v])
theorem nkAll_snoc : ∀ {ds : List D} {ns : List NestedKey} {d : D} {k : NestedKey}, nkAll ds = some ns → nk d = some k → nkAll (ds ++ [d]) = some (ns ++ [k])
  | [], ns, d, k, e, ek => by simp [nkAll] at e; subst e; simp [nkAll, ek]
  | a :: ds, ns, d, k, e, ek => by
    obtain ⟨k', ks, rfl, e1, e2⟩ := nkAll_cons e
    rw [List.cons_append, nkAll, e1, nkAll_snoc e2 ek]
    rfl
theorem kput (key : Key) {v : V} {d : D} (r0 : Rp G H P v d) : ∀ {kvs : List (Key × V)} {ks vs : List D}, RpAll G H P (kvs.map (·.2)) vs → nkAll ks = some (kvs.map fun p => keyNk p.1) → RpAll G H P ((kvs.map fun kv => if kv.1 = key then (kv.1, v) else kv).map (·.2)) (dPutV ks vs (keyNk key) d)
  | [], ks, vs, r, e => by
    cases r
    cases ks with
    | nil => exact .nil
    | cons d ds => obtain ⟨k, ks, e1, _, _⟩ := nkAll_cons e; cases e1
  | p :: kvs, ks, vs, r, e => by
    cases ks with
    | nil => simp [nkAll] at e
    | cons d ds =>
      obtain ⟨k, ks, e1, e2, e3⟩ := nkAll_cons e
      rw [List.map_cons] at e1
      injection e1 with e1 e4
      subst e1 e4
      rw [List.map_cons] at r
      cases r with
      | cons r rs =>
        unfold dPutV
        rw [e2, List.map_cons, List.map_cons]
        refine .cons ?_ (kput key r0 rs e3)
        by_cases c : p.1 = key
        · rw [if_pos c, if_pos (by rw [c])]; exact r0
        · rw [if_neg c, if_neg (fun z => c (keyNk_inj (Option.some.inj z)))]; exact r
theorem qput (key : NestedKey) {v : V} {d : D} (r0 : Rp G H P v d) : ∀ {xs : List (NestedKey × Addr × V)} {ks vs : List D}, RpAll G H P (xs.map (·.2.2)) vs → nkAll ks = some (xs.map (·.1)) → RpAll G H P ((xs.map fun x => if x.1 = key then (x.1, x.2.1, v) else x).map (·.2.2)) (dPutV ks vs key d)
  | [], ks, vs, r, e => by
    cases r
    cases ks with
    | nil => exact .nil
    | cons d ds => obtain ⟨k, ks, e1, _, _⟩ := nkAll_cons e; cases e1
  | p :: xs, ks, vs, r, e => by
    cases ks with
    | nil => simp [nkAll] at e
    | cons d ds =>
      obtain ⟨k, ks, e1, e2, e3⟩ := nkAll_cons e
      rw [List.map_cons] at e1
      injection e1 with e1 e4
      subst e1 e4
      rw [List.map_cons] at r
      cases r with
      | cons r rs =>
        unfold dPutV
        rw [e2, List.map_cons, List.map_cons]
        refine .cons ?_ (qput key r0 rs e3)
        by_cases c : p.1 = key
        · rw [if_pos c, if_pos (by rw [c])]; exact r0
        · rw [if_neg c, if_neg (fun z => c (Option.some.inj z))]; exact r
theorem map_keys_if {α β : Type} (f : α → β) (g : α → α) (h : ∀ a, f (g a) = f a) (l : List α) : (l.map g).map f = l.map f := by
  rw [List.map_map]; exact List.map_congr_left fun a _ => h a
/-- d[k] = v -/
theorem dct_put {w : World} {a : Addr} {vk : List V} {ns : List NestedKey} {vv : List V} {ks vs : List D} {y v : V} {kd d0 : D} {k : NestedKey} (d : Dct H a vk ns vv) (pa : P a) (rk : RpAll G H P vk ks) (en : nkAll ks = some ns) (rv : RpAll G H P vv vs) (ry : Rp G H P y kd) (r0 : Rp G H P v d0) (ek : nk kd = some k) (ok : kdOk ks kd = true) (hz : ks.length < sizeLine) :
    ∃ u, NPut G.K w H a y v (upd H a u) ∧ (∀ b, b ≠ a → upd H a u b = H b) ∧ Own G (upd H a u) P a (dPut ks vs kd k d0) := by
  have mv : ∀ u, Mv H P (upd H a u) P := fun u b o h n => by
    obtain ⟨o', ho, hm⟩ := d.mut
    have hb : b ≠ a := fun z => by subst z; rw [ho] at h; cases h; exact n hm pa
    exact ⟨by rw [upd_ne hb]; exact h, n⟩
  have hl := rk.length
  obtain ⟨hl1, hl2⟩ := dct_len d
  have other : ∀ u, ∀ b, b ≠ a → upd H a u b = H b := fun u b hb => upd_ne hb
  have atom : ∀ key : Key, y = kV key → k = keyNk key → ks.all atomD = true → ∃ u, NPut G.K w H a y v (upd H a u) ∧ (∀ b, b ≠ a → upd H a u b = H b) ∧ Own G (upd H a u) P a (dPut ks vs kd k d0) := by
    rintro key rfl rfl ok
    cases d with
    | @k kvs h =>
      have hg := kget key rv en
      refine ⟨_, .inl ⟨kvs, key, h, rfl, by simp at hl; omega, rfl⟩, other _, ?_⟩
      unfold dPut putK
      rw [valV_any]
      cases hv : valV kvs key with
      | none =>
        rw [hv] at hg
        cases hq : dGet ks vs (keyNk key) with
        | some _ => rw [hq] at hg; exact hg.elim
        | none =>
          simp only [Option.isSome_none, Bool.false_eq_true, if_false]
          refine .dct (vk := _) (ns := _) (vv := _) (.k upd_same) ?_ ?_ ?_
          · rw [List.map_append]; exact (rk.mv (mv _)).append (.cons (ry.mv (mv _)) .nil)
          · rw [List.map_append]; exact nkAll_snoc en ek
          · rw [List.map_append]; exact (rv.mv (mv _)).append (.cons (r0.mv (mv _)) .nil)
      | some x =>
        rw [hv] at hg
        cases hq : dGet ks vs (keyNk key) with
        | none => rw [hq] at hg; exact hg.elim
        | some _ =>
          simp only [Option.isSome_some, if_true]
          refine .dct (vk := _) (ns := _) (vv := _) (.k upd_same) ?_ ?_ ?_
          · rw [map_keys_if (fun p : Key × V => kV p.1) _ (fun p => by split <;> rfl)]; exact rk.mv (mv _)
          · rw [map_keys_if (fun p : Key × V => keyNk p.1) _ (fun p => by split <;> rfl)]; exact en
          · exact kput key (r0.mv (mv _)) (rv.mv (mv _)) en
    | @q w xs h n o =>
      cases xs with
      | nil => exact absurd rfl n
      | cons x xs =>
        rw [List.map_cons] at rk
        cases rk with
        | cons r rs =>
          rw [List.all_cons, Bool.and_eq_true] at ok
          cases r <;> simp [atomD] at ok
  cases kd with
  | int i => cases ry; cases ek; exact atom (.inl i) rfl rfl ok
  | str x => cases ry; cases ek; exact atom (.inr x) rfl rfl ok
  | tup l =>
    unfold kdOk at ok
    rw [ek, Bool.and_eq_true] at ok
    have nv := ry.nkV ek
    have hy : ∃ b, y = .ref b := by cases ry; exact ⟨_, rfl⟩
    obtain ⟨b, rfl⟩ := hy
    cases d with
    | @k kvs h =>
      cases kvs with
      | nil =>
        cases rk
        cases rv
        refine ⟨_, .inr (.inl ⟨b, k, h, rfl, nv, nkOk_of ok.2, rfl⟩), other _, ?_⟩
        unfold dPut
        simp only [dGet, Option.isSome_none, Bool.false_eq_true, if_false, List.nil_append]
        exact .dct (vk := _) (ns := _) (vv := _) (.q upd_same (by simp) (by simpa using nkOk_of ok.2)) (.cons (ry.mv (mv _)) .nil) (by simp [nkAll, ek]) (.cons (r0.mv (mv _)) .nil)
      | cons p kvs =>
        rw [List.map_cons] at rk
        generalize hpk : kV p.1 = pk at rk
        cases rk with
        | cons r rs =>
          rw [List.all_cons, Bool.and_eq_true] at ok
          cases r <;> simp [tupD] at ok
          cases hp : p.1 <;> rw [hp] at hpk <;> cases hpk
    | @q w' xs h n o =>
      have hg := qget k rv en
      refine ⟨_, .inr (.inr ⟨_, xs, b, k, h, keys_at rk en o, rfl, nv, nkOk_of ok.2, by simp at hl; omega, rfl⟩), other _, ?_⟩
      unfold dPut
      have hn : ∀ b v, qPut xs k b v ≠ [] := fun b v z => by
        unfold qPut at z
        split at z
        · exact n (List.map_eq_nil_iff.mp z)
        · simp at z
      have ho : ∀ x ∈ qPut xs k b v, nkOk x.1 := fun x hx => by
        have : x.1 ∈ (qPut xs k b v).map (·.1) := List.mem_map_of_mem hx
        rw [qPut_keys] at this
        split at this
        · obtain ⟨z, hz, e⟩ := List.mem_map.mp this
          rw [← e]; exact o z hz
        · rcases List.mem_append.mp this with this | this
          · obtain ⟨z, hz, e⟩ := List.mem_map.mp this
            rw [← e]; exact o z hz
          · have : x.1 = k := by simpa using this
            rw [this]; exact nkOk_of ok.2
      cases hv : qGet xs k with
      | none =>
        rw [hv] at hg
        cases hq : dGet ks vs k with
        | some _ => rw [hq] at hg; exact hg.elim
        | none =>
          simp only [Option.isSome_none, Bool.false_eq_true, if_false]
          have eq : qPut xs k b v = xs ++ [(k, b, v)] := by unfold qPut; rw [hv]; rfl
          rw [eq] at ho ⊢
          refine .dct (vk := _) (ns := _) (vv := _) (.q upd_same (by simp) ho) ?_ ?_ ?_
          · rw [List.map_append]; exact (rk.mv (mv _)).append (.cons (ry.mv (mv _)) .nil)
          · rw [List.map_append]; exact nkAll_snoc en ek
          · rw [List.map_append]; exact (rv.mv (mv _)).append (.cons (r0.mv (mv _)) .nil)
      | some x =>
        rw [hv] at hg
        cases hq : dGet ks vs k with
        | none => rw [hq] at hg; exact hg.elim
        | some _ =>
          simp only [Option.isSome_some, if_true]
          have eq : qPut xs k b v = xs.map fun x => if x.1 = k then (x.1, x.2.1, v) else x := by unfold qPut; rw [hv]; rfl
          have hn := hn b v
          rw [eq] at ho hn ⊢
          refine .dct (vk := _) (ns := _) (vv := _) (.q upd_same hn ho) ?_ ?_ ?_
          · rw [map_keys_if (fun x : NestedKey × Addr × V => V.ref x.2.1) _ (fun p => by split <;> rfl)]; exact rk.mv (mv _)
          · rw [map_keys_if (fun x : NestedKey × Addr × V => x.1) _ (fun p => by split <;> rfl)]; exact en
          · exact qput k (r0.mv (mv _)) (rv.mv (mv _)) en
  | _ => simp [kdOk] at ok
end
end DL

/-! The data layer: rules of dicts. -/
namespace DL
open PySem PySem.Spec PyProof.Rows L2
section
variable {G : Gx} {H : Hp} {P : Addr → Prop}
/-- a dict, frozen or not -/
def dkv : D → Option (List D × List D)
  | .dct ks vs => some (ks, vs)
  | .dcl ks vs => some (ks, vs)
  | _ => none
theorem RpI.dct' {v : V} {d0 : D} {ks vs : List D} (h : RpI G H P v d0) (ed : dkv d0 = some (ks, vs)) : ∃ a vk ns vv, v = .ref a ∧ DctR H a vk ns vv ∧ RpAll G H P vk ks ∧ nkAll ks = some ns ∧ RpAll G H P vv vs := by
  cases d0 <;> cases ed
  · rcases h with h | ⟨a, e, h⟩
    · cases h with | dct d n r e q => exact ⟨_, _, _, _, rfl, .inl d, r, e, q⟩
    · cases h with | dct d r e' q => exact ⟨_, _, _, _, e, .inl d, r, e', q⟩
  · rcases h with h | ⟨a, e, h⟩
    · cases h with | dcl d r e q => exact ⟨_, _, _, _, rfl, .inr ⟨_, d⟩, r, e, q⟩
    · cases h with | dcl d r e' q => exact ⟨_, _, _, _, e, .inr ⟨_, d⟩, r, e', q⟩
theorem kd_toR {v : V} {ks : List D} {kd : D} (h : RpI G H P v kd) (ok : kdOk ks kd = true) : Rp G H P v kd := by
  rcases h with h | ⟨a, e, h⟩
  · exact h
  · cases h <;> simp [kdOk] at ok
theorem kd_nk {ks : List D} {kd : D} (ok : kdOk ks kd = true) : ∃ k, nk kd = some k := by
  cases kd with
  | int i => exact ⟨_, rfl⟩
  | str i => exact ⟨_, rfl⟩
  | tup l =>
    unfold kdOk at ok
    cases h : nk (.tup l) with
    | none => rw [h] at ok; simp at ok
    | some k => exact ⟨k, rfl⟩
  | _ => simp [kdOk] at ok
/-- what stands at a key -/
def dFind (d kd : D) : Option (Option D) := match dkv d with
  | some (ks, vs) => if kdOk ks kd then (nk kd).map fun k => dGet ks vs k else none
  | none => none
theorem find_get {P' : Addr → Prop} {x y : V} {d kd : D} {o : Option D} (hx : RpI G H P x d) (hy : RpI G H P' y kd) (h : dFind d kd = some o) : ∃ a r, x = .ref a ∧ NGet G.K H a y r ∧ RelG G H P r o := by
  unfold dFind at h
  split at h
  · rename_i ed
    split at h
    · rename_i ok
      obtain ⟨k, ek, e⟩ := Option.map_eq_some_iff.mp h
      obtain ⟨a, vk, ns, vv, rfl, d, r, en, q⟩ := hx.dct' ed
      obtain ⟨r', g, rel⟩ := dct_get d r en q (kd_toR hy ok) ek ok
      rw [e] at rel
      exact ⟨a, r', rfl, g, rel⟩
    · cases h
  · cases h
theorem relG_some {r : Option V} {o : Option D} (h : RelG G H P r o) : r.isSome = o.isSome := by
  cases r <;> cases o <;> first | rfl | exact h.elim
def dQIn (neg : Bool) (kd d : D) : R D := match dFind d kd with | some o => .ok (.bl (if neg then !o.isSome else o.isSome)) | none => .bad
theorem o_qin : Op2 G false (rNIn G.K) (dQIn false) := by
  intro H P P' x y a b Q _ _ ra rb h
  unfold dQIn at h
  split at h
  · rename_i o e
    obtain ⟨p, r, rfl, g, rel⟩ := find_get rb ra e
    exact ⟨p, r, rfl, g, by rw [relG_some rel]; exact h _ H (.refl H) (.bl _)⟩
  · exact h.elim
theorem o_qnotin : Op2 G false (rNNotIn G.K) (dQIn true) := by
  intro H P P' x y a b Q _ _ ra rb h
  unfold dQIn at h
  split at h
  · rename_i o e
    obtain ⟨p, r, rfl, g, rel⟩ := find_get rb ra e
    exact ⟨p, r, rfl, g, by rw [relG_some rel]; exact h _ H (.refl H) (.bl _)⟩
  · exact h.elim
def dQIx (d kd : D) : R D := match dFind d kd with | some (some v) => .ok v | _ => .bad
def dQGet1 (d kd : D) : R D := match dFind d kd with | some o => .ok (o.getD .non) | _ => .bad
def dQGet2 (d kd x : D) : R D := match dFind d kd with | some o => .ok (o.getD x) | _ => .bad
end
section
variable {X : Cx} {fl : Str → List Str} {W : WX} {ow : List Bool} {m : Md} {e a b c : Expr} {es : List Expr} {da db dc : Env → R D} {ds : Env → R (List D)} {pos : Pos}
/-- d[k] -/
theorem de_qix {m1 m2 : Md} (hu : X.A.units + 65 < cLine) (hm : (m1.isF == m.isF) = true) (h12 : (m1.isF == m2.isF) = true) (ha : DE X fl W ow m1 a da) (hb : DE X fl W ow m2 b db) (hs : NoSl b := by exact fun _ _ => rfl) : DE X fl W ow m (.Subscript a b pos) (fun dl => da dl >>= fun x => db dl >>= fun y => nx (dQIx x y)) := by
  obtain ⟨t, p, k1⟩ := ha
  obtain ⟨t', p', k2⟩ := hb
  refine ⟨_, pe_qix (by omega) p p' hs, fun av H0 hs dl st H Q e q => ?_⟩
  refine k1 av H0 hs dl st H _ e (q.bind.mono (fun d _ w v H1 s r => ?_) fun _ z => z)
  refine k2 av H0 hs dl st H1 _ (e.sm s) (w.bind.mono (fun d' _ w' v' H2 s2 r2 => ?_) fun _ z => z.sm s)
  have w2 := nx_asks w'
  unfold dQIx at w2
  split at w2
  · rename_i o ef
    rw [pm_eq (m' := m) hm] at r
    obtain ⟨p, r', rfl, g, rel⟩ := find_get (r.toI.sm s2) r2.toI ef
    cases r' with
    | none => exact rel.elim
    | some v => exact ⟨p, v, rfl, g, w2 v H2 (s.trans s2) (Rp.toM rel)⟩
  · exact w2.elim
def isDct (d : D) : Bool := (dkv d).isSome
theorem dFind_isQ {G : Gx} {H : Hp} {P : Addr → Prop} {x : V} {d : D} (hx : RpI G H P x d) (h : isDct d = true) : ∃ a, x = .ref a ∧ IsQ H a := by
  unfold isDct at h
  cases ed : dkv d with
  | none => rw [ed] at h; cases h
  | some p =>
    obtain ⟨a, vk, ns, vv, rfl, d, _, _, _⟩ := hx.dct' (ks := p.1) (vs := p.2) ed
    refine ⟨a, rfl, ?_⟩
    rcases d.rd with ⟨kvs, h, _⟩ | ⟨w, xs, h, _⟩
    · exact .inl ⟨_, h⟩
    · exact .inr ⟨_, _, h⟩
/-- d.get(k) -/
theorem de_qget1 {m1 : Md} {apos : Pos} (hu : X.A.units + 65 < cLine) (hm : (m1.isF == m.isF) = true) (ha : DE X fl W ow m1 a da) (hb : DE X fl W ow .f b db) (hM : M1 X a "get" apos b pos) :
    DE X fl W ow m (.Call (.Attribute a "get" apos) [b] [] pos) (fun dl => da dl >>= fun x => if isDct x then db dl >>= fun y => nx (dQGet1 x y) else .bad) := by
  obtain ⟨t, p, k1⟩ := ha
  obtain ⟨t', p', k2⟩ := hb
  refine ⟨_, pe_qget1 (by omega) p p' hM, fun av H0 hs dl st H Q e q => ?_⟩
  refine k1 av H0 hs dl st H _ e (q.bind.mono (fun d _ w v H1 s r => ?_) fun _ z => z)
  split at w
  · rename_i hd
    rw [pm_eq (m' := m) hm] at r
    obtain ⟨p, rfl, iq⟩ := dFind_isQ r.toI hd
    refine ⟨p, rfl, iq, k2 av H0 hs dl st H1 _ (e.sm s) (w.bind.mono (fun d' _ w' v' H2 s2 r2 => ?_) fun _ z => z.sm s)⟩
    have w2 := nx_asks w'
    unfold dQGet1 at w2
    split at w2
    · rename_i o ef
      obtain ⟨p', r', e1, g, rel⟩ := find_get (r.toI.sm s2) r2.toI ef
      cases e1
      refine ⟨r', g, w2 _ H2 (s.trans s2) (Rp.toM ?_)⟩
      cases r' <;> cases o <;> first | exact .non | exact rel | exact rel.elim
    · exact w2.elim
  · exact w.elim
/-- d.get(k, x) -/
theorem de_qget2 {m1 m2 : Md} {apos : Pos} (hu : X.A.units + 65 < cLine) (hm : (m1.isF == m.isF) = true) (hm2 : (m2.isF == m.isF) = true) (hmi : (m2 == .i) = false) (ha : DE X fl W ow m1 a da) (hb : DE X fl W ow .f b db) (hc : DE X fl W ow m2 c dc) (hM : M2 X a "get" apos b c pos) :
    DE X fl W ow m (.Call (.Attribute a "get" apos) [b, c] [] pos) (fun dl => da dl >>= fun x => if isDct x then db dl >>= fun y => dc dl >>= fun z => nx (dQGet2 x y z) else .bad) := by
  obtain ⟨t, p, k1⟩ := ha
  obtain ⟨t', p', k2⟩ := hb
  obtain ⟨t2, p2, k3⟩ := hc
  refine ⟨_, pe_qget2 (by omega) p p' p2 hM, fun av H0 hs dl st H Q e q => ?_⟩
  refine k1 av H0 hs dl st H _ e (q.bind.mono (fun d _ w v H1 s r => ?_) fun _ z => z)
  split at w
  · rename_i hd
    rw [pm_eq (m' := m) hm] at r
    obtain ⟨p, rfl, iq⟩ := dFind_isQ r.toI hd
    refine ⟨p, rfl, iq, k2 av H0 hs dl st H1 _ (e.sm s) (w.bind.mono (fun d' _ w' v' H2 s2 r2 => ?_) fun _ z => z.sm s)⟩
    refine k3 av H0 hs dl st H2 _ (e.sm (s.trans s2)) (w'.bind.mono (fun d3 _ w3 v3 H3 s3 r3 => ?_) fun _ z => z.sm (s.trans s2))
    have w4 := nx_asks w3
    unfold dQGet2 at w4
    split at w4
    · rename_i o ef
      have r3' := rpM_rp hmi r3
      rw [pm_eq (m' := m) hm2] at r3'
      obtain ⟨p', r', e1, g, rel⟩ := find_get ((r.toI.sm s2).sm s3) (r2.toI.sm s3) ef
      cases e1
      refine ⟨r', g, w4 _ H3 ((s.trans s2).trans s3) (Rp.toM ?_)⟩
      cases r' <;> cases o <;> first | exact r3' | exact rel | exact rel.elim
    · exact w4.elim
  · exact w.elim
/-- {} -/
theorem df_dnew : DF X fl W ow (.Dict [] [] pos) (fun _ => .ok (.dct [] [])) := by
  refine ⟨_, pe_dnewK, fun av H0 hs dl st H Q e q p hp => ?_⟩
  exact q p _ hp (same_new hp) (.dct (vk := _) (ns := _) (vv := _) (.k upd_same) .nil rfl .nil)
/-- x[k] = e, x an own dict -/
def stQ (i : Nat) (da db : Env → R D) : Env → Out := fun dl => match dl[i]? with
  | some (some (.dct ks vs)) => (da dl).out dl fun d => (db dl).out dl fun kd => if kdOk ks kd && decide (ks.length < sizeLine) then (match nk kd with | some k => .nx (dl.set i (some (dPut ks vs kd k d))) | none => .bad) else .bad
  | _ => .bad
theorem ds_qset {i : Nat} {x : Str} {p1 p2 : Pos} (hu : X.A.units + 65 < cLine) (ho : (ow[i]? == some true) = true) (hN : X.N[i]? = some x) (hv : Vis X.env.scope x) (h : DE X fl W ow .t e da) (hi : DE X fl W ow .t b db)
    (ha : ∀ v, assign (.Subscript (.Name x p1) b p2) X.env v = (do
      let ov ← holding [v] (eval (.Name x p1) X.env)
      let iv ← holding [v, ov] (eval b X.env)
      standAt p2
      holding [v, ov, iv] (setItem ov iv v)
      release [v, ov, iv] []) := by intro _; rfl)
    (hs : swapsWithSole [.Subscript (.Name x p1) b p2] e pos.line X.env = pure false := by rfl) (hw : swappedStores [.Subscript (.Name x p1) b p2] e X.env = pure none := by rfl)
    (h1 : (assignEach [.Subscript (.Name x p1) b p2] X.env).map (·.2) = [assign (.Subscript (.Name x p1) b p2) X.env] := by rfl) (hd : (x == ("__debug__" : Str)) = false := by decide) (hcd : (x == ("__classdict__" : Str)) = false := by decide) :
    DS X fl W ow (.Assign [.Subscript (.Name x p1) b p2] e pos) (stQ i da db) := by
  obtain ⟨t, p, k⟩ := h
  obtain ⟨t', p', k'⟩ := hi
  refine DS.mk (ps_asg p (pg_sub (pe_var hN hv hd hcd) p' (set_nq (by omega)) ha) hs hw h1) fun av H0 hs dl st H Dn e q => ?_
  unfold stQ at q
  split at q
  · rename_i ks vs el
    obtain ⟨a, z1, z2, z3, z4⟩ := e.on i _ el (by simpa using ho)
    cases z4 with
    | dct hd rk en rv =>
      refine k av H0 hs dl st H _ e ((asks_out e q).mono (fun d _ w v H1 s r => ?_) fun _ z => z)
      refine ⟨_, z1, k' av H0 hs dl st H1 _ (e.sm s) ((asks_out (e.sm s) w).mono (fun kd _ w2 v' H2 s2 r2 => ?_) fun _ z => z)⟩
      split at w2
      · rename_i ok
        rw [Bool.and_eq_true, decide_eq_true_eq] at ok
        obtain ⟨kk, ek⟩ := kd_nk ok.1
        rw [ek] at w2
        have S := s.trans s2
        have e1 := e.sm S
        have pa : avo av ow dl st a := .inr ⟨i, _, by simpa using ho, el, z1⟩
        have r : Rp (gx X fl) H1 (avo av ow dl st) v d := r
        have r2 : Rp (gx X fl) H2 (avo av ow dl st) v' kd := r2
        obtain ⟨u, np, _, ow'⟩ := dct_put (w := X.w) (hd.stay fun o z => S _ _ z) pa (rk.sm S) en (rv.sm S) r2 (r.sm s2) ek ok.1 ok.2
        exact ⟨a, _, rfl, np, w2 _ _ (e1.upd (by simpa using ho) el z1 ow')⟩
      · exact w2.elim
  · exact q.elim
/-! ### len, list, sorted -/
def dQLen : List D → R D
  | [d] => match dkv d with | some (ks, _) => .ok (.int ks.length) | none => .bad
  | _ => .bad
theorem o_qlen {G : Gx} : OpL G false (rLenQ G.K) dQLen := by
  intro H P P' vs l Q _ hP r0 h
  unfold dQLen at h
  split at h
  · split at h
    case h_2 => exact h.elim
    rename_i ed
    obtain ⟨v, rfl, r⟩ := paired1 r0
    obtain ⟨a, vk, ns, vv, rfl, d, rk, en, _⟩ := r.dct' ed
    exact ⟨a, vk, rfl, dct_keys d rk en, by rw [rk.length]; exact h _ H (.refl H) (.int _)⟩
  · exact h.elim
def dQList : List D → R D
  | [d] => match dkv d with | some (ks, _) => .ok (.lst ks) | none => .bad
  | _ => .bad
theorem o_qlist {G : Gx} : OpL G true (rListQ G.K) dQList := by
  intro H P P' vs l Q hk hP r0 h
  obtain rfl := hk rfl
  unfold dQList at h
  split at h
  · split at h
    case h_2 => exact h.elim
    rename_i ed
    obtain ⟨v, rfl, r⟩ := paired1 r0
    obtain ⟨a, vk, ns, vv, rfl, d, rk, en, _⟩ := r.dct' ed
    exact ⟨a, vk, rfl, dct_keys d rk en, fun p hp hz => h _ _ (same_new hp) (rp_new_lst hP hp rk (by rw [← rk.length]; exact hz))⟩
  · exact h.elim
theorem o_qlistF {G : Gx} : OpLF G (rListQ G.K) dQList := by
  intro H P vs l Q hP r0 h
  unfold dQList at h
  split at h
  · split at h
    case h_2 => exact h.elim
    rename_i ed
    obtain ⟨v, rfl, r⟩ := paired1 r0
    obtain ⟨a, vk, ns, vv, rfl, d, rk, en, _⟩ := r.dct' ed
    exact ⟨a, vk, rfl, dct_keys d rk en, fun p hp hz => h _ _ hp (same_new hp) (own_new hp rk (by rw [← rk.length]; exact hz))⟩
  · exact h.elim
/-- what sorted walks -/
def keysD : D → Option (List D)
  | .lst l => some l
  | .tup l => some l
  | .frz l => some l
  | .dct ks _ => some ks
  | .dcl ks _ => some ks
  | _ => none
def tup1 : PyData → Bool
  | .tuple (_ :: _) => true
  | _ => false
def noTup : PyData → Bool
  | .tuple _ => false
  | .none => false
  | _ => true
/-- data that can be sorted: alike, not too deep -/
def srtOk (l : List D) : Bool := l.all (fun a => l.all fun b => PySem.W.alike (py a) (py b)) && (l.all (fun a => tup1 (py a)) || l.all fun a => noTup (py a)) && l.all (fun a => decide ((py a).depth ≤ 50) && (py a).canLay0)
def srtD (l : List D) : List D := l.mergeSort (PySem.W.dataLe false py)
def dSorted : List D → R D
  | [d] => match keysD d with | some l => if srtOk l then .ok (.lst (srtD l)) else .bad | none => .bad
  | _ => .bad
theorem keysD_its {G : Gx} {H : Hp} {P : Addr → Prop} {v : V} {d : D} {l : List D} (r : RpI G H P v d) (e : keysD d = some l) : ∃ a xs, v = .ref a ∧ ItsQ G.K H a xs ∧ RpAll G H P xs l := by
  cases d with
  | lst l' =>
    cases e
    obtain ⟨a, xs, rfl, h, _, r⟩ := r.lst'
    exact ⟨a, xs, rfl, .inl (.of h), r⟩
  | tup l' =>
    cases e
    obtain ⟨a, xs, rfl, h, _, r⟩ := r.tup'
    exact ⟨a, xs, rfl, .inr (.inl h), r⟩
  | frz l' =>
    cases e
    obtain ⟨a, xs, rfl, h, _, r⟩ := r.frz'
    exact ⟨a, xs, rfl, .inl h.sq, r⟩
  | dct ks vs =>
    cases e
    obtain ⟨a, vk, ns, vv, rfl, d, rk, en, _⟩ := r.dct' rfl
    exact ⟨a, vk, rfl, .inr (.inr (dct_keys d rk en)), rk⟩
  | dcl ks vs =>
    cases e
    obtain ⟨a, vk, ns, vv, rfl, d, rk, en, _⟩ := r.dct' rfl
    exact ⟨a, vk, rfl, .inr (.inr (dct_keys d rk en)), rk⟩
  | _ => cases e
theorem rpAll_zip {G : Gx} {H : Hp} {P : Addr → Prop} : ∀ {xs : List V} {l : List D}, RpAll G H P xs l → ∀ b ∈ xs.zip l, Rp G H P b.1 b.2
  | _, _, .nil, b, hb => by simp at hb
  | _, _, .cons r rs, b, hb => by
    rw [List.zip_cons_cons] at hb
    rcases List.mem_cons.mp hb with rfl | hb
    · exact r
    · exact rpAll_zip rs b hb
theorem rpAll_of {G : Gx} {H : Hp} {P : Addr → Prop} : ∀ {bs : List (V × D)}, (∀ b ∈ bs, Rp G H P b.1 b.2) → RpAll G H P (bs.map (·.1)) (bs.map (·.2))
  | [], _ => .nil
  | b :: bs, h => .cons (h b (by simp)) (rpAll_of fun c hc => h c (by simp [hc]))
theorem alike_all {l : List D} (h : (l.all fun a => l.all fun b => PySem.W.alike (py a) (py b)) = true) : PySem.W.AllAlike (l.map py) := by
  intro d hd d' hd'
  obtain ⟨a, ha, rfl⟩ := List.mem_map.mp hd
  obtain ⟨b, hb, rfl⟩ := List.mem_map.mp hd'
  exact List.all_eq_true.mp (List.all_eq_true.mp h a ha) b hb
theorem sortable_all {l : List D} (h : (l.all (fun a => tup1 (py a)) || l.all fun a => noTup (py a)) = true) : PySem.W.Sortable (l.map py) := by
  rw [Bool.or_eq_true] at h
  rcases h with h | h
  · refine .inl fun d hd => ?_
    obtain ⟨a, ha, rfl⟩ := List.mem_map.mp hd
    have := List.all_eq_true.mp h a ha
    generalize py a = p at this
    cases p with
    | tuple l => cases l with
      | nil => simp [tup1] at this
      | cons x r => exact ⟨x, r, rfl⟩
    | _ => simp [tup1] at this
  · refine .inr fun d hd => ?_
    obtain ⟨a, ha, rfl⟩ := List.mem_map.mp hd
    have := List.all_eq_true.mp h a ha
    generalize py a = p at this
    cases p <;> simp [noTup] at this <;> exact ⟨(fun z => nomatch z), (fun _ z => nomatch z)⟩
theorem srt_run {G : Gx} {H : Hp} {P : Addr → Prop} {v : V} {d : D} {l : List D} {Q : VK} (r : RpI G H P v d) (e : keysD d = some l) (ok : srtOk l = true) (h : ∀ p vs, H p = none → vs.length ≤ sizeLine → RpAll G H P vs (srtD l) → Q (.ref p) (upd H p (.lst vs))) : rSortedQ G.K (β := D) py [v] H Q := by
  obtain ⟨a, xs, rfl, q, rx⟩ := keysD_its r e
  unfold srtOk at ok
  rw [Bool.and_eq_true, Bool.and_eq_true] at ok
  obtain ⟨⟨o1, o2⟩, o3⟩ := ok
  have hl := rx.length
  have m1 : (xs.zip l).map (·.1) = xs := List.map_fst_zip (by omega)
  have m2 : (xs.zip l).map (·.2) = l := List.map_snd_zip (by omega)
  have m3 : (xs.zip l).map (fun b => py b.2) = l.map py := by rw [← m2, List.map_map, m2]; rfl
  have mem : ∀ b ∈ xs.zip l, b.2 ∈ l := fun b hb => by rw [← m2]; exact List.mem_map_of_mem hb
  have o3' : ∀ b ∈ xs.zip l, (py b.2).depth ≤ 50 ∧ (py b.2).canLay0 = true := fun b hb => by
    have := List.all_eq_true.mp o3 b.2 (mem b hb)
    rw [Bool.and_eq_true, decide_eq_true_eq] at this
    exact this
  have zr := rpAll_zip rx
  refine ⟨a, xs.zip l, rfl, by rw [m1]; exact q, fun b hb => (zr b hb).dp (o3' b hb).2, by rw [m3]; exact alike_all o1, by rw [m3]; exact sortable_all o2, fun b hb => (o3' b hb).1, fun p hp hz => ?_⟩
  have es : srtD l = (srtQ py (xs.zip l)).map (·.2) := by
    unfold srtD srtQ
    have := List.map_mergeSort (r := PySem.W.dataLe false fun b : V × D => py b.2) (s := PySem.W.dataLe false py) (f := fun b : V × D => b.2) (l := xs.zip l) (fun a _ b _ => rfl)
    rw [this, m2]
  refine h p _ hp ?_ ?_
  · rw [List.length_map]
    unfold srtQ
    rw [List.length_mergeSort]
    exact hz
  · rw [es]
    refine rpAll_of fun b hb => zr b ?_
    unfold srtQ at hb
    exact (List.mergeSort_perm _ _).mem_iff.mp hb
theorem o_sorted {G : Gx} : OpL G true (rSortedQ G.K (β := D) py) dSorted := by
  intro H P P' vs l Q hk hP r0 h
  obtain rfl := hk rfl
  unfold dSorted at h
  split at h
  · obtain ⟨v, rfl, r⟩ := paired1 r0
    split at h
    · rename_i l e
      split at h
      · rename_i ok
        exact srt_run r e ok fun p vs hp hz rv => h _ _ (same_new hp) (rp_new_lst hP hp rv (by rw [← rv.length]; exact hz))
      · exact h.elim
    · exact h.elim
  · exact h.elim
theorem o_sortedF {G : Gx} : OpLF G (rSortedQ G.K (β := D) py) dSorted := by
  intro H P vs l Q hP r0 h
  unfold dSorted at h
  split at h
  · obtain ⟨v, rfl, r⟩ := paired1 r0
    split at h
    · rename_i l e
      split at h
      · rename_i ok
        exact srt_run r e ok fun p vs hp hz rv => h _ _ hp (same_new hp) (own_new hp rv (by rw [← rv.length]; exact hz))
      · exact h.elim
    · exact h.elim
  · exact h.elim
theorem df_callB {x : Str} {id : String} {r : List V → Hp → VK → Prop} {f : List D → R D} {p : Pos} (hc : CallR X (.builtin id) r) (ho : OpLF (gx X fl) r f) (hn : X.mg x = none) (hv : bootBuiltins x = some (.builtin id)) (hg : Gl X x) (ha : DAi X fl W ow .i (e :: es) ds)
    (hn2 : x ≠ "__name__" := by decide) (hdb : (x == ("__debug__" : Str)) = false := by decide)
    (he : starEach (e :: es) X.env = (false, eval e X.env) :: starEach es X.env := by rfl) (hpl : (backTo pos (starEach es X.env)).any (·.1) = false := by rfl) : DF X fl W ow (.Call (.Name x p) (e :: es) [] pos) (fun dl => ds dl >>= fun l => nx (f l)) :=
  df_call (fun _ q => pe_callB hc hg hn hv q hn2 hdb he hpl) ho ha
end
end DL

/-! The data layer: dicts that are walked; a display with one pair. -/
namespace DL
open PySem PySem.Spec PyProof.Rows L2
/-- the keys of a frozen dict of nested keys -/
def Itq (w : World) (d : Addr) (o : Obj) (xs : List (NestedKey × Addr × V)) : It where
  go i H := H d = some (.frz o (.ext (dq w d xs))) ∧ i < xs.length
  yld i H x H' := H' = H ∧ ∃ y, xs[i]? = some y ∧ x = .ref y.2.1
  stop i H := H d = some (.frz o (.ext (dq w d xs))) ∧ xs.length ≤ i
theorem frzQ {X : Cx} {pins : List (Addr × Obj)} {σ : L2.St} {H : Hp} {s : Shared} {w : World} {d : Addr} {o : Obj} {xs : List (NestedKey × Addr × V)} (I : Inv X pins σ H s) (h : H d = some (.frz o (.ext (dq w d xs)))) :
    (d == sysModules) = false ∧ s.heap.get? d = some o ∧ o.ExactDict ∧ ∃ (es : Array DictEntry) (n : Nat), o.data = .dict es n ∧ es.size = xs.length ∧
      ∀ (i : Nat) (y : NestedKey × Addr × V), xs[i]? = some y → ∃ en, es[i]? = some en ∧ en.key = .ref y.2.1 := by
  obtain ⟨g, ⟨o', es, n, ys, h1, h2, h3, r, h4, _, h6, _⟩, _⟩ := I.hok d _ h
  rw [g] at h1
  cases h1
  have hl := Paired.length r
  have hs : es.size = ys.length := by rw [← Array.length_toList, h4, List.length_map]
  refine ⟨h6, g, h2, es, n, h3, by omega, fun i y hy => ?_⟩
  obtain ⟨z, hz, e1, e2, _⟩ := paired_get r hy
  refine ⟨dqE w z, ?_, ?_⟩
  · rw [← Array.getElem?_toList, h4, List.getElem?_map, hz]; rfl
  · show Value.ref z.2.1 = _
    rw [e2]
theorem turn_keysQ {prg : Program} {w w' : World} {K : PySem.W.Frag} {tg : Expr} {d : Addr} {o : Obj} {es : Array DictEntry} {n : Nat} {xs : List (NestedKey × Addr × V)} (J : Addr) (hdat : o.data = .dict es n) :
    Turn prg w K tg (Itq w' d o xs) [J] J (fun i h => h.IsKeyIter J d i xs.length n) where
  mem := List.mem_singleton.mpr rfl
  obj := fun i h q b hb => by
    obtain rfl := List.mem_singleton.mp hb
    obtain ⟨oi, z1, _, z2⟩ := q
    refine ⟨oi, z1, fun v z => ?_⟩
    rw [z2] at z; cases z
  keep := fun i h h' q k => q.at fun oi z => k J (List.mem_singleton.mpr rfl) oi z
  item := by
    intro X eP eW eK hc i pins s σ H E I hf q hg
    subst eP eW eK
    obtain ⟨hfz, hi⟩ := hg
    have F0 := hf J (List.mem_singleton.mpr rfl)
    obtain ⟨g0, g1, g2, g3, g4, g5⟩ := F0
    obtain ⟨_, hgo, _, es', n', hdt, hsz, ent⟩ := frzQ I hfz
    obtain ⟨rfl, rfl⟩ := dict_ep hdat hdt
    obtain ⟨y, hy⟩ : ∃ y, xs[i]? = some y := ⟨xs[i], List.getElem?_eq_getElem hi⟩
    obtain ⟨en, he, hk⟩ := ent i y hy
    refine next_key_item q hgo hdt hsz he fun h2 q2 sb => ?_
    have I2 : Inv X pins σ H { s with heap := h2 } := I.turned (t' := s.toks) (fun b z hb y => (sb.2 b hb).trans y) g0 g1 g3 g4 g5
    obtain ⟨oi, z1, z2, z3⟩ := id q2
    refine ⟨en.key, rfl, go_of (s := { s with heap := h2 }) z1 z2 z3 (by decide) ⟨.ref y.2.1, H, I2, hk, ⟨rfl, y, hy, rfl⟩, q2, fun b hb => (hf b hb).1⟩⟩
  done := by
    intro X eP eW eK hc i pins s σ H E I hf q hg
    subst eP eW eK
    have F0 := hf J (List.mem_singleton.mpr rfl)
    obtain ⟨g0, g1, g2, g3, g4, g5⟩ := F0
    obtain ⟨_, hgo, _, es', n', hdt, hsz, _⟩ := frzQ I hg.1
    obtain ⟨rfl, rfl⟩ := dict_ep hdat hdt
    exact next_key_end (I.ok.hd hc) q hgo hdt hsz hg.2 fun h2 sb => ⟨rfl, I.turned (t' := s.toks) (fun b z hb y => sb b z hb y) g0 g1 g3 g4 g5⟩
  self := fun A i s Q E q h => wpAny_pyIter_keyiter q h
def iKeysQ (td : TE) : TI := fun σ H R => td σ H fun x H1 => ∃ d o, x = .ref d ∧ ((∃ kvs, H1 d = some (.frz o (.dK kvs)) ∧ R (Itk d o kvs) H1) ∨ ∃ w xs, H1 d = some (.frz o (.ext (dq w d xs))) ∧ R (Itq w d o xs) H1)
theorem pi_keysQ {X : Cx} {tg e : Expr} {td : TE} (he : PE X e td) : PI X tg e (iKeysQ td) := by
  refine ⟨fun pins s σ H R I h => ?_⟩
  refine thn (he.run pins s σ H _ I h) fun u s1 z => ?_
  obtain ⟨x, H1, I1, rx, d, o, rfl, z⟩ := z
  obtain rfl : u = Value.ref d := rx
  rcases z with ⟨kvs, hf, q⟩ | ⟨w, xs, hf, q⟩
  · obtain ⟨h1, h2, h3, es, n, vs, h4, h5, _⟩ := I1.frzK hf
    refine iter_keys h1 h2 h3 h4 (pi_one (tk := s1.toks) I1 _ (turn_keys _ h4) ?_ q)
    exact ⟨_, Heap.get?_push_size _ rfl, rfl, by rw [h5] <;> rfl⟩
  · obtain ⟨h1, h2, h3, es, n, h4, h5, _⟩ := frzQ I1 hf
    refine iter_keys h1 h2 h3 h4 (pi_one (tk := s1.toks) I1 _ (turn_keysQ _ h4) ?_ q)
    exact ⟨_, Heap.get?_push_size _ rfl, rfl, by rw [h5] <;> rfl⟩
/-! ### freezing -/
/-- from here on the dict at d is not changed any more -/
def tFrz (t : TS) : TS := fun Dn σ H => (∃ d u, H d = some u ∧ L2.Mut (some u) ∧ ∀ od, t Dn σ (L2.upd H d (.frz od u))) ∨ t Dn σ H
theorem ps_frz {X : Cx} {st : Stmt} {t : TS} (h : PS X st t) : PS X st (tFrz t) := by
  refine ⟨fun pins s σ H D I q => ?_⟩
  rcases q with ⟨d, u, hd, mu, q⟩ | q
  · obtain ⟨od, I1⟩ := I.lock hd mu
    exact h.run pins s σ _ D I1 (q od)
  · exact h.run pins s σ _ D I q
section
variable {X : Cx} {fl : Str → List Str} {W : WX} {ow : List Bool} {m : Md} {e a b c tg iter : Expr} {da db : Env → R D} {pos : Pos} {s : Stmt} {d1 : Env → Out}
/-- the dict in the own slot i is walked: it is frozen first -/
def frzO (i : Nat) (d1 : Env → Out) : Env → Out := fun dl => match dl[i]? with
  | some (some (.dct ks vs)) => d1 (dl.set i (some (.dcl ks vs)))
  | some (some (.dcl _ _)) => d1 dl
  | _ => .bad
theorem ds_frz {i : Nat} (ho : (ow[i]? == some true) = true) (h : DS X fl W ow s d1) : DS X fl W ow s (frzO i d1) := by
  refine DS.mk (ps_frz h) fun av H0 hs dl st H Dn er q => ?_
  unfold frzO at q
  split at q
  · rename_i ks vs el
    obtain ⟨a, z1, z2, z3, z4⟩ := er.on i _ el (by simpa using ho)
    cases z4 with
    | dct hd rk en rv =>
      have pa : avo av ow dl st a := .inr ⟨i, _, by simpa using ho, el, z1⟩
      have mv : ∀ u o', H a = some u → isM u = true → Mv H (avo av ow dl st) (L2.upd H a o') (avo av ow dl st) := fun u o' hu hm b o h n => by
        have hb : b ≠ a := fun z => by subst z; rw [hu] at h; cases h; exact n hm pa
        exact ⟨by rw [upd_ne hb]; exact h, n⟩
      cases hd with
      | k h => exact .inl ⟨a, _, h, True.intro, fun od => ⟨av, H0, hs, _, er.upd (by simpa using ho) el z1 (.dcl (.k upd_same) (rk.mv (mv _ _ h rfl)) en (rv.mv (mv _ _ h rfl))), q⟩⟩
      | q h n ok => exact .inl ⟨a, _, h, True.intro, fun od => ⟨av, H0, hs, _, er.upd (by simpa using ho) el z1 (.dcl (.q upd_same n ok) (rk.mv (mv _ _ h rfl)) en (rv.mv (mv _ _ h rfl))), q⟩⟩
  · exact .inr ⟨av, H0, hs, dl, er, q⟩
  · exact q.elim
/-- an own dict that is frozen -/
def gvL (i : Nat) : Env → R D := fun dl => match dl[i]? with
  | some (some (.dcl ks vs)) => .ok (.dcl ks vs)
  | _ => .bad
theorem de_ownL {i : Nat} {x : Str} (ho : (ow[i]? == some true) = true) (hN : X.N[i]? = some x) (hv : Vis X.env.scope x) (hd : (x == ("__debug__" : Str)) = false := by decide) (hcd : (x == ("__classdict__" : Str)) = false := by decide) : DE X fl W ow m (.Name x pos) (gvL i) := by
  refine ⟨_, pe_var hN hv hd hcd, fun av H0 hs dl st H Q e q => ?_⟩
  unfold gvL at q
  split at q
  · rename_i ks vs el
    obtain ⟨a, z1, z2, z3, z4⟩ := e.on i _ el (by simpa using ho)
    cases z4 with
    | dcl h rk en rv => exact ⟨_, z1, q _ H (.refl H) ((Rp.dcl h rk en rv).le fun b z => pm_le b z).toM⟩
  · exact q.elim
def dKeys : D → R (List D)
  | .dcl ks _ => .ok ks
  | _ => .bad
theorem js_keys {G : Gx} {P : Addr → Prop} {H : Hp} {a : Addr} {o : Obj} {kvs : List (Key × V)} {l : List D} (h : H a = some (.frz o (.dK kvs))) (r : RpAll G H P (kvs.map fun p => kV p.1) l) : JStep G (Itk a o kvs) l P H := by
  have hl := r.length
  rw [List.length_map] at hl
  refine ⟨fun i d e => ⟨⟨h, ?_⟩, fun x H3 y => ?_⟩, fun i hi => ⟨h, by omega⟩⟩
  · have := (List.getElem?_eq_some_iff.mp e).1
    omega
  · obtain ⟨rfl, k, v, ek, rfl⟩ := y
    refine ⟨.refl _, ?_⟩
    obtain ⟨v', e1, r1⟩ := r.get e
    rw [List.getElem?_map, ek] at e1
    cases e1
    exact r1
theorem js_keysQ {G : Gx} {P : Addr → Prop} {H : Hp} {w : World} {a : Addr} {o : Obj} {xs : List (NestedKey × Addr × V)} {l : List D} (h : H a = some (.frz o (.ext (dq w a xs)))) (r : RpAll G H P (xs.map fun p => .ref p.2.1) l) : JStep G (Itq w a o xs) l P H := by
  have hl := r.length
  rw [List.length_map] at hl
  refine ⟨fun i d e => ⟨⟨h, ?_⟩, fun x H3 y => ?_⟩, fun i hi => ⟨h, by omega⟩⟩
  · have := (List.getElem?_eq_some_iff.mp e).1
    omega
  · obtain ⟨rfl, k, ek, rfl⟩ := y
    refine ⟨.refl _, ?_⟩
    obtain ⟨v', e1, r1⟩ := r.get e
    rw [List.getElem?_map, ek] at e1
    cases e1
    exact r1
/-- for k in d, d frozen -/
theorem dh_keys (h : DE X fl W ow .t iter da) : DH X fl W ow tg iter (fun dl => da dl >>= dKeys) := by
  obtain ⟨t, p, k⟩ := h
  refine ⟨_, pi_keysQ p, fun av H0 hs dl st H Rr e q => k av H0 hs dl st H _ e (q.bind.mono (fun d _ w v H1 s r => ?_) fun _ z => z)⟩
  have r : Rp (gx X fl) H1 (avo av ow dl st) v d := r
  cases d with
  | dcl ks vs =>
    cases r with
    | @dcl a ob vk ns vv _ _ hd rk en rv =>
      have zr := rpAll_zip rk
      have hl := rk.length
      have m1 : (vk.zip ks).map (·.1) = vk := List.map_fst_zip (by omega)
      have m2 : (vk.zip ks).map (·.2) = ks := List.map_snd_zip (by omega)
      have back : ∀ u P H2, (∀ p ∈ (V.ref a, D.lk ob u) :: vk.zip ks, Rp (gx X fl) H2 P p.1 p.2) → H2 a = some (.frz ob u) ∧ RpAll (gx X fl) H2 P vk ks := fun u P H2 hh => by
        have q1 := hh (V.ref a, D.lk ob u) (by simp)
        have q2 := rpAll_of (bs := vk.zip ks) fun b hb => hh b (List.mem_cons_of_mem _ hb)
        rw [m1, m2] at q2
        cases q1 with
        | lk h1 => exact ⟨h1, q2⟩
      have there : ∀ u, H1 a = some (.frz ob u) → ∀ p ∈ (V.ref a, D.lk ob u) :: vk.zip ks, Rp (gx X fl) H1 (avo av ow dl st) p.1 p.2 := fun u hu p hp => by
        rcases List.mem_cons.mp hp with rfl | hp
        · exact .lk hu
        · exact zr p hp
      cases hd with
      | @k kvs hk => exact ⟨a, ob, rfl, .inl ⟨_, hk, w _ H1 _ s (there _ hk) fun P H2 hh => js_keys (back _ P H2 hh).1 (back _ P H2 hh).2⟩⟩
      | @q w' xs hk hn hok => exact ⟨a, ob, rfl, .inr ⟨_, _, hk, w _ H1 _ s (there _ hk) fun P H2 hh => js_keysQ (back _ P H2 hh).1 (back _ P H2 hh).2⟩⟩
  | _ => exact w.elim
/-! ### {k: v} -/
def tD1 (K : PySem.W.Frag) (w : World) (tk tv : TE) : TE := fun σ H Q => ∀ p, H p = none → tk σ (L2.upd H p (.dK [])) fun y H1 => tv σ H1 fun v H2 => ∃ b k, y = .ref b ∧ NkV K H2 y k ∧ nkOk k ∧ H2 p = some (.dK []) ∧ Q (.ref p) (L2.upd H2 p (.ext (dq w p [(k, b, v)])))
theorem pe_d1 {tk tv : TE} (hu : X.A.units + 11 < cLine) (hk : PE X a tk) (hv : PE X b tv) : PE X (.Dict [some a] [b] pos) (tD1 X.K X.w tk tv) := by
  refine ⟨fun pins s σ H Q I h => ?_⟩
  rw [arm_eval_Dict]
  rw [show (evalEachOpt [some a] X.env).zip ((evalEach [b] X.env).map fun v => do let x ← v; standAt pos; pure x) = [(eval a X.env, (do let x ← eval b X.env; standAt pos; pure x : Sem Value))].map fun p => (some p.1, p.2) from rfl]
  rw [dictDisplay_pairs _ (by simp) (by simp)]
  have hp := I.hok.fresh (Nat.le_refl s.heap.objs.size)
  have I1 : Inv X pins σ (L2.upd H s.heap.objs.size (.dK [])) { s with heap := s.heap.push { cls := .type "dict", data := .dict #[] } } := I.laid (a := s.heap.objs.size) (o := .dK []) (t' := s.toks) (fun _ _ q => Heap.get?_push_of_some _ q) (Nat.le_refl _) (dk_empty s.heap I.big)
  refine wpAny_bind (wpAny_standAt (wpAny_bind ?_))
  refine wpAny_subDictH (knd := nestedKind X.prog X.w) (show X.A.units + 8 < cLine by omega) (by simp) ?_
  simp only [evalPairs]
  refine wpAny_bind (thn (hk.run pins _ σ _ _ I1 (h _ hp)) fun kv s1 z => ?_)
  obtain ⟨y, H1, I2, ry, q1⟩ := z
  refine wpAny_bind (wpAny_holding (wpAny_bind (thn (hv.run pins s1 σ H1 _ I2 q1) fun vv s2 z => wpAny_bind (wpAny_standAt (wpAny_pure ?_)))))
  obtain ⟨v, H2, I3, rv, b', k, rfl, nv, ok, hpp, q⟩ := z
  refine wpAny_bind (wpAny_holding (wpAny_pure (wpAny_pure ?_)))
  cases (show kv = Value.ref b' from ry)
  obtain ⟨hd, dd⟩ := dk_nil I3 (.inl hpp)
  refine ⟨[(k, b', vv)], ⟨rfl, rfl, ⟨nv.is I3 rfl, ok.2⟩, True.intro⟩, dd, fun h' tk' dd' hs => wpAny_pure ?_⟩
  have d' : dq X.w s.heap.objs.size [(k, b', v)] h' := dq_of (P := X.prog) (ys := [(k, b', vv)]) (.cons ⟨rfl, rfl, rv⟩ .nil) dd' hd (by simp [sizeLine_eq])
  obtain ⟨o, _, _, _, ho, _⟩ := id d'
  exact ⟨.ref s.heap.objs.size, _, d_write I3 (by rw [hpp]; exact True.intro) hs ⟨o, ho⟩ (dq_ok d'), rfl, q⟩
def mkD1 (kd vd : D) : R D := match kd with
  | .tup _ => if kdOk [] kd then .ok (.dct [kd] [vd]) else .bad
  | _ => .bad
theorem df_d1 (hu : X.A.units + 65 < cLine) (ha : DE X fl W ow .t a da) (hb : DE X fl W ow .t b db) : DF X fl W ow (.Dict [some a] [b] pos) (fun dl => da dl >>= fun x => db dl >>= fun y => mkD1 x y) := by
  obtain ⟨t, p, k1⟩ := ha
  obtain ⟨t', p', k2⟩ := hb
  refine ⟨_, pe_d1 (by omega) p p', fun av H0 hs dl st H Q e q p hp => ?_⟩
  have e1 := e.more (u := .dK []) hp
  have s1 := same_new (o := HO.dK []) hp
  refine k1 _ H0 hs dl st _ _ e1 (q.bind.mono (fun kd _ w v H1 s r => ?_) fun c z => z.sm s1)
  refine k2 _ H0 hs dl st _ _ (e1.sm s) (w.bind.mono (fun vd _ w2 v' H2 s2 r2 => ?_) fun c z => z.sm (s1.trans s))
  have r : Rp (gx X fl) H1 (avo (fun b => av b ∨ b = p) ow dl st) v kd := r
  have r2 : Rp (gx X fl) H2 (avo (fun b => av b ∨ b = p) ow dl st) v' vd := r2
  rw [avo_more] at r r2
  unfold mkD1 at w2
  split at w2
  case h_2 => exact w2.elim
  rename_i l
  split at w2
  case isFalse => exact w2.elim
  rename_i ok
  obtain ⟨kk, ek⟩ := kd_nk ok
  have hb : ∃ b, v = .ref b := by cases r; exact ⟨_, rfl⟩
  obtain ⟨b, rfl⟩ := hb
  have hok : nkOk kk := by
    unfold kdOk at ok
    rw [ek] at ok
    exact nkOk_of (by simpa using ok)
  have S := s.trans s2
  have hpp : H2 p = some (.dK []) := S _ _ upd_same
  have rs := r.sm s2
  have mv : Mv H2 (fun b => avo av ow dl st b ∨ b = p) (L2.upd H2 p (.ext (dq X.w p [(kk, b, v')]))) (fun b => avo av ow dl st b ∨ b = p) := fun c o z n => by
    have hc : c ≠ p := fun y => by subst y; rw [hpp] at z; cases z; exact n rfl (.inr rfl)
    exact ⟨by rw [upd_ne hc]; exact z, n⟩
  refine ⟨b, kk, rfl, rs.nkV ek, hok, hpp, w2 p _ hp (fun c o z => ?_) (.dct (vk := _) (ns := _) (vv := _) (.q (xs := [(kk, b, v')]) upd_same (by simp) (fun x hx => ?_)) (.cons (rs.mv mv) .nil) ?_ (.cons (r2.mv mv) .nil))⟩
  · have hc : c ≠ p := fun y => by subst y; rw [hp] at z; cases z
    rw [upd_ne hc]
    exact S _ _ (s1 _ _ z)
  · obtain rfl := List.mem_singleton.mp hx
    exact hok
  · simp [nkAll, ek]
theorem op_nin65 (hu : X.A.units + 65 < cLine) : OpR X (compareOp .In) (rNIn X.K) := op_nin (by omega)
theorem op_nnotIn65 (hu : X.A.units + 65 < cLine) : OpR X (compareOp .NotIn) (rNNotIn X.K) := op_nnotIn (by omega)
def eD0 : Env → R D := fun _ => .ok (.dct [] [])
def eD1 (da db : Env → R D) : Env → R D := fun dl => da dl >>= fun x => db dl >>= fun y => mkD1 x y
def sKeys (da : Env → R D) : Env → R (List D) := fun dl => da dl >>= dKeys
def eQix (da db : Env → R D) : Env → R D := fun dl => da dl >>= fun x => db dl >>= fun y => nx (dQIx x y)
end
end DL

/-! What the defs of the law and of its program compute, printed by gen.py. -/
namespace Lw
open PySem PySem.Spec PyProof.Rows L2 DL

def fl0 : Str → List Str := fun c => if c = "Algebra" then (["n", "operations"] : List Str) else []

def sbl : List (Str × Str × Bool) := [("InvalidAlgebra", "InvalidAlgebra", true), ("InvalidJoining", "InvalidAlgebra", false), ("InvalidThings", "InvalidAlgebra", false), ("UnknownName", "InvalidAlgebra", false), ("InvalidAlgebra", "InvalidJoining", false), ("InvalidJoining", "InvalidJoining", true), ("InvalidThings", "InvalidJoining", false), ("UnknownName", "InvalidJoining", false), ("InvalidAlgebra", "InvalidThings", false), ("InvalidJoining", "InvalidThings", false), ("InvalidThings", "InvalidThings", true), ("UnknownName", "InvalidThings", false), ("InvalidAlgebra", "UnknownName", false), ("InvalidJoining", "UnknownName", false), ("InvalidThings", "UnknownName", false), ("UnknownName", "UnknownName", true)]
abbrev sbx : Str → Str → Option Bool := sbOf sbl

def den_power : DL.Env → Out := (seqO (xSet 2 (cst (.int 1)))
 (seqO (xFor (sRg1 (gv 1)) (sv 3)
 (seqO (agD 2 dMulI (gv 0))
 Out.nx))
 (seqO (xRet (gv 2))
 Out.nx)))
def F_power : List D → R D := fnD 2 4 den_power

def den_is_label : DL.Env → Out := (seqO (xRet (eAnd (eChain (dCmp fun i j => decide (i ≤ j)) (dCmp fun i j => decide (i ≤ j)) (cst (.int 1)) (eCall dLen (eCons (gv 0) eNil)) (cst (.int 8))) (eCall dAll (eCons (eLc [1] (sSeq (gv 0)) (sv 1) tYes' (eBin (dIn false) (gv 1) (cst (.str "abcdefghijklmnopqrstuvwxyz")))) eNil))))
 Out.nx)
def F_is_label : List D → R D := fnD 1 2 den_is_label

def den_index_of : DL.Env → Out := (seqO (xSet 2 (cst (.int 0)))
 (seqO (xFor (sSeq (gv 1)) (sv 3)
 (seqO (xSet 2 (eBin dAdd (eBin dMul (gv 2) (gv 0)) (gv 3)))
 Out.nx))
 (seqO (xRet (gv 2))
 Out.nx)))
def F_index_of : List D → R D := fnD 2 4 den_index_of

def den_tuples : DL.Env → Out := (seqO (xSet 2 (eLst (eCons (eTup eNil) eNil)))
 (seqO (xFor (sRg1 (gv 1)) (sv 3)
 (seqO (xSet 2 (eLc2 [4, 5] (sSeq (gv 2)) (sv 4) tYes' (sRg1 (gv 0)) [5] (sv 5) tYes' (eBin dAdd (gv 4) (eTup (eCons (gv 5) eNil)))))
 Out.nx))
 (seqO (xRet (gv 2))
 Out.nx)))
def F_tuples : List D → R D := fnD 2 6 den_tuples

def den_are_things : DL.Env → Out := (seqO (xRet (eCall dAll (eCons (eLc [2] (sSeq (gv 1)) (sv 2) tYes' (eChain (dCmp fun i j => decide (i ≤ j)) (dCmp fun i j => decide (i < j)) (cst (.int 0)) (gv 2) (gv 0))) eNil)))
 Out.nx)
def F_are_things : List D → R D := fnD 2 3 den_are_things

def den_check_operation_of : DL.Env → Out := (seqO (xIf (tCmp' dNe (eCall dLen (eCons (gv 1) eNil)) (cst (.int 3))) (seqO (xRaise "InvalidAlgebra")
 Out.nx)
 Out.nx)
 (seqO (xAsg (gv 1) (unpk 3 (gCons' (sv 2) (gCons' (sv 3) (gCons' (sv 4) gNil')))))
 (seqO (xIf (tOr' (tNot' (tVal (eDef 1 F_is_label (eCons (gv 2) eNil)))) (tNot' (tChain' (dCmp fun i j => decide (i ≤ j)) (dCmp fun i j => decide (i ≤ j)) (cst (.int 0)) (gv 3) (cst (.int 2))))) (seqO (xRaise "InvalidAlgebra")
 Out.nx)
 Out.nx)
 (seqO (xIf (tOr' (tCmp' dNe (eCall dLen (eCons (gv 4) eNil)) (eDef 2 F_power (eCons (gv 0) (eCons (gv 3) eNil)))) (tNot' (tVal (eDef 2 F_are_things (eCons (gv 0) (eCons (gv 4) eNil)))))) (seqO (xRaise "InvalidAlgebra")
 Out.nx)
 Out.nx)
 Out.nx))))
def F_check_operation_of : List D → R D := fnD 2 5 den_check_operation_of

def den_Algebra___init__ : DL.Env → R (List D) := (preI (xIf (tOr' (tNot' (tChain' (dCmp fun i j => decide (i ≤ j)) (dCmp fun i j => decide (i ≤ j)) (cst (.int 1)) (gv 1) (cst (.int 8)))) (tCmp' (dCmp fun i j => decide (j < i)) (eCall dLen (eCons (gv 2) eNil)) (cst (.int 4)))) (seqO (xRaise "InvalidAlgebra")
 Out.nx)
 Out.nx)
 (preI (xSet 3 (eLst eNil))
 (preI (xFor (sSeq (gv 2)) (sv 4)
 (seqO (xExpr (eDef 2 F_check_operation_of (eCons (gv 1) (eCons (gv 4) eNil))))
 (seqO (apD 3 (eBin dIx (gv 4) (cst (.int 0))))
 Out.nx)))
 (preI (xIf (tCmp' (dCmp fun i j => decide (i < j)) (eOnce (gv 3)) (eCall dLen (eCons (gv 3) eNil))) (seqO (xRaise "InvalidAlgebra")
 Out.nx)
 Out.nx)
 (tailI [(gv 1), (eCall dTuple (eCons (eLc [5, 6, 7] (sSeq (gv 2)) (unpk 3 (gCons' (sv 5) (gCons' (sv 6) (gCons' (sv 7) gNil')))) tYes' (eTup (eCons (gv 5) (eCons (gv 6) (eCons (eCall dTuple (eCons (gv 7) eNil)) eNil))))) eNil))])))))
def F_Algebra___init__ : List D → R D := inD "Algebra" 2 8 den_Algebra___init__

def den_Algebra_operation : DL.Env → Out := (seqO (xFor (sSeq (eFld "Algebra" (["n", "operations"] : List Str) "operations" (gv 0))) (sv 2)
 (seqO (xIf (tCmp' dEq (eBin dIx (gv 2) (cst (.int 0))) (gv 1)) (seqO (xRet (gv 2))
 Out.nx)
 Out.nx)
 Out.nx))
 (seqO (xRaise "UnknownName")
 Out.nx))
def F_Algebra_operation : List D → R D := fnD 2 3 den_Algebra_operation

def den_Algebra_value : DL.Env → Out := (seqO (xAsg (eMet "Algebra" 2 F_Algebra_operation (gv 0) (eCons (gv 1) eNil)) (unpk 3 (gCons' (sv 3) (gCons' (sv 4) (gCons' (sv 5) gNil')))))
 (seqO (xIf (tOr' (tCmp' dNe (eCall dLen (eCons (gv 2) eNil)) (gv 4)) (tNot' (tVal (eDef 2 F_are_things (eCons (eFld "Algebra" (["n", "operations"] : List Str) "n" (gv 0)) (eCons (gv 2) eNil)))))) (seqO (xRaise "InvalidThings")
 Out.nx)
 Out.nx)
 (seqO (xRet (eBin dIx (gv 5) (eDef 2 F_index_of (eCons (eFld "Algebra" (["n", "operations"] : List Str) "n" (gv 0)) (eCons (gv 2) eNil)))))
 Out.nx)))
def F_Algebra_value : List D → R D := fnD 3 6 den_Algebra_value

def den_least_of : DL.Env → Out := (seqO (whD (tCmp' dNe (eBin dIx (gv 0) (gv 1)) (gv 1)) (seqO (xSet 1 (eBin dIx (gv 0) (gv 1)))
 Out.nx) fuel)
 (seqO (xRet (gv 1))
 Out.nx))
def F_least_of : List D → R D := fnD 2 2 den_least_of

def den_normal : DL.Env → Out := (seqO (xRet (eCall dTuple (eCons (eLc [1] (sRg1 (eCall dLen (eCons (gv 0) eNil))) (sv 1) tYes' (eDef 2 F_least_of (eCons (gv 0) (eCons (gv 1) eNil)))) eNil)))
 Out.nx)
def F_normal : List D → R D := fnD 1 2 den_normal

def den_moves : DL.Env → Out := (seqO (xSet 1 (eLst eNil))
 (seqO (xFor (sSeq (eFld "Algebra" (["n", "operations"] : List Str) "operations" (gv 0))) (unpk 3 (gCons' (sv 2) (gCons' (sv 3) (gCons' (sv 4) gNil'))))
 (seqO (xIf (tCmp' dEq (gv 3) (cst (.int 1))) (seqO (apD 1 (eTup (eCons (gv 2) (eCons (cst (.int 0)) (eCons (eTup eNil) eNil)))))
 Out.nx)
 (seqO (xIf (tCmp' dEq (gv 3) (cst (.int 2))) (seqO (exD 1 (eLc2 [5, 6] (sRg1 (cst (.int 2))) (sv 5) tYes' (sRg1 (eFld "Algebra" (["n", "operations"] : List Str) "n" (gv 0))) [6] (sv 6) tYes' (eTup (eCons (gv 2) (eCons (gv 5) (eCons (eTup (eCons (gv 6) eNil)) eNil))))))
 Out.nx)
 Out.nx)
 Out.nx))
 Out.nx))
 (seqO (xRet (gv 1))
 Out.nx)))
def F_moves : List D → R D := fnD 1 7 den_moves

def den_moved : DL.Env → Out := (seqO (xAsg (gv 1) (unpk 3 (gCons' (sv 3) (gCons' (sv 4) (gCons' (sv 5) gNil')))))
 (seqO (xRet (eMet "Algebra" 3 F_Algebra_value (gv 0) (eCons (gv 3) (eCons (eBin dAdd (eBin dAdd (eSl (gv 5) pNone (pSome (gv 4))) (eTup (eCons (gv 2) eNil))) (eSl (gv 5) (pSome (gv 4)) pNone)) eNil))))
 Out.nx))
def F_moved : List D → R D := fnD 3 6 den_moved

def den_move_rows : DL.Env → Out := (seqO (xSet 1 (eLst eNil))
 (seqO (xFor (sSeq (eDef 1 F_moves (eCons (gv 0) eNil))) (sv 2)
 (seqO (apD 1 (eTup (eCons (gv 2) (eCons (eCall dTuple (eCons (eLc [3] (sRg1 (eFld "Algebra" (["n", "operations"] : List Str) "n" (gv 0))) (sv 3) tYes' (eDef 3 F_moved (eCons (gv 0) (eCons (gv 2) (eCons (gv 3) eNil))))) eNil)) eNil))))
 Out.nx))
 (seqO (xRet (gv 1))
 Out.nx)))
def F_move_rows : List D → R D := fnD 1 4 den_move_rows

def den_closed_under : DL.Env → Out := (seqO (xSet 2 (eRg .lst (rg1 (eFld "Algebra" (["n", "operations"] : List Str) "n" (gv 0)))))
 (seqO (xSet 3 (eLc [8, 9] (sSeq (eDef 1 F_move_rows (eCons (gv 0) eNil))) (unpk 2 (gCons' (sv 8) (gCons' (sv 9) gNil'))) tYes' (gv 9)))
 (seqO (xSet 4 (eCall dList (eCons (gv 1) eNil)))
 (seqO (xSet 5 (cst (.int 0)))
 (seqO (whD (tCmp' (dCmp fun i j => decide (i < j)) (gv 5) (eCall dLen (eCons (gv 4) eNil))) (seqO (xSet 6 (eIm (eDef 2 F_least_of (eCons (gv 2) (eCons (eBin dIx (eBin dIx (gv 4) (gv 5)) (cst (.int 0))) eNil)))))
 (seqO (xSet 7 (eIm (eDef 2 F_least_of (eCons (gv 2) (eCons (eBin dIx (eBin dIx (gv 4) (gv 5)) (cst (.int 1))) eNil)))))
 (seqO (agD 5 dAddI (cst (.int 1)))
 (seqO (xIf (tCmp' dNe (gv 6) (gv 7)) (seqO (stD 2 (eCall dMin2 (eCons (gv 6) (eCons (gv 7) eNil))) (eCall dMax2 (eCons (gv 6) (eCons (gv 7) eNil))))
 (seqO (exD 4 (eLc [9] (sSeq (gv 3)) (sv 9) tYes' (eTup (eCons (eBin dIx (gv 9) (gv 6)) (eCons (eBin dIx (gv 9) (gv 7)) eNil)))))
 Out.nx))
 Out.nx)
 Out.nx)))) fuel)
 (seqO (xRet (eDef 1 F_normal (eCons (gv 2) eNil)))
 Out.nx))))))
def F_closed_under : List D → R D := fnD 2 10 den_closed_under

def den_is_equivalence : DL.Env → Out := (seqO (xIf (tOr' (tCmp' dNe (eCall dLen (eCons (gv 1) eNil)) (gv 0)) (tNot' (tVal (eCall dAll (eCons (eLc [2] (sRg1 (gv 0)) (sv 2) tYes' (eChain (dCmp fun i j => decide (i ≤ j)) (dCmp fun i j => decide (i ≤ j)) (cst (.int 0)) (eBin dIx (gv 1) (gv 2)) (gv 2))) eNil))))) (seqO (xRet (cst (.bl false)))
 Out.nx)
 Out.nx)
 (seqO (xRet (eCall dAll (eCons (eLc [2] (sRg1 (gv 0)) (sv 2) tYes' (eBin dEq (eBin dIx (gv 1) (eBin dIx (gv 1) (gv 2))) (eBin dIx (gv 1) (gv 2)))) eNil)))
 Out.nx))
def F_is_equivalence : List D → R D := fnD 2 3 den_is_equivalence

def den_check_joining : DL.Env → Out := (seqO (xIf (tNot' (tVal (eDef 2 F_is_equivalence (eCons (eFld "Algebra" (["n", "operations"] : List Str) "n" (gv 0)) (eCons (gv 1) eNil))))) (seqO (xRaise "InvalidJoining")
 Out.nx)
 Out.nx)
 (seqO (xSet 2 (eLc [3] (sRg1 (eFld "Algebra" (["n", "operations"] : List Str) "n" (gv 0))) (sv 3) tYes' (eTup (eCons (eBin dIx (gv 1) (gv 3)) (eCons (gv 3) eNil)))))
 (seqO (xIf (tCmp' dNe (eDef 2 F_closed_under (eCons (gv 0) (eCons (gv 2) eNil))) (eCall dTuple (eCons (gv 1) eNil))) (seqO (xRaise "InvalidJoining")
 Out.nx)
 Out.nx)
 (seqO (xRet (gv 1))
 Out.nx))))
def F_check_joining : List D → R D := fnD 2 4 den_check_joining

def den_are_exchanged : DL.Env → Out := (seqO (xSet 2 (eCall dLen (eCons (gv 0) eNil)))
 (seqO (xSet 3 eD0)
 (seqO (xFor (sSeq (eDef 2 F_tuples (eCons (gv 2) (eCons (cst (.int 3)) eNil)))) (unpk 3 (gCons' (sv 4) (gCons' (sv 5) (gCons' (sv 6) gNil'))))
 (seqO (xIf (tAnd' (tCmp' dEq (eBin dIx (gv 0) (gv 4)) (eBin dIx (gv 0) (gv 5))) (tCmp' dEq (eBin dIx (gv 1) (gv 5)) (eBin dIx (gv 1) (gv 6)))) (seqO (stQ 3 (cst (.bl true)) (eTup (eCons (gv 4) (eCons (gv 6) eNil))))
 Out.nx)
 Out.nx)
 Out.nx))
 (seqO (frzO 3 (xRet (eCall dAll (eCons (eLc [4, 6] (sKeys (gvL 3)) (unpk 2 (gCons' (sv 4) (gCons' (sv 6) gNil'))) tYes' (eBin (dQIn false) (eTup (eCons (gv 6) (eCons (gv 4) eNil))) (gv 3))) eNil))))
 Out.nx))))
def F_are_exchanged : List D → R D := fnD 2 7 den_are_exchanged

def den_exchange : DL.Env → Out := (seqO (xExpr (eDef 2 F_check_joining (eCons (gv 0) (eCons (gv 1) eNil))))
 (seqO (xExpr (eDef 2 F_check_joining (eCons (gv 0) (eCons (gv 2) eNil))))
 (seqO (xRet (eDef 2 F_are_exchanged (eCons (gv 1) (eCons (gv 2) eNil))))
 Out.nx)))
def F_exchange : List D → R D := fnD 3 3 den_exchange

def den__law_cell : DL.Env → Out := (seqO (xIf (tCmp' (dCmp fun i j => decide (i < j)) (gv 1) (eCall dLen (eCons (gv 0) eNil))) (seqO (xRet (eBin dIx (gv 0) (gv 1)))
 Out.nx)
 Out.nx)
 (seqO (xRet (cst (.int 0)))
 Out.nx))
def F__law_cell : List D → R D := fnD 2 2 den__law_cell

def den__law_digits : DL.Env → Out := (seqO (xSet 2 (eLst eNil))
 (seqO (xFor (sSeq (gv 1)) (sv 3)
 (seqO (apD 2 (eBin dMod (eCall dInt (eCons (gv 0) eNil)) (gv 3)))
 (seqO (xSet 0 (eBin dFdiv (gv 0) (gv 3)))
 Out.nx)))
 (seqO (xRet (gv 2))
 Out.nx)))
def F__law_digits : List D → R D := fnD 2 4 den__law_digits

def den__law_rich : DL.Env → Out := (seqO (xIf (tCmp' (dCmp fun i j => decide (j ≤ i)) (gv 0) (eBin dPow (cst (.int 10)) (cst (.int 18)))) (seqO (xRet (gv 0))
 Out.nx)
 Out.nx)
 (seqO (xSet 1 (eBin dMod (eCall dInt (eCons (eBin dAdd (eBin dMul (gv 0) (cst (.int 48271))) (cst (.int 11))) eNil)) (cst (.int 2147483647))))
 (seqO (xSet 2 (eBin dMod (eCall dInt (eCons (eBin dAdd (eBin dAdd (eBin dMul (gv 1) (cst (.int 69621))) (eBin dFdiv (gv 0) (cst (.int 7)))) (cst (.int 5))) eNil)) (cst (.int 2147483629))))
 (seqO (xRet (eBin dAdd (eBin dMul (gv 1) (cst (.int 2147483629))) (gv 2)))
 Out.nx))))
def F__law_rich : List D → R D := fnD 1 3 den__law_rich

def den__law_draws : DL.Env → Out := (seqO (xSet 3 (eDef 1 F__law_rich (eCons (gv 0) eNil)))
 (seqO (xSet 4 (eLst eNil))
 (seqO (xFor (sRg1 (gv 2)) (sv 5)
 (seqO (apD 4 (eBin dMod (eCall dInt (eCons (gv 3) eNil)) (gv 1)))
 (seqO (xSet 3 (eBin dFdiv (gv 3) (gv 1)))
 (seqO (xIf (tCmp' dEq (gv 3) (cst (.int 0))) (seqO (xSet 3 (eDef 1 F__law_rich (eCons (eBin dAdd (eBin dAdd (gv 0) (eBin dMul (cst (.int 13)) (gv 5))) (cst (.int 1))) eNil)))
 Out.nx)
 Out.nx)
 Out.nx))))
 (seqO (xRet (eCall dTuple (eCons (gv 4) eNil)))
 Out.nx))))
def F__law_draws : List D → R D := fnD 3 6 den__law_draws

def den__law_tuples : DL.Env → Out := (seqO (xSet 2 (eLst (eCons (eTup eNil) eNil)))
 (seqO (xFor (sRg1 (gv 1)) (sv 3)
 (seqO (xSet 4 (eLst eNil))
 (seqO (xFor (sSeq (gv 2)) (sv 5)
 (seqO (xSet 4 (eBin dAdd (gv 4) (eLc [6] (sRg1 (gv 0)) (sv 6) tYes' (eBin dAdd (gv 5) (eTup (eCons (gv 6) eNil))))))
 Out.nx))
 (seqO (xSet 2 (gv 4))
 Out.nx))))
 (seqO (xRet (gv 2))
 Out.nx)))
def F__law_tuples : List D → R D := fnD 2 7 den__law_tuples

def den__law_table : DL.Env → Out := (seqO (xSet 3 (eDef 2 F__law_tuples (eCons (gv 2) (eCons (cst (.int 2)) eNil))))
 (seqO (xSet 4 (eDef 3 F__law_draws (eCons (gv 1) (eCons (gv 2) (eCons (cst (.int 64)) eNil)))))
 (seqO (xIf (tCmp' dEq (gv 0) (cst (.int 0))) (seqO (xRet (eTup (eCons (cst (.int 2)) (eCons (eSl (gv 4) pNone (pSome (eBin dMul (gv 2) (gv 2)))) eNil))))
 Out.nx)
 Out.nx)
 (seqO (xIf (tCmp' dEq (gv 0) (cst (.int 1))) (seqO (xRet (eTup (eCons (cst (.int 2)) (eCons (eCall dTuple (eCons (eLc [5, 6] (sSeq (gv 3)) (unpk 2 (gCons' (sv 5) (gCons' (sv 6) gNil'))) tYes' (eCall dMin2 (eCons (gv 5) (eCons (gv 6) eNil)))) eNil)) eNil))))
 Out.nx)
 Out.nx)
 (seqO (xIf (tCmp' dEq (gv 0) (cst (.int 2))) (seqO (xRet (eTup (eCons (cst (.int 2)) (eCons (eCall dTuple (eCons (eLc [5, 6] (sSeq (gv 3)) (unpk 2 (gCons' (sv 5) (gCons' (sv 6) gNil'))) tYes' (eCall dMax2 (eCons (gv 5) (eCons (gv 6) eNil)))) eNil)) eNil))))
 Out.nx)
 Out.nx)
 (seqO (xIf (tCmp' dEq (gv 0) (cst (.int 3))) (seqO (xRet (eTup (eCons (cst (.int 2)) (eCons (eCall dTuple (eCons (eLc [5, 6] (sSeq (gv 3)) (unpk 2 (gCons' (sv 5) (gCons' (sv 6) gNil'))) tYes' (eBin dMod (eCall dInt (eCons (eBin dAdd (gv 5) (gv 6)) eNil)) (gv 2))) eNil)) eNil))))
 Out.nx)
 Out.nx)
 (seqO (xIf (tCmp' dEq (gv 0) (cst (.int 4))) (seqO (xRet (eTup (eCons (cst (.int 1)) (eCons (eSl (gv 4) pNone (pSome (gv 2))) eNil))))
 Out.nx)
 Out.nx)
 (seqO (xIf (tCmp' dEq (gv 0) (cst (.int 5))) (seqO (xRet (eTup (eCons (cst (.int 0)) (eCons (eSl (gv 4) pNone (pSome (cst (.int 1)))) eNil))))
 Out.nx)
 Out.nx)
 (seqO (xIf (tCmp' dEq (gv 0) (cst (.int 6))) (seqO (xRet (eTup (eCons (cst (.int 2)) (eCons (eCall dTuple (eCons (eLc [5, 6] (sSeq (gv 3)) (unpk 2 (gCons' (sv 5) (gCons' (sv 6) gNil'))) tYes' (eBin dIx (eLst (eCons (eBin dIx (gv 4) (eBin dAdd (eBin dMul (gv 5) (gv 2)) (gv 6))) (eCons (gv 5) eNil))) (eCall dInt (eCons (eBin dEq (gv 5) (gv 6)) eNil)))) eNil)) eNil))))
 Out.nx)
 Out.nx)
 (seqO (xIf (tCmp' dEq (gv 0) (cst (.int 7))) (seqO (xRet (eTup (eCons (cst (.int 2)) (eCons (eCall dTuple (eCons (eLc [5, 6] (sSeq (gv 3)) (unpk 2 (gCons' (sv 5) (gCons' (sv 6) gNil'))) tYes' (eBin dMod (eCall dInt (eCons (eBin dSub (gv 5) (gv 6)) eNil)) (gv 2))) eNil)) eNil))))
 Out.nx)
 Out.nx)
 (seqO (xIf (tCmp' dEq (gv 0) (cst (.int 8))) (seqO (xRet (eTup (eCons (cst (.int 1)) (eCons (eCall dTuple (eCons (eLc [5] (sRg1 (gv 2)) (sv 5) tYes' (eBin dMod (eCall dInt (eCons (eBin dAdd (gv 5) (cst (.int 1))) eNil)) (gv 2))) eNil)) eNil))))
 Out.nx)
 Out.nx)
 (seqO (xIf (tCmp' dEq (gv 0) (cst (.int 9))) (seqO (xRet (eTup (eCons (cst (.int 2)) (eCons (eCall dTuple (eCons (eLc [5, 6] (sSeq (gv 3)) (unpk 2 (gCons' (sv 5) (gCons' (sv 6) gNil'))) tYes' (eBin dIx (gv 4) (eBin dAdd (eBin dMul (eCall dMin2 (eCons (gv 5) (eCons (gv 6) eNil))) (gv 2)) (eCall dMax2 (eCons (gv 5) (eCons (gv 6) eNil)))))) eNil)) eNil))))
 Out.nx)
 Out.nx)
 (seqO (xIf (tCmp' dEq (gv 0) (cst (.int 10))) (seqO (xRet (eTup (eCons (cst (.int 2)) (eCons (eCall dTuple (eCons (eLc [5, 6] (sSeq (gv 3)) (unpk 2 (gCons' (sv 5) (gCons' (sv 6) gNil'))) tYes' (eBin dIx (eLst (eCons (gv 5) (eCons (gv 6) eNil))) (eBin dMod (eCall dInt (eCons (eBin dIx (gv 4) (eBin dAdd (eBin dMul (gv 5) (gv 2)) (gv 6))) eNil)) (cst (.int 2))))) eNil)) eNil))))
 Out.nx)
 Out.nx)
 (seqO (xIf (tCmp' dEq (gv 0) (cst (.int 11))) (seqO (xRet (eTup (eCons (cst (.int 1)) (eCons (eCall dTuple (eCons (eLc [5] (sRg1 (gv 2)) (sv 5) tYes' (eBin dSub (eBin dSub (gv 2) (cst (.int 1))) (gv 5))) eNil)) eNil))))
 Out.nx)
 Out.nx)
 (seqO (xRet (eTup (eCons (cst (.int 2)) (eCons (eCall dTuple (eCons (eLc [5, 6] (sSeq (gv 3)) (unpk 2 (gCons' (sv 5) (gCons' (sv 6) gNil'))) tYes' (eBin dIx (eLst (eCons (gv 5) (eCons (gv 6) eNil))) (eCall dInt (eCons (eBin dEq (gv 0) (cst (.int 12))) eNil)))) eNil)) eNil))))
 Out.nx)))))))))))))))
def F__law_table : List D → R D := fnD 3 7 den__law_table

def den__law_operations : DL.Env → Out := (seqO (xSet 2 (eDef 2 F__law_digits (eCons (eDef 1 F__law_rich (eCons (gv 0) eNil)) (eCons (eLst (eCons (cst (.int 4)) (eCons (cst (.int 14)) (eCons (cst (.int 14)) (eCons (cst (.int 14)) (eCons (cst (.int 6)) eNil)))))) eNil))))
 (seqO (xSet 3 (eSl (eLst (eCons (eBin dIx (gv 2) (cst (.int 1))) (eCons (eBin dIx (gv 2) (cst (.int 2))) (eCons (eBin dIx (gv 2) (cst (.int 3))) eNil)))) pNone (pSome (eBin dIx (gv 2) (cst (.int 0))))))
 (seqO (xIf (tCmp' dEq (eBin dIx (gv 2) (cst (.int 4))) (cst (.int 0))) (seqO (xSet 3 (eLst (eCons (cst (.int 1)) (eCons (cst (.int 2)) (eCons (eBin dIx (gv 2) (cst (.int 1))) eNil)))))
 Out.nx)
 Out.nx)
 (seqO (xIf (tCmp' dEq (eBin dIx (gv 2) (cst (.int 4))) (cst (.int 1))) (seqO (xSet 3 (eSl (eLst (eCons (cst (.int 3)) (eCons (eBin dIx (eLst (eCons (cst (.int 11)) (eCons (cst (.int 7)) (eCons (cst (.int 4)) eNil)))) (eBin dMod (eCall dInt (eCons (eBin dIx (gv 2) (cst (.int 2))) eNil)) (cst (.int 3)))) (eCons (eBin dIx (gv 2) (cst (.int 1))) eNil)))) pNone (pSome (eBin dAdd (cst (.int 2)) (eCall dInt (eCons (eBin (dCmp fun i j => decide (j < i)) (eBin dIx (gv 2) (cst (.int 0))) (cst (.int 2))) eNil))))))
 Out.nx)
 Out.nx)
 (seqO (xSet 4 (eLst eNil))
 (seqO (xFor (sRg1 (eCall dLen (eCons (gv 3) eNil))) (sv 5)
 (seqO (xAsg (eDef 3 F__law_table (eCons (eBin dIx (gv 3) (gv 5)) (eCons (eBin dAdd (eBin dFdiv (gv 0) (cst (.int 3))) (eBin dMul (cst (.int 5)) (gv 5))) (eCons (gv 1) eNil)))) (unpk 2 (gCons' (sv 6) (gCons' (sv 7) gNil'))))
 (seqO (apD 4 (eTup (eCons (eBin dIx (eLst (eCons (cst (.str "f")) (eCons (cst (.str "g")) (eCons (cst (.str "h")) eNil)))) (gv 5)) (eCons (gv 6) (eCons (gv 7) eNil)))))
 Out.nx)))
 (seqO (xRet (eCall dTuple (eCons (gv 4) eNil)))
 Out.nx)))))))
def F__law_operations : List D → R D := fnD 2 8 den__law_operations

def den__law_joined : DL.Env → Out := (seqO (xSet 3 (eLc [9] (sRg1 (gv 0)) (sv 9) tYes' (gv 9)))
 (seqO (xSet 4 (eCall dList (eCons (gv 2) eNil)))
 (seqO (xFor (sRg1 (cst (.int 1000000))) (sv 5)
 (seqO (xIf (tCmp' dEq (gv 4) (eLst eNil)) (seqO Out.bk
 Out.nx)
 Out.nx)
 (seqO (popD 4 (unpk 2 (gCons' (sv 10) (gCons' (sv 11) gNil'))))
 (seqO (xSet 6 (eCall dMin2 (eCons (eBin dIx (gv 3) (gv 10)) (eCons (eBin dIx (gv 3) (gv 11)) eNil))))
 (seqO (xSet 7 (eCall dMax2 (eCons (eBin dIx (gv 3) (gv 10)) (eCons (eBin dIx (gv 3) (gv 11)) eNil))))
 (seqO (xIf (tCmp' dEq (gv 6) (gv 7)) (seqO Out.ct
 Out.nx)
 Out.nx)
 (seqO (xSet 3 (eLc [12] (sSeq (gv 3)) (sv 12) tYes' (eBin dIx (eLst (eCons (gv 12) (eCons (gv 6) eNil))) (eCall dInt (eCons (eBin dEq (gv 12) (gv 7)) eNil)))))
 (seqO (xFor (sSeq (gv 1)) (sv 8)
 (seqO (xIf (tCmp' dEq (eBin dIx (gv 8) (cst (.int 1))) (cst (.int 1))) (seqO (apD 4 (eTup (eCons (eBin dIx (eBin dIx (gv 8) (cst (.int 2))) (gv 10)) (eCons (eBin dIx (eBin dIx (gv 8) (cst (.int 2))) (gv 11)) eNil))))
 Out.nx)
 Out.nx)
 (seqO (xIf (tCmp' dEq (eBin dIx (gv 8) (cst (.int 1))) (cst (.int 2))) (seqO (xFor (sRg1 (gv 0)) (sv 13)
 (seqO (apD 4 (eTup (eCons (eBin dIx (eBin dIx (gv 8) (cst (.int 2))) (eBin dAdd (eBin dMul (gv 10) (gv 0)) (gv 13))) (eCons (eBin dIx (eBin dIx (gv 8) (cst (.int 2))) (eBin dAdd (eBin dMul (gv 11) (gv 0)) (gv 13))) eNil))))
 (seqO (apD 4 (eTup (eCons (eBin dIx (eBin dIx (gv 8) (cst (.int 2))) (eBin dAdd (eBin dMul (gv 13) (gv 0)) (gv 10))) (eCons (eBin dIx (eBin dIx (gv 8) (cst (.int 2))) (eBin dAdd (eBin dMul (gv 13) (gv 0)) (gv 11))) eNil))))
 Out.nx)))
 Out.nx)
 Out.nx)
 Out.nx)))
 Out.nx))))))))
 (seqO (xRet (eCall dTuple (eCons (gv 3) eNil)))
 Out.nx))))
def F__law_joined : List D → R D := fnD 3 14 den__law_joined

def den__law_exchange : DL.Env → Out := (seqO (xSet 2 (eCall dLen (eCons (gv 0) eNil)))
 (seqO (xSet 3 (eLc [5, 6] (sSeq (eDef 2 F__law_tuples (eCons (gv 2) (eCons (cst (.int 2)) eNil)))) (unpk 2 (gCons' (sv 5) (gCons' (sv 6) gNil'))) (tCmp' dNe (eLc [7] (sRg1 (gv 2)) (sv 7) (tAnd' (tCmp' dEq (eBin dIx (gv 0) (gv 5)) (eBin dIx (gv 0) (gv 7))) (tCmp' dEq (eBin dIx (gv 1) (gv 7)) (eBin dIx (gv 1) (gv 6)))) (gv 7)) (eLst eNil)) (eTup (eCons (gv 5) (eCons (gv 6) eNil)))))
 (seqO (xSet 4 (eLc [5, 6] (sSeq (eDef 2 F__law_tuples (eCons (gv 2) (eCons (cst (.int 2)) eNil)))) (unpk 2 (gCons' (sv 5) (gCons' (sv 6) gNil'))) (tCmp' dNe (eLc [7] (sRg1 (gv 2)) (sv 7) (tAnd' (tCmp' dEq (eBin dIx (gv 1) (gv 5)) (eBin dIx (gv 1) (gv 7))) (tCmp' dEq (eBin dIx (gv 0) (gv 7)) (eBin dIx (gv 0) (gv 6)))) (gv 7)) (eLst eNil)) (eTup (eCons (gv 5) (eCons (gv 6) eNil)))))
 (seqO (xRet (eBin dEq (gv 3) (gv 4)))
 Out.nx))))
def F__law_exchange : List D → R D := fnD 2 8 den__law_exchange

def den__law_is_bool : DL.Env → Out := (seqO (xRet (eAnd (eIsi "bool" (gv 0)) (eBin dEq (gv 0) (gv 1))))
 Out.nx)
def F__law_is_bool : List D → R D := fnD 2 2 den__law_is_bool

def den_law : DL.Env → Out := (seqO (xSet 1 (eDef 2 F__law_digits (eCons (eDef 1 F__law_rich (eCons (eDef 2 F__law_cell (eCons (gv 0) (eCons (cst (.int 0)) eNil))) eNil)) (eCons (eLst (eCons (cst (.int 6)) (eCons (cst (.int 3)) (eCons (cst (.int 3)) (eCons (cst (.int 2)) eNil))))) eNil))))
 (seqO (xSet 2 (eBin dAdd (cst (.int 1)) (eBin dIx (gv 1) (cst (.int 0)))))
 (seqO (xSet 3 (eDef 2 F__law_operations (eCons (eDef 2 F__law_cell (eCons (gv 0) (eCons (cst (.int 1)) eNil))) (eCons (gv 2) eNil))))
 (seqO (xSet 4 (eDef 2 F_Algebra___init__ (eCons (gv 2) (eCons (gv 3) eNil))))
 (seqO (xSet 5 (eDef 3 F__law_draws (eCons (eDef 2 F__law_cell (eCons (gv 0) (eCons (cst (.int 2)) eNil))) (eCons (gv 2) (eCons (cst (.int 8)) eNil)))))
 (seqO (xSet 6 (eDef 3 F__law_joined (eCons (gv 2) (eCons (gv 3) (eCons (eLc [10] (sRg1 (eBin dIx (gv 1) (cst (.int 1)))) (sv 10) tYes' (eTup (eCons (eBin dIx (gv 5) (eBin dMul (cst (.int 2)) (gv 10))) (eCons (eBin dIx (gv 5) (eBin dAdd (eBin dMul (cst (.int 2)) (gv 10)) (cst (.int 1)))) eNil)))) eNil)))))
 (seqO (xSet 7 (eDef 3 F__law_joined (eCons (gv 2) (eCons (gv 3) (eCons (eLc [10] (sRg1 (eBin dIx (gv 1) (cst (.int 2)))) (sv 10) tYes' (eTup (eCons (eBin dIx (gv 5) (eBin dAdd (eBin dMul (cst (.int 2)) (gv 10)) (cst (.int 4)))) (eCons (eBin dIx (gv 5) (eBin dAdd (eBin dMul (cst (.int 2)) (gv 10)) (cst (.int 5)))) eNil)))) eNil)))))
 (seqO (xSet 8 (eDef 2 F__law_exchange (eCons (gv 6) (eCons (gv 7) eNil))))
 (seqO (xIf (tOr' (tNot' (tVal (eDef 2 F__law_is_bool (eCons (eDef 3 F_exchange (eCons (gv 4) (eCons (gv 6) (eCons (gv 7) eNil)))) (eCons (gv 8) eNil))))) (tNot' (tVal (eDef 2 F__law_is_bool (eCons (eDef 3 F_exchange (eCons (gv 4) (eCons (gv 7) (eCons (gv 6) eNil)))) (eCons (gv 8) eNil)))))) (seqO (xRet (cst (.bl false)))
 Out.nx)
 Out.nx)
 (seqO (xSet 9 (eLst (eCons (eTup (eCons (gv 6) (eCons (eSl (gv 7) pNone (pSome (eNeg (cst (.int 1))))) eNil))) (eCons (eTup (eCons (eBin dAdd (gv 6) (eTup (eCons (cst (.int 0)) eNil))) (eCons (gv 7) eNil))) eNil))))
 (seqO (tryN sbx (seqO (xExpr (eDef 3 F_exchange (eCons (gv 4) (eCons (eBin dIx (eBin dIx (gv 9) (eBin dIx (gv 1) (cst (.int 3)))) (cst (.int 0))) (eCons (eBin dIx (eBin dIx (gv 9) (eBin dIx (gv 1) (cst (.int 3)))) (cst (.int 1))) eNil)))))
 Out.nx)
 (("InvalidJoining", (seqO (xRet (cst (.bl true)))
 Out.nx)) :: []))
 (seqO (xRet (cst (.bl false)))
 Out.nx))))))))))))
def F_law : List D → R D := fnD 1 11 den_law

end Lw


namespace Lw
open PySem PySem.Spec PyProof.Rows L2 DL
theorem foldl_pow {α : Type} (n : Nat) : ∀ (l : List α) (a : Nat), l.foldl (fun a _ => a * n) a = a * n ^ l.length
  | [], a => by simp
  | x :: l, a => by rw [List.foldl_cons, foldl_pow n l, List.length_cons, Nat.pow_succ, Nat.mul_assoc, Nat.mul_comm n]
theorem power_eq (n k : Nat) (hn : n ≤ 1000000) (hk : k ≤ 1000000) : F_power [nD n, nD k] = .ok (nD (n ^ k)) := by
  have sn : smallI (n : Int) = true := small_of (by omega) (by omega)
  refine fn_wp rfl ?_
  simp [den_power, xSet, xAsg, xPar, xExpr, xRet, xRetN, xIf, xFor, xRaise, eBin, eCall, eNil, eCons, eTup, eLst, eChain, tVal, tCmp', tChain', eIsN, eNotN, tIsN', tNotN', tNot', tAnd', tOr', eAnd, eOr, eNot, eNeg, eIf, pNone, pSome, eSl, eDef, eIm, eIsi, sSeq, sRg1, sRg2, tYes', gNil', gCons', unpk, wipeE, eD0, eD1, sKeys, eQix, List.map_cons, List.map_nil, mkRgI_nat (show k ≤ 1000000000 by omega)]
  refine wp_fold nD (fun (a : Nat) e => ∃ o, e = [some (nD n), some (nD k), some (nD a), o]) (fun a _ => a * n) 1 (List.range k) ⟨_, rfl⟩ ?_ ?_
  · rintro x hx a e ⟨o, rfl⟩
    simp [agD, dMulI_r sn]
  · rintro e ⟨o, rfl⟩
    simp [foldl_pow]
theorem index_of_gen (n : Nat) (hn : n ≤ 1000000) (l : List Nat) (d : D) (hd : dIter d = .ok (l.map nD)) : F_index_of [nD n, d] = .ok (nD (idx n l)) := by
  have sn : smallI (n : Int) = true := small_of (by omega) (by omega)
  refine fn_wp rfl ?_
  simp [den_index_of, xSet, xAsg, xPar, xExpr, xRet, xRetN, xIf, xFor, xRaise, eBin, eCall, eNil, eCons, eTup, eLst, eChain, tVal, tCmp', tChain', eIsN, eNotN, tIsN', tNotN', tNot', tAnd', tOr', eAnd, eOr, eNot, eNeg, eIf, pNone, pSome, eSl, eDef, eIm, eIsi, sSeq, sRg1, sRg2, tYes', gNil', gCons', unpk, wipeE, eD0, eD1, sKeys, eQix, List.map_cons, List.map_nil, hd]
  refine wp_fold nD (fun (a : Nat) e => ∃ o, e = [some (nD n), some d, some (nD a), o]) (fun a x => a * n + x) 0 l ⟨_, rfl⟩ ?_ ?_
  · rintro x hx a e ⟨o, rfl⟩
    simp [xSet, xAsg, xPar, xExpr, xRet, xRetN, xIf, xFor, xRaise, eBin, eCall, eNil, eCons, eTup, eLst, eChain, tVal, tCmp', tChain', eIsN, eNotN, tIsN', tNotN', tNot', tAnd', tOr', eAnd, eOr, eNot, eNeg, eIf, pNone, pSome, eSl, eDef, eIm, eIsi, sSeq, sRg1, sRg2, tYes', gNil', gCons', unpk, wipeE, eD0, eD1, sKeys, eQix, List.map_cons, List.map_nil, dMul_r sn]
  · rintro e ⟨o, rfl⟩
    simp [idx]
theorem index_of_map {α : Type} (n : Nat) (hn : n ≤ 1000000) (l : List α) (f : α → Nat) : F_index_of [nD n, .lst (l.map fun x => nD (f x))] = .ok (nD (idx n (l.map f))) :=
  index_of_gen n hn (l.map f) _ (by rw [dIter_lst, List.map_map]; rfl)
theorem index_of_t (n : Nat) (hn : n ≤ 1000000) (l : List Nat) : F_index_of [nD n, tN l] = .ok (nD (idx n l)) := index_of_gen n hn l _ rfl
theorem pow_mono {n : Nat} (h : 1 ≤ n) {j k : Nat} (hj : j ≤ k) : n ^ j ≤ n ^ k := Nat.pow_le_pow_right h hj
theorem tuples_eq (n k : Nat) (hn : 1 ≤ n) (hn2 : n ≤ 1000000) (hk : k ≤ 1000000) (h : n ^ k ≤ 16000000) : F_tuples [nD n, nD k] = .ok (.lst ((tps n k).map tN)) := by
  refine fn_wp rfl ?_
  simp [den_tuples, xSet, xAsg, xPar, xExpr, xRet, xRetN, xIf, xFor, xRaise, eBin, eCall, eNil, eCons, eTup, eLst, eChain, tVal, tCmp', tChain', eIsN, eNotN, tIsN', tNotN', tNot', tAnd', tOr', eAnd, eOr, eNot, eNeg, eIf, pNone, pSome, eSl, eDef, eIm, eIsi, sSeq, sRg1, sRg2, tYes', gNil', gCons', unpk, wipeE, eD0, eD1, sKeys, eQix, List.map_cons, List.map_nil, mkRgI_nat (show k ≤ 1000000000 by omega), mkT_eq, mkL_eq]
  refine wp_for nD (fun p e => ∃ o u v, e = [some (nD n), some (nD k), some (.lst ((tps n p.length).map tN)), o, u, v]) (List.range k) ⟨_, _, _, rfl⟩ ?_ ?_
  · rintro p x q hp e ⟨o, u, v, rfl⟩
    have hpk : p.length + 1 ≤ k := by
      have := congrArg List.length hp
      simp at this
      omega
    have hlen : (tps n (p.length + 1)).length ≤ 16000000 := by
      rw [tps_length]
      exact Nat.le_trans (pow_mono hn hpk) h
    refine ⟨_, rfl, ?_⟩
    simp only [seqO_eq, wp_next, xSet, xAsg, xPar, xExpr, xRet, xRetN, xIf, xFor, xRaise, eBin, eCall, eNil, eCons, eTup, eLst, eChain, tVal, tCmp', tChain', eIsN, eNotN, tIsN', tNotN', tNot', tAnd', tOr', eAnd, eOr, eNot, eNeg, eIf, pNone, pSome, eSl, eDef, eIm, eIsi, sSeq, sRg1, sRg2, tYes', gNil', gCons', unpk, wipeE, eD0, eD1, sKeys, eQix, List.map_cons, List.map_nil]
    rw [eLc2_map tN (fun r => (List.range n).map fun t => tN (r ++ [t])) (tps n p.length) (by simp [xSet, xAsg, xPar, xExpr, xRet, xRetN, xIf, xFor, xRaise, eBin, eCall, eNil, eCons, eTup, eLst, eChain, tVal, tCmp', tChain', eIsN, eNotN, tIsN', tNotN', tNot', tAnd', tOr', eAnd, eOr, eNot, eNeg, eIf, pNone, pSome, eSl, eDef, eIm, eIsi, sSeq, sRg1, sRg2, tYes', gNil', gCons', unpk, wipeE, eD0, eD1, sKeys, eQix, List.map_cons, List.map_nil]) ?_ ?_]
    · simp [tps, List.map_flatMap]
      rfl
    · unfold tps at hlen
      simp [List.length_flatMap] at hlen ⊢
      omega
    · intro r hr
      obtain ⟨hr1, hr2⟩ := tps_mem hr
      refine ⟨_, (List.range n).map nD, rfl, rfl, ?_, ?_⟩
      · simp [xSet, xAsg, xPar, xExpr, xRet, xRetN, xIf, xFor, xRaise, eBin, eCall, eNil, eCons, eTup, eLst, eChain, tVal, tCmp', tChain', eIsN, eNotN, tIsN', tNotN', tNot', tAnd', tOr', eAnd, eOr, eNot, eNeg, eIf, pNone, pSome, eSl, eDef, eIm, eIsi, sSeq, sRg1, sRg2, tYes', gNil', gCons', unpk, wipeE, eD0, eD1, sKeys, eQix, List.map_cons, List.map_nil, mkRgI_nat (show n ≤ 1000000000 by omega)]
      · refine comp_map nD _ _ fun t ht => ⟨_, rfl, rfl, ?_⟩
        simp [xSet, xAsg, xPar, xExpr, xRet, xRetN, xIf, xFor, xRaise, eBin, eCall, eNil, eCons, eTup, eLst, eChain, tVal, tCmp', tChain', eIsN, eNotN, tIsN', tNotN', tNot', tAnd', tOr', eAnd, eOr, eNot, eNeg, eIf, pNone, pSome, eSl, eDef, eIm, eIsi, sSeq, sRg1, sRg2, tYes', gNil', gCons', unpk, wipeE, eD0, eD1, sKeys, eQix, List.map_cons, List.map_nil, mkT_eq]
        rw [dAdd_tt (by simp; omega)]
        simp
  · rintro e ⟨o, u, v, rfl⟩
    simp
theorem are_things_eq (n : Nat) (t : List Nat) (ht : Th n t) (hl : t.length ≤ 1000) : F_are_things [nD n, tN t] = .ok (.bl true) := by
  refine fn_wp rfl ?_
  simp only [den_are_things, seqO_eq, wp_next, xSet, xAsg, xPar, xExpr, xRet, xRetN, xIf, xFor, xRaise, eBin, eCall, eNil, eCons, eTup, eLst, eChain, tVal, tCmp', tChain', eIsN, eNotN, tIsN', tNotN', tNot', tAnd', tOr', eAnd, eOr, eNot, eNeg, eIf, pNone, pSome, eSl, eDef, eIm, eIsi, sSeq, sRg1, sRg2, tYes', gNil', gCons', unpk, wipeE, eD0, eD1, sKeys, eQix, List.map_cons, List.map_nil]
  rw [eLc_map nD (fun x => D.bl (decide (x < n))) t (by simp [xSet, xAsg, xPar, xExpr, xRet, xRetN, xIf, xFor, xRaise, eBin, eCall, eNil, eCons, eTup, eLst, eChain, tVal, tCmp', tChain', eIsN, eNotN, tIsN', tNotN', tNot', tAnd', tOr', eAnd, eOr, eNot, eNeg, eIf, pNone, pSome, eSl, eDef, eIm, eIsi, sSeq, sRg1, sRg2, tYes', gNil', gCons', unpk, wipeE, eD0, eD1, sKeys, eQix, List.map_cons, List.map_nil]) (by omega) ?_]
  · simp
    exact fun x hx => ht x hx
  · intro x hx
    refine ⟨_, rfl, rfl, ?_⟩
    simp [xSet, xAsg, xPar, xExpr, xRet, xRetN, xIf, xFor, xRaise, eBin, eCall, eNil, eCons, eTup, eLst, eChain, tVal, tCmp', tChain', eIsN, eNotN, tIsN', tNotN', tNot', tAnd', tOr', eAnd, eOr, eNot, eNeg, eIf, pNone, pSome, eSl, eDef, eIm, eIsi, sSeq, sRg1, sRg2, tYes', gNil', gCons', unpk, wipeE, eD0, eD1, sKeys, eQix, List.map_cons, List.map_nil]
/-- an operation's value for a row of things -/
abbrev val (n : Nat) (t l : List Nat) : Nat := nth t (idx n l)
theorem cell_eq (ns : List Int) (k : Nat) : ∃ c : Int, F__law_cell [.frz (ns.map D.int), nD k] = .ok (.int c) := by
  refine fn_wpP (fun r => ∃ c : Int, r = .ok (.int c)) rfl ?_
  simp only [den__law_cell, xSet, xAsg, xPar, xExpr, xRet, xRetN, xIf, xFor, xRaise, eBin, eCall, eNil, eCons, eTup, eLst, eChain, tVal, tCmp', tChain', eIsN, eNotN, tIsN', tNotN', tNot', tAnd', tOr', eAnd, eOr, eNot, eNeg, eIf, pNone, pSome, eSl, eDef, eIm, eIsi, sSeq, sRg1, sRg2, tYes', gNil', gCons', unpk, wipeE, eD0, eD1, sKeys, eQix, List.map_cons, List.map_nil, gv_eq, sv_eq, mkT_0, mkT_1, mkT_2, mkT_3, mkT_4, mkT_5, mkL_0, mkL_1, mkL_2, mkL_3, mkL_4, mkL_5, cst_eq, okb, excb, nx_ok, nxA_ok, nxO_nx, nxO_rt, out_ok, out_exc, seqO_eq, next_nx, next_rt, next_bk, next_ct, next_exc, wp_nx, wp_rt, wp_exc, wp_bk, wp_ct, wp_next, dAdd_ii, dSub_ii, dCmp_ii, asB_bl, asI_int, asInt_int, dInt_int, dInt_bl, dLen_tup, dLen_lst, dLen_frz, dMin2_eq, dMax2_eq, dTuple_lst, dTuple_tup, dTuple_frz, dList_lst, dList_tup, dIter_tup, dIter_lst, dIter_frz, dIx_t0, dIx_t1, dIx_t2, dIx_l0, dIx_l1, dIx_l2, dSl_tup, dSl_lst, dEq_ii, dNe_ii, dEq_bb, dNe_bb, dAll_map, dAny_map, List.getElem?_cons_zero, List.getElem?_cons_succ, List.set_cons_zero, List.set_cons_succ, List.length_cons, List.length_nil, Nat.reduceAdd, Nat.zero_add, Nat.reduceSub, List.replicate_succ, List.replicate_zero, List.cons_append, List.nil_append, List.append_nil, reduceIte, if_true, if_false, Bool.false_eq_true, Bool.not_true, Bool.not_false, List.length_map]
  by_cases h : (k : Int) < ns.length
  · simp only [decide_eq_true h, xSet, xAsg, xPar, xExpr, xRet, xRetN, xIf, xFor, xRaise, eBin, eCall, eNil, eCons, eTup, eLst, eChain, tVal, tCmp', tChain', eIsN, eNotN, tIsN', tNotN', tNot', tAnd', tOr', eAnd, eOr, eNot, eNeg, eIf, pNone, pSome, eSl, eDef, eIm, eIsi, sSeq, sRg1, sRg2, tYes', gNil', gCons', unpk, wipeE, eD0, eD1, sKeys, eQix, List.map_cons, List.map_nil, gv_eq, sv_eq, mkT_0, mkT_1, mkT_2, mkT_3, mkT_4, mkT_5, mkL_0, mkL_1, mkL_2, mkL_3, mkL_4, mkL_5, cst_eq, okb, excb, nx_ok, nxA_ok, nxO_nx, nxO_rt, out_ok, out_exc, seqO_eq, next_nx, next_rt, next_bk, next_ct, next_exc, wp_nx, wp_rt, wp_exc, wp_bk, wp_ct, wp_next, dAdd_ii, dSub_ii, dCmp_ii, asB_bl, asI_int, asInt_int, dInt_int, dInt_bl, dLen_tup, dLen_lst, dLen_frz, dMin2_eq, dMax2_eq, dTuple_lst, dTuple_tup, dTuple_frz, dList_lst, dList_tup, dIter_tup, dIter_lst, dIter_frz, dIx_t0, dIx_t1, dIx_t2, dIx_l0, dIx_l1, dIx_l2, dSl_tup, dSl_lst, dEq_ii, dNe_ii, dEq_bb, dNe_bb, dAll_map, dAny_map, List.getElem?_cons_zero, List.getElem?_cons_succ, List.set_cons_zero, List.set_cons_succ, List.length_cons, List.length_nil, Nat.reduceAdd, Nat.zero_add, Nat.reduceSub, List.replicate_succ, List.replicate_zero, List.cons_append, List.nil_append, List.append_nil, reduceIte, if_true, if_false, Bool.false_eq_true, Bool.not_true, Bool.not_false, dIx_fm (f := D.int) (l := ns) (0 : Int) (show k < ns.length by omega)]
    exact ⟨_, rfl⟩
  · simp only [decide_eq_false h, xSet, xAsg, xPar, xExpr, xRet, xRetN, xIf, xFor, xRaise, eBin, eCall, eNil, eCons, eTup, eLst, eChain, tVal, tCmp', tChain', eIsN, eNotN, tIsN', tNotN', tNot', tAnd', tOr', eAnd, eOr, eNot, eNeg, eIf, pNone, pSome, eSl, eDef, eIm, eIsi, sSeq, sRg1, sRg2, tYes', gNil', gCons', unpk, wipeE, eD0, eD1, sKeys, eQix, List.map_cons, List.map_nil, gv_eq, sv_eq, mkT_0, mkT_1, mkT_2, mkT_3, mkT_4, mkT_5, mkL_0, mkL_1, mkL_2, mkL_3, mkL_4, mkL_5, cst_eq, okb, excb, nx_ok, nxA_ok, nxO_nx, nxO_rt, out_ok, out_exc, seqO_eq, next_nx, next_rt, next_bk, next_ct, next_exc, wp_nx, wp_rt, wp_exc, wp_bk, wp_ct, wp_next, dAdd_ii, dSub_ii, dCmp_ii, asB_bl, asI_int, asInt_int, dInt_int, dInt_bl, dLen_tup, dLen_lst, dLen_frz, dMin2_eq, dMax2_eq, dTuple_lst, dTuple_tup, dTuple_frz, dList_lst, dList_tup, dIter_tup, dIter_lst, dIter_frz, dIx_t0, dIx_t1, dIx_t2, dIx_l0, dIx_l1, dIx_l2, dSl_tup, dSl_lst, dEq_ii, dNe_ii, dEq_bb, dNe_bb, dAll_map, dAny_map, List.getElem?_cons_zero, List.getElem?_cons_succ, List.set_cons_zero, List.set_cons_succ, List.length_cons, List.length_nil, Nat.reduceAdd, Nat.zero_add, Nat.reduceSub, List.replicate_succ, List.replicate_zero, List.cons_append, List.nil_append, List.append_nil, reduceIte, if_true, if_false, Bool.false_eq_true, Bool.not_true, Bool.not_false]
    exact ⟨_, rfl⟩
theorem rich_eq (c : Int) : ∃ v : Nat, F__law_rich [.int c] = .ok (nD v) := by
  refine fn_wpP (fun r => ∃ v : Nat, r = .ok (nD v)) rfl ?_
  have e1 : dPow (.int 10) (.int 18) = .ok (.int 1000000000000000000) := rfl
  simp only [den__law_rich, xSet, xAsg, xPar, xExpr, xRet, xRetN, xIf, xFor, xRaise, eBin, eCall, eNil, eCons, eTup, eLst, eChain, tVal, tCmp', tChain', eIsN, eNotN, tIsN', tNotN', tNot', tAnd', tOr', eAnd, eOr, eNot, eNeg, eIf, pNone, pSome, eSl, eDef, eIm, eIsi, sSeq, sRg1, sRg2, tYes', gNil', gCons', unpk, wipeE, eD0, eD1, sKeys, eQix, List.map_cons, List.map_nil, gv_eq, sv_eq, mkT_0, mkT_1, mkT_2, mkT_3, mkT_4, mkT_5, mkL_0, mkL_1, mkL_2, mkL_3, mkL_4, mkL_5, cst_eq, okb, excb, nx_ok, nxA_ok, nxO_nx, nxO_rt, out_ok, out_exc, seqO_eq, next_nx, next_rt, next_bk, next_ct, next_exc, wp_nx, wp_rt, wp_exc, wp_bk, wp_ct, wp_next, dAdd_ii, dSub_ii, dCmp_ii, asB_bl, asI_int, asInt_int, dInt_int, dInt_bl, dLen_tup, dLen_lst, dLen_frz, dMin2_eq, dMax2_eq, dTuple_lst, dTuple_tup, dTuple_frz, dList_lst, dList_tup, dIter_tup, dIter_lst, dIter_frz, dIx_t0, dIx_t1, dIx_t2, dIx_l0, dIx_l1, dIx_l2, dSl_tup, dSl_lst, dEq_ii, dNe_ii, dEq_bb, dNe_bb, dAll_map, dAny_map, List.getElem?_cons_zero, List.getElem?_cons_succ, List.set_cons_zero, List.set_cons_succ, List.length_cons, List.length_nil, Nat.reduceAdd, Nat.zero_add, Nat.reduceSub, List.replicate_succ, List.replicate_zero, List.cons_append, List.nil_append, List.append_nil, reduceIte, if_true, if_false, Bool.false_eq_true, Bool.not_true, Bool.not_false, e1]
  by_cases h : (1000000000000000000 : Int) ≤ c
  · simp only [decide_eq_true h, xSet, xAsg, xPar, xExpr, xRet, xRetN, xIf, xFor, xRaise, eBin, eCall, eNil, eCons, eTup, eLst, eChain, tVal, tCmp', tChain', eIsN, eNotN, tIsN', tNotN', tNot', tAnd', tOr', eAnd, eOr, eNot, eNeg, eIf, pNone, pSome, eSl, eDef, eIm, eIsi, sSeq, sRg1, sRg2, tYes', gNil', gCons', unpk, wipeE, eD0, eD1, sKeys, eQix, List.map_cons, List.map_nil, gv_eq, sv_eq, mkT_0, mkT_1, mkT_2, mkT_3, mkT_4, mkT_5, mkL_0, mkL_1, mkL_2, mkL_3, mkL_4, mkL_5, cst_eq, okb, excb, nx_ok, nxA_ok, nxO_nx, nxO_rt, out_ok, out_exc, seqO_eq, next_nx, next_rt, next_bk, next_ct, next_exc, wp_nx, wp_rt, wp_exc, wp_bk, wp_ct, wp_next, dAdd_ii, dSub_ii, dCmp_ii, asB_bl, asI_int, asInt_int, dInt_int, dInt_bl, dLen_tup, dLen_lst, dLen_frz, dMin2_eq, dMax2_eq, dTuple_lst, dTuple_tup, dTuple_frz, dList_lst, dList_tup, dIter_tup, dIter_lst, dIter_frz, dIx_t0, dIx_t1, dIx_t2, dIx_l0, dIx_l1, dIx_l2, dSl_tup, dSl_lst, dEq_ii, dNe_ii, dEq_bb, dNe_bb, dAll_map, dAny_map, List.getElem?_cons_zero, List.getElem?_cons_succ, List.set_cons_zero, List.set_cons_succ, List.length_cons, List.length_nil, Nat.reduceAdd, Nat.zero_add, Nat.reduceSub, List.replicate_succ, List.replicate_zero, List.cons_append, List.nil_append, List.append_nil, reduceIte, if_true, if_false, Bool.false_eq_true, Bool.not_true, Bool.not_false]
    exact ⟨c.toNat, by rw [nD, Int.toNat_of_nonneg (by omega)]⟩
  · simp only [decide_eq_false h, xSet, xAsg, xPar, xExpr, xRet, xRetN, xIf, xFor, xRaise, eBin, eCall, eNil, eCons, eTup, eLst, eChain, tVal, tCmp', tChain', eIsN, eNotN, tIsN', tNotN', tNot', tAnd', tOr', eAnd, eOr, eNot, eNeg, eIf, pNone, pSome, eSl, eDef, eIm, eIsi, sSeq, sRg1, sRg2, tYes', gNil', gCons', unpk, wipeE, eD0, eD1, sKeys, eQix, List.map_cons, List.map_nil, gv_eq, sv_eq, mkT_0, mkT_1, mkT_2, mkT_3, mkT_4, mkT_5, mkL_0, mkL_1, mkL_2, mkL_3, mkL_4, mkL_5, cst_eq, okb, excb, nx_ok, nxA_ok, nxO_nx, nxO_rt, out_ok, out_exc, seqO_eq, next_nx, next_rt, next_bk, next_ct, next_exc, wp_nx, wp_rt, wp_exc, wp_bk, wp_ct, wp_next, dAdd_ii, dSub_ii, dCmp_ii, asB_bl, asI_int, asInt_int, dInt_int, dInt_bl, dLen_tup, dLen_lst, dLen_frz, dMin2_eq, dMax2_eq, dTuple_lst, dTuple_tup, dTuple_frz, dList_lst, dList_tup, dIter_tup, dIter_lst, dIter_frz, dIx_t0, dIx_t1, dIx_t2, dIx_l0, dIx_l1, dIx_l2, dSl_tup, dSl_lst, dEq_ii, dNe_ii, dEq_bb, dNe_bb, dAll_map, dAny_map, List.getElem?_cons_zero, List.getElem?_cons_succ, List.set_cons_zero, List.set_cons_succ, List.length_cons, List.length_nil, Nat.reduceAdd, Nat.zero_add, Nat.reduceSub, List.replicate_succ, List.replicate_zero, List.cons_append, List.nil_append, List.append_nil, reduceIte, if_true, if_false, Bool.false_eq_true, Bool.not_true, Bool.not_false, dMul_r (show smallI 48271 = true from rfl), dMul_r (show smallI 69621 = true from rfl), dMul_r (show smallI 2147483629 = true from rfl), dMod_eq (show (0 : Int) < 2147483647 by omega), dMod_eq (show (0 : Int) < 2147483629 by omega), dFdiv_eq (show (0 : Int) < 7 by omega) (show (7 : Int) < 1073741824 by omega)]
    generalize c * 48271 + 11 = z1
    have p1 := Int.emod_nonneg z1 (show (2147483647 : Int) ≠ 0 by omega)
    generalize z1 % 2147483647 = z2 at *
    generalize z2 * 69621 + c / 7 + 5 = z3
    have p2 := Int.emod_nonneg z3 (show (2147483629 : Int) ≠ 0 by omega)
    refine ⟨(z2 * 2147483629 + z3 % 2147483629).toNat, by rw [nD, Int.toNat_of_nonneg (by omega)]⟩
/-- a number's digits -/
def digs : Nat → List Nat → List Nat
  | _, [] => []
  | v, s :: r => v % s :: digs (v / s) r
theorem digs_fold : ∀ (l acc : List Nat) (v : Nat), (l.foldl (fun (a : List Nat × Nat) s => (a.1 ++ [a.2 % s], a.2 / s)) (acc, v)).1 = acc ++ digs v l
  | [], acc, v => by simp [digs]
  | s :: l, acc, v => by
    rw [List.foldl_cons, digs_fold l]
    simp [digs]
theorem digs_length : ∀ (v : Nat) (l : List Nat), (digs v l).length = l.length
  | _, [] => rfl
  | v, s :: r => by simp [digs, digs_length (v / s) r]
theorem digits_eq (v : Nat) (l : List Nat) (h : ∀ s ∈ l, 0 < s ∧ s < 1073741824) (hl : l.length ≤ 1000000) : F__law_digits [nD v, lN l] = .ok (lN (digs v l)) := by
  refine fn_wp rfl ?_
  simp only [den__law_digits, xSet, xAsg, xPar, xExpr, xRet, xRetN, xIf, xFor, xRaise, eBin, eCall, eNil, eCons, eTup, eLst, eChain, tVal, tCmp', tChain', eIsN, eNotN, tIsN', tNotN', tNot', tAnd', tOr', eAnd, eOr, eNot, eNeg, eIf, pNone, pSome, eSl, eDef, eIm, eIsi, sSeq, sRg1, sRg2, tYes', gNil', gCons', unpk, wipeE, eD0, eD1, sKeys, eQix, List.map_cons, List.map_nil, gv_eq, sv_eq, mkT_0, mkT_1, mkT_2, mkT_3, mkT_4, mkT_5, mkL_0, mkL_1, mkL_2, mkL_3, mkL_4, mkL_5, cst_eq, okb, excb, nx_ok, nxA_ok, nxO_nx, nxO_rt, out_ok, out_exc, seqO_eq, next_nx, next_rt, next_bk, next_ct, next_exc, wp_nx, wp_rt, wp_exc, wp_bk, wp_ct, wp_next, dAdd_ii, dSub_ii, dCmp_ii, asB_bl, asI_int, asInt_int, dInt_int, dInt_bl, dLen_tup, dLen_lst, dLen_frz, dMin2_eq, dMax2_eq, dTuple_lst, dTuple_tup, dTuple_frz, dList_lst, dList_tup, dIter_tup, dIter_lst, dIter_frz, dIx_t0, dIx_t1, dIx_t2, dIx_l0, dIx_l1, dIx_l2, dSl_tup, dSl_lst, dEq_ii, dNe_ii, dEq_bb, dNe_bb, dAll_map, dAny_map, List.getElem?_cons_zero, List.getElem?_cons_succ, List.set_cons_zero, List.set_cons_succ, List.length_cons, List.length_nil, Nat.reduceAdd, Nat.zero_add, Nat.reduceSub, List.replicate_succ, List.replicate_zero, List.cons_append, List.nil_append, List.append_nil, reduceIte, if_true, if_false, Bool.false_eq_true, Bool.not_true, Bool.not_false]
  refine wp_for nD (fun p e => ∃ o, e = [some (nD (p.foldl (fun (a : List Nat × Nat) s => (a.1 ++ [a.2 % s], a.2 / s)) ([], v)).2), some (lN l), some (lN (p.foldl (fun (a : List Nat × Nat) s => (a.1 ++ [a.2 % s], a.2 / s)) ([], v)).1), o]) l ⟨_, rfl⟩ ?_ ?_
  · rintro p s q hp e ⟨o, rfl⟩
    obtain ⟨h1, h2⟩ := h s (by rw [hp]; simp)
    have h3 : (p.foldl (fun (a : List Nat × Nat) s => (a.1 ++ [a.2 % s], a.2 / s)) ([], v)).1.length < 16777216 := by
      rw [digs_fold]
      have := digs_length v p
      have := congrArg List.length hp
      simp at this ⊢
      omega
    rw [List.foldl_append]
    generalize p.foldl (fun (a : List Nat × Nat) s => (a.1 ++ [a.2 % s], a.2 / s)) ([], v) = st at *
    refine ⟨_, rfl, ?_⟩
    simp only [seqO_eq, wp_next]
    rw [apD_lst 2 rfl (d := nD (st.2 % s)) (by simp only [xSet, xAsg, xPar, xExpr, xRet, xRetN, xIf, xFor, xRaise, eBin, eCall, eNil, eCons, eTup, eLst, eChain, tVal, tCmp', tChain', eIsN, eNotN, tIsN', tNotN', tNot', tAnd', tOr', eAnd, eOr, eNot, eNeg, eIf, pNone, pSome, eSl, eDef, eIm, eIsi, sSeq, sRg1, sRg2, tYes', gNil', gCons', unpk, wipeE, eD0, eD1, sKeys, eQix, List.map_cons, List.map_nil, gv_eq, sv_eq, mkT_0, mkT_1, mkT_2, mkT_3, mkT_4, mkT_5, mkL_0, mkL_1, mkL_2, mkL_3, mkL_4, mkL_5, cst_eq, okb, excb, nx_ok, nxA_ok, nxO_nx, nxO_rt, out_ok, out_exc, seqO_eq, next_nx, next_rt, next_bk, next_ct, next_exc, wp_nx, wp_rt, wp_exc, wp_bk, wp_ct, wp_next, dAdd_ii, dSub_ii, dCmp_ii, asB_bl, asI_int, asInt_int, dInt_int, dInt_bl, dLen_tup, dLen_lst, dLen_frz, dMin2_eq, dMax2_eq, dTuple_lst, dTuple_tup, dTuple_frz, dList_lst, dList_tup, dIter_tup, dIter_lst, dIter_frz, dIx_t0, dIx_t1, dIx_t2, dIx_l0, dIx_l1, dIx_l2, dSl_tup, dSl_lst, dEq_ii, dNe_ii, dEq_bb, dNe_bb, dAll_map, dAny_map, List.getElem?_cons_zero, List.getElem?_cons_succ, List.set_cons_zero, List.set_cons_succ, List.length_cons, List.length_nil, Nat.reduceAdd, Nat.zero_add, Nat.reduceSub, List.replicate_succ, List.replicate_zero, List.cons_append, List.nil_append, List.append_nil, reduceIte, if_true, if_false, Bool.false_eq_true, Bool.not_true, Bool.not_false, dMod_nn h1]) (by simpa using h3)]
    simp only [xSet, xAsg, xPar, xExpr, xRet, xRetN, xIf, xFor, xRaise, eBin, eCall, eNil, eCons, eTup, eLst, eChain, tVal, tCmp', tChain', eIsN, eNotN, tIsN', tNotN', tNot', tAnd', tOr', eAnd, eOr, eNot, eNeg, eIf, pNone, pSome, eSl, eDef, eIm, eIsi, sSeq, sRg1, sRg2, tYes', gNil', gCons', unpk, wipeE, eD0, eD1, sKeys, eQix, List.map_cons, List.map_nil, gv_eq, sv_eq, mkT_0, mkT_1, mkT_2, mkT_3, mkT_4, mkT_5, mkL_0, mkL_1, mkL_2, mkL_3, mkL_4, mkL_5, cst_eq, okb, excb, nx_ok, nxA_ok, nxO_nx, nxO_rt, out_ok, out_exc, seqO_eq, next_nx, next_rt, next_bk, next_ct, next_exc, wp_nx, wp_rt, wp_exc, wp_bk, wp_ct, wp_next, dAdd_ii, dSub_ii, dCmp_ii, asB_bl, asI_int, asInt_int, dInt_int, dInt_bl, dLen_tup, dLen_lst, dLen_frz, dMin2_eq, dMax2_eq, dTuple_lst, dTuple_tup, dTuple_frz, dList_lst, dList_tup, dIter_tup, dIter_lst, dIter_frz, dIx_t0, dIx_t1, dIx_t2, dIx_l0, dIx_l1, dIx_l2, dSl_tup, dSl_lst, dEq_ii, dNe_ii, dEq_bb, dNe_bb, dAll_map, dAny_map, List.getElem?_cons_zero, List.getElem?_cons_succ, List.set_cons_zero, List.set_cons_succ, List.length_cons, List.length_nil, Nat.reduceAdd, Nat.zero_add, Nat.reduceSub, List.replicate_succ, List.replicate_zero, List.cons_append, List.nil_append, List.append_nil, reduceIte, if_true, if_false, Bool.false_eq_true, Bool.not_true, Bool.not_false, dFdiv_nn h1 h2, map_snoc]
    exact ⟨_, rfl⟩
  · rintro e ⟨o, rfl⟩
    simp only [xSet, xAsg, xPar, xExpr, xRet, xRetN, xIf, xFor, xRaise, eBin, eCall, eNil, eCons, eTup, eLst, eChain, tVal, tCmp', tChain', eIsN, eNotN, tIsN', tNotN', tNot', tAnd', tOr', eAnd, eOr, eNot, eNeg, eIf, pNone, pSome, eSl, eDef, eIm, eIsi, sSeq, sRg1, sRg2, tYes', gNil', gCons', unpk, wipeE, eD0, eD1, sKeys, eQix, List.map_cons, List.map_nil, gv_eq, sv_eq, mkT_0, mkT_1, mkT_2, mkT_3, mkT_4, mkT_5, mkL_0, mkL_1, mkL_2, mkL_3, mkL_4, mkL_5, cst_eq, okb, excb, nx_ok, nxA_ok, nxO_nx, nxO_rt, out_ok, out_exc, seqO_eq, next_nx, next_rt, next_bk, next_ct, next_exc, wp_nx, wp_rt, wp_exc, wp_bk, wp_ct, wp_next, dAdd_ii, dSub_ii, dCmp_ii, asB_bl, asI_int, asInt_int, dInt_int, dInt_bl, dLen_tup, dLen_lst, dLen_frz, dMin2_eq, dMax2_eq, dTuple_lst, dTuple_tup, dTuple_frz, dList_lst, dList_tup, dIter_tup, dIter_lst, dIter_frz, dIx_t0, dIx_t1, dIx_t2, dIx_l0, dIx_l1, dIx_l2, dSl_tup, dSl_lst, dEq_ii, dNe_ii, dEq_bb, dNe_bb, dAll_map, dAny_map, List.getElem?_cons_zero, List.getElem?_cons_succ, List.set_cons_zero, List.set_cons_succ, List.length_cons, List.length_nil, Nat.reduceAdd, Nat.zero_add, Nat.reduceSub, List.replicate_succ, List.replicate_zero, List.cons_append, List.nil_append, List.append_nil, reduceIte, if_true, if_false, Bool.false_eq_true, Bool.not_true, Bool.not_false, digs_fold]
theorem draws_eq (c : Int) (n k : Nat) (hn : 1 ≤ n) (hn2 : n ≤ 1000000) (hk : k ≤ 1000000) : ∃ l : List Nat, l.length = k ∧ Th n l ∧ F__law_draws [.int c, nD n, nD k] = .ok (tN l) := by
  refine fn_wpP (fun r => ∃ l : List Nat, l.length = k ∧ Th n l ∧ r = .ok (tN l)) rfl ?_
  obtain ⟨v, hv⟩ := rich_eq c
  simp only [den__law_draws, xSet, xAsg, xPar, xExpr, xRet, xRetN, xIf, xFor, xRaise, eBin, eCall, eNil, eCons, eTup, eLst, eChain, tVal, tCmp', tChain', eIsN, eNotN, tIsN', tNotN', tNot', tAnd', tOr', eAnd, eOr, eNot, eNeg, eIf, pNone, pSome, eSl, eDef, eIm, eIsi, sSeq, sRg1, sRg2, tYes', gNil', gCons', unpk, wipeE, eD0, eD1, sKeys, eQix, List.map_cons, List.map_nil, gv_eq, sv_eq, mkT_0, mkT_1, mkT_2, mkT_3, mkT_4, mkT_5, mkL_0, mkL_1, mkL_2, mkL_3, mkL_4, mkL_5, cst_eq, okb, excb, nx_ok, nxA_ok, nxO_nx, nxO_rt, out_ok, out_exc, seqO_eq, next_nx, next_rt, next_bk, next_ct, next_exc, wp_nx, wp_rt, wp_exc, wp_bk, wp_ct, wp_next, dAdd_ii, dSub_ii, dCmp_ii, asB_bl, asI_int, asInt_int, dInt_int, dInt_bl, dLen_tup, dLen_lst, dLen_frz, dMin2_eq, dMax2_eq, dTuple_lst, dTuple_tup, dTuple_frz, dList_lst, dList_tup, dIter_tup, dIter_lst, dIter_frz, dIx_t0, dIx_t1, dIx_t2, dIx_l0, dIx_l1, dIx_l2, dSl_tup, dSl_lst, dEq_ii, dNe_ii, dEq_bb, dNe_bb, dAll_map, dAny_map, List.getElem?_cons_zero, List.getElem?_cons_succ, List.set_cons_zero, List.set_cons_succ, List.length_cons, List.length_nil, Nat.reduceAdd, Nat.zero_add, Nat.reduceSub, List.replicate_succ, List.replicate_zero, List.cons_append, List.nil_append, List.append_nil, reduceIte, if_true, if_false, Bool.false_eq_true, Bool.not_true, Bool.not_false, hv, mkRgI_nat (show k ≤ 1000000000 by omega)]
  refine wp_for nD (fun p e => ∃ l v o, l.length = p.length ∧ Th n l ∧ e = [some (.int c), some (nD n), some (nD k), some (nD v), some (lN l), o]) (List.range k) ⟨[], v, _, rfl, fun x hx => by simp at hx, rfl⟩ ?_ ?_
  · rintro p x q hp e ⟨l, v, o, h1, h2, rfl⟩
    refine ⟨_, rfl, ?_⟩
    have hpl : l.length < 16777216 := by
      have := congrArg List.length hp
      simp at this
      omega
    simp only [seqO_eq, wp_next]
    rw [apD_lst 4 rfl (d := nD (v % n)) (by simp only [xSet, xAsg, xPar, xExpr, xRet, xRetN, xIf, xFor, xRaise, eBin, eCall, eNil, eCons, eTup, eLst, eChain, tVal, tCmp', tChain', eIsN, eNotN, tIsN', tNotN', tNot', tAnd', tOr', eAnd, eOr, eNot, eNeg, eIf, pNone, pSome, eSl, eDef, eIm, eIsi, sSeq, sRg1, sRg2, tYes', gNil', gCons', unpk, wipeE, eD0, eD1, sKeys, eQix, List.map_cons, List.map_nil, gv_eq, sv_eq, mkT_0, mkT_1, mkT_2, mkT_3, mkT_4, mkT_5, mkL_0, mkL_1, mkL_2, mkL_3, mkL_4, mkL_5, cst_eq, okb, excb, nx_ok, nxA_ok, nxO_nx, nxO_rt, out_ok, out_exc, seqO_eq, next_nx, next_rt, next_bk, next_ct, next_exc, wp_nx, wp_rt, wp_exc, wp_bk, wp_ct, wp_next, dAdd_ii, dSub_ii, dCmp_ii, asB_bl, asI_int, asInt_int, dInt_int, dInt_bl, dLen_tup, dLen_lst, dLen_frz, dMin2_eq, dMax2_eq, dTuple_lst, dTuple_tup, dTuple_frz, dList_lst, dList_tup, dIter_tup, dIter_lst, dIter_frz, dIx_t0, dIx_t1, dIx_t2, dIx_l0, dIx_l1, dIx_l2, dSl_tup, dSl_lst, dEq_ii, dNe_ii, dEq_bb, dNe_bb, dAll_map, dAny_map, List.getElem?_cons_zero, List.getElem?_cons_succ, List.set_cons_zero, List.set_cons_succ, List.length_cons, List.length_nil, Nat.reduceAdd, Nat.zero_add, Nat.reduceSub, List.replicate_succ, List.replicate_zero, List.cons_append, List.nil_append, List.append_nil, reduceIte, if_true, if_false, Bool.false_eq_true, Bool.not_true, Bool.not_false, dMod_nn (show 0 < n by omega)]) (by simpa using hpl)]
    simp only [xSet, xAsg, xPar, xExpr, xRet, xRetN, xIf, xFor, xRaise, eBin, eCall, eNil, eCons, eTup, eLst, eChain, tVal, tCmp', tChain', eIsN, eNotN, tIsN', tNotN', tNot', tAnd', tOr', eAnd, eOr, eNot, eNeg, eIf, pNone, pSome, eSl, eDef, eIm, eIsi, sSeq, sRg1, sRg2, tYes', gNil', gCons', unpk, wipeE, eD0, eD1, sKeys, eQix, List.map_cons, List.map_nil, gv_eq, sv_eq, mkT_0, mkT_1, mkT_2, mkT_3, mkT_4, mkT_5, mkL_0, mkL_1, mkL_2, mkL_3, mkL_4, mkL_5, cst_eq, okb, excb, nx_ok, nxA_ok, nxO_nx, nxO_rt, out_ok, out_exc, seqO_eq, next_nx, next_rt, next_bk, next_ct, next_exc, wp_nx, wp_rt, wp_exc, wp_bk, wp_ct, wp_next, dAdd_ii, dSub_ii, dCmp_ii, asB_bl, asI_int, asInt_int, dInt_int, dInt_bl, dLen_tup, dLen_lst, dLen_frz, dMin2_eq, dMax2_eq, dTuple_lst, dTuple_tup, dTuple_frz, dList_lst, dList_tup, dIter_tup, dIter_lst, dIter_frz, dIx_t0, dIx_t1, dIx_t2, dIx_l0, dIx_l1, dIx_l2, dSl_tup, dSl_lst, dEq_ii, dNe_ii, dEq_bb, dNe_bb, dAll_map, dAny_map, List.getElem?_cons_zero, List.getElem?_cons_succ, List.set_cons_zero, List.set_cons_succ, List.length_cons, List.length_nil, Nat.reduceAdd, Nat.zero_add, Nat.reduceSub, List.replicate_succ, List.replicate_zero, List.cons_append, List.nil_append, List.append_nil, reduceIte, if_true, if_false, Bool.false_eq_true, Bool.not_true, Bool.not_false, map_snoc, dFdiv_nn (show 0 < n by omega) (show n < 1073741824 by omega)]
    have h3 : Th n (l ++ [v % n]) := by
      intro y hy
      rcases List.mem_append.mp hy with hy | hy
      · exact h2 y hy
      · have : y = v % n := by simpa using hy
        subst this
        exact Nat.mod_lt _ (by omega)
    by_cases hz : ((v / n : Nat) : Int) = 0
    · obtain ⟨v2, hv2⟩ := rich_eq (c + 13 * (x : Int) + 1)
      simp only [decide_eq_true hz, xSet, xAsg, xPar, xExpr, xRet, xRetN, xIf, xFor, xRaise, eBin, eCall, eNil, eCons, eTup, eLst, eChain, tVal, tCmp', tChain', eIsN, eNotN, tIsN', tNotN', tNot', tAnd', tOr', eAnd, eOr, eNot, eNeg, eIf, pNone, pSome, eSl, eDef, eIm, eIsi, sSeq, sRg1, sRg2, tYes', gNil', gCons', unpk, wipeE, eD0, eD1, sKeys, eQix, List.map_cons, List.map_nil, gv_eq, sv_eq, mkT_0, mkT_1, mkT_2, mkT_3, mkT_4, mkT_5, mkL_0, mkL_1, mkL_2, mkL_3, mkL_4, mkL_5, cst_eq, okb, excb, nx_ok, nxA_ok, nxO_nx, nxO_rt, out_ok, out_exc, seqO_eq, next_nx, next_rt, next_bk, next_ct, next_exc, wp_nx, wp_rt, wp_exc, wp_bk, wp_ct, wp_next, dAdd_ii, dSub_ii, dCmp_ii, asB_bl, asI_int, asInt_int, dInt_int, dInt_bl, dLen_tup, dLen_lst, dLen_frz, dMin2_eq, dMax2_eq, dTuple_lst, dTuple_tup, dTuple_frz, dList_lst, dList_tup, dIter_tup, dIter_lst, dIter_frz, dIx_t0, dIx_t1, dIx_t2, dIx_l0, dIx_l1, dIx_l2, dSl_tup, dSl_lst, dEq_ii, dNe_ii, dEq_bb, dNe_bb, dAll_map, dAny_map, List.getElem?_cons_zero, List.getElem?_cons_succ, List.set_cons_zero, List.set_cons_succ, List.length_cons, List.length_nil, Nat.reduceAdd, Nat.zero_add, Nat.reduceSub, List.replicate_succ, List.replicate_zero, List.cons_append, List.nil_append, List.append_nil, reduceIte, if_true, if_false, Bool.false_eq_true, Bool.not_true, Bool.not_false, dMul_l (show smallI 13 = true from rfl), hv2]
      exact ⟨l ++ [v % n], v2, _, by simp [h1], h3, rfl⟩
    · simp only [decide_eq_false hz, xSet, xAsg, xPar, xExpr, xRet, xRetN, xIf, xFor, xRaise, eBin, eCall, eNil, eCons, eTup, eLst, eChain, tVal, tCmp', tChain', eIsN, eNotN, tIsN', tNotN', tNot', tAnd', tOr', eAnd, eOr, eNot, eNeg, eIf, pNone, pSome, eSl, eDef, eIm, eIsi, sSeq, sRg1, sRg2, tYes', gNil', gCons', unpk, wipeE, eD0, eD1, sKeys, eQix, List.map_cons, List.map_nil, gv_eq, sv_eq, mkT_0, mkT_1, mkT_2, mkT_3, mkT_4, mkT_5, mkL_0, mkL_1, mkL_2, mkL_3, mkL_4, mkL_5, cst_eq, okb, excb, nx_ok, nxA_ok, nxO_nx, nxO_rt, out_ok, out_exc, seqO_eq, next_nx, next_rt, next_bk, next_ct, next_exc, wp_nx, wp_rt, wp_exc, wp_bk, wp_ct, wp_next, dAdd_ii, dSub_ii, dCmp_ii, asB_bl, asI_int, asInt_int, dInt_int, dInt_bl, dLen_tup, dLen_lst, dLen_frz, dMin2_eq, dMax2_eq, dTuple_lst, dTuple_tup, dTuple_frz, dList_lst, dList_tup, dIter_tup, dIter_lst, dIter_frz, dIx_t0, dIx_t1, dIx_t2, dIx_l0, dIx_l1, dIx_l2, dSl_tup, dSl_lst, dEq_ii, dNe_ii, dEq_bb, dNe_bb, dAll_map, dAny_map, List.getElem?_cons_zero, List.getElem?_cons_succ, List.set_cons_zero, List.set_cons_succ, List.length_cons, List.length_nil, Nat.reduceAdd, Nat.zero_add, Nat.reduceSub, List.replicate_succ, List.replicate_zero, List.cons_append, List.nil_append, List.append_nil, reduceIte, if_true, if_false, Bool.false_eq_true, Bool.not_true, Bool.not_false]
      exact ⟨l ++ [v % n], v / n, _, by simp [h1], h3, rfl⟩
  · rintro e ⟨l, v, o, h1, h2, rfl⟩
    simp only [xSet, xAsg, xPar, xExpr, xRet, xRetN, xIf, xFor, xRaise, eBin, eCall, eNil, eCons, eTup, eLst, eChain, tVal, tCmp', tChain', eIsN, eNotN, tIsN', tNotN', tNot', tAnd', tOr', eAnd, eOr, eNot, eNeg, eIf, pNone, pSome, eSl, eDef, eIm, eIsi, sSeq, sRg1, sRg2, tYes', gNil', gCons', unpk, wipeE, eD0, eD1, sKeys, eQix, List.map_cons, List.map_nil, gv_eq, sv_eq, mkT_0, mkT_1, mkT_2, mkT_3, mkT_4, mkT_5, mkL_0, mkL_1, mkL_2, mkL_3, mkL_4, mkL_5, cst_eq, okb, excb, nx_ok, nxA_ok, nxO_nx, nxO_rt, out_ok, out_exc, seqO_eq, next_nx, next_rt, next_bk, next_ct, next_exc, wp_nx, wp_rt, wp_exc, wp_bk, wp_ct, wp_next, dAdd_ii, dSub_ii, dCmp_ii, asB_bl, asI_int, asInt_int, dInt_int, dInt_bl, dLen_tup, dLen_lst, dLen_frz, dMin2_eq, dMax2_eq, dTuple_lst, dTuple_tup, dTuple_frz, dList_lst, dList_tup, dIter_tup, dIter_lst, dIter_frz, dIx_t0, dIx_t1, dIx_t2, dIx_l0, dIx_l1, dIx_l2, dSl_tup, dSl_lst, dEq_ii, dNe_ii, dEq_bb, dNe_bb, dAll_map, dAny_map, List.getElem?_cons_zero, List.getElem?_cons_succ, List.set_cons_zero, List.set_cons_succ, List.length_cons, List.length_nil, Nat.reduceAdd, Nat.zero_add, Nat.reduceSub, List.replicate_succ, List.replicate_zero, List.cons_append, List.nil_append, List.append_nil, reduceIte, if_true, if_false, Bool.false_eq_true, Bool.not_true, Bool.not_false]
    exact ⟨l, by simpa using h1, h2, rfl⟩
theorem ltuples_eq (n k : Nat) (hn : 1 ≤ n) (hn2 : n ≤ 1000000) (hk : k ≤ 1000000) (h : n ^ k ≤ 16000000) : F__law_tuples [nD n, nD k] = .ok (.lst ((tps n k).map tN)) := by
  refine fn_wp rfl ?_
  simp only [den__law_tuples, xSet, xAsg, xPar, xExpr, xRet, xRetN, xIf, xFor, xRaise, eBin, eCall, eNil, eCons, eTup, eLst, eChain, tVal, tCmp', tChain', eIsN, eNotN, tIsN', tNotN', tNot', tAnd', tOr', eAnd, eOr, eNot, eNeg, eIf, pNone, pSome, eSl, eDef, eIm, eIsi, sSeq, sRg1, sRg2, tYes', gNil', gCons', unpk, wipeE, eD0, eD1, sKeys, eQix, List.map_cons, List.map_nil, gv_eq, sv_eq, mkT_0, mkT_1, mkT_2, mkT_3, mkT_4, mkT_5, mkL_0, mkL_1, mkL_2, mkL_3, mkL_4, mkL_5, cst_eq, okb, excb, nx_ok, nxA_ok, nxO_nx, nxO_rt, out_ok, out_exc, seqO_eq, next_nx, next_rt, next_bk, next_ct, next_exc, wp_nx, wp_rt, wp_exc, wp_bk, wp_ct, wp_next, dAdd_ii, dSub_ii, dCmp_ii, asB_bl, asI_int, asInt_int, dInt_int, dInt_bl, dLen_tup, dLen_lst, dLen_frz, dMin2_eq, dMax2_eq, dTuple_lst, dTuple_tup, dTuple_frz, dList_lst, dList_tup, dIter_tup, dIter_lst, dIter_frz, dIx_t0, dIx_t1, dIx_t2, dIx_l0, dIx_l1, dIx_l2, dSl_tup, dSl_lst, dEq_ii, dNe_ii, dEq_bb, dNe_bb, dAll_map, dAny_map, List.getElem?_cons_zero, List.getElem?_cons_succ, List.set_cons_zero, List.set_cons_succ, List.length_cons, List.length_nil, Nat.reduceAdd, Nat.zero_add, Nat.reduceSub, List.replicate_succ, List.replicate_zero, List.cons_append, List.nil_append, List.append_nil, reduceIte, if_true, if_false, Bool.false_eq_true, Bool.not_true, Bool.not_false, mkRgI_nat (show k ≤ 1000000000 by omega)]
  refine wp_for nD (fun p e => ∃ o a b, e = [some (nD n), some (nD k), some (.lst ((tps n p.length).map tN)), o, a, b, none]) (List.range k) ⟨_, _, _, rfl⟩ ?_ ?_
  · rintro p x q hp e ⟨o, a, b, rfl⟩
    have hpk : p.length + 1 ≤ k := by
      have := congrArg List.length hp
      simp at this
      omega
    have hlen : (tps n (p.length + 1)).length ≤ 16000000 := by
      rw [tps_length]
      exact Nat.le_trans (pow_mono hn hpk) h
    refine ⟨_, rfl, ?_⟩
    simp only [xSet, xAsg, xPar, xExpr, xRet, xRetN, xIf, xFor, xRaise, eBin, eCall, eNil, eCons, eTup, eLst, eChain, tVal, tCmp', tChain', eIsN, eNotN, tIsN', tNotN', tNot', tAnd', tOr', eAnd, eOr, eNot, eNeg, eIf, pNone, pSome, eSl, eDef, eIm, eIsi, sSeq, sRg1, sRg2, tYes', gNil', gCons', unpk, wipeE, eD0, eD1, sKeys, eQix, List.map_cons, List.map_nil, gv_eq, sv_eq, mkT_0, mkT_1, mkT_2, mkT_3, mkT_4, mkT_5, mkL_0, mkL_1, mkL_2, mkL_3, mkL_4, mkL_5, cst_eq, okb, excb, nx_ok, nxA_ok, nxO_nx, nxO_rt, out_ok, out_exc, seqO_eq, next_nx, next_rt, next_bk, next_ct, next_exc, wp_nx, wp_rt, wp_exc, wp_bk, wp_ct, wp_next, dAdd_ii, dSub_ii, dCmp_ii, asB_bl, asI_int, asInt_int, dInt_int, dInt_bl, dLen_tup, dLen_lst, dLen_frz, dMin2_eq, dMax2_eq, dTuple_lst, dTuple_tup, dTuple_frz, dList_lst, dList_tup, dIter_tup, dIter_lst, dIter_frz, dIx_t0, dIx_t1, dIx_t2, dIx_l0, dIx_l1, dIx_l2, dSl_tup, dSl_lst, dEq_ii, dNe_ii, dEq_bb, dNe_bb, dAll_map, dAny_map, List.getElem?_cons_zero, List.getElem?_cons_succ, List.set_cons_zero, List.set_cons_succ, List.length_cons, List.length_nil, Nat.reduceAdd, Nat.zero_add, Nat.reduceSub, List.replicate_succ, List.replicate_zero, List.cons_append, List.nil_append, List.append_nil, reduceIte, if_true, if_false, Bool.false_eq_true, Bool.not_true, Bool.not_false]
    refine wp_for tN (fun w e => ∃ b, e = [some (nD n), some (nD k), some (.lst ((tps n p.length).map tN)), some (nD x), some (.lst ((w.flatMap fun r => (List.range n).map fun t => r ++ [t]).map tN)), b, none]) (tps n p.length) ⟨_, rfl⟩ ?_ ?_
    · rintro w r q2 hw e ⟨b, rfl⟩
      have hr : r ∈ tps n p.length := by rw [hw]; simp
      obtain ⟨hr1, hr2⟩ := tps_mem hr
      refine ⟨_, rfl, ?_⟩
      simp only [xSet, xAsg, xPar, xExpr, xRet, xRetN, xIf, xFor, xRaise, eBin, eCall, eNil, eCons, eTup, eLst, eChain, tVal, tCmp', tChain', eIsN, eNotN, tIsN', tNotN', tNot', tAnd', tOr', eAnd, eOr, eNot, eNeg, eIf, pNone, pSome, eSl, eDef, eIm, eIsi, sSeq, sRg1, sRg2, tYes', gNil', gCons', unpk, wipeE, eD0, eD1, sKeys, eQix, List.map_cons, List.map_nil, gv_eq, sv_eq, mkT_0, mkT_1, mkT_2, mkT_3, mkT_4, mkT_5, mkL_0, mkL_1, mkL_2, mkL_3, mkL_4, mkL_5, cst_eq, okb, excb, nx_ok, nxA_ok, nxO_nx, nxO_rt, out_ok, out_exc, seqO_eq, next_nx, next_rt, next_bk, next_ct, next_exc, wp_nx, wp_rt, wp_exc, wp_bk, wp_ct, wp_next, dAdd_ii, dSub_ii, dCmp_ii, asB_bl, asI_int, asInt_int, dInt_int, dInt_bl, dLen_tup, dLen_lst, dLen_frz, dMin2_eq, dMax2_eq, dTuple_lst, dTuple_tup, dTuple_frz, dList_lst, dList_tup, dIter_tup, dIter_lst, dIter_frz, dIx_t0, dIx_t1, dIx_t2, dIx_l0, dIx_l1, dIx_l2, dSl_tup, dSl_lst, dEq_ii, dNe_ii, dEq_bb, dNe_bb, dAll_map, dAny_map, List.getElem?_cons_zero, List.getElem?_cons_succ, List.set_cons_zero, List.set_cons_succ, List.length_cons, List.length_nil, Nat.reduceAdd, Nat.zero_add, Nat.reduceSub, List.replicate_succ, List.replicate_zero, List.cons_append, List.nil_append, List.append_nil, reduceIte, if_true, if_false, Bool.false_eq_true, Bool.not_true, Bool.not_false]
      rw [eLc_map nD (fun t => tN (r ++ [t])) (List.range n) ?hs (by simp; omega) ?hh]
      case hs => simp only [xSet, xAsg, xPar, xExpr, xRet, xRetN, xIf, xFor, xRaise, eBin, eCall, eNil, eCons, eTup, eLst, eChain, tVal, tCmp', tChain', eIsN, eNotN, tIsN', tNotN', tNot', tAnd', tOr', eAnd, eOr, eNot, eNeg, eIf, pNone, pSome, eSl, eDef, eIm, eIsi, sSeq, sRg1, sRg2, tYes', gNil', gCons', unpk, wipeE, eD0, eD1, sKeys, eQix, List.map_cons, List.map_nil, gv_eq, sv_eq, mkT_0, mkT_1, mkT_2, mkT_3, mkT_4, mkT_5, mkL_0, mkL_1, mkL_2, mkL_3, mkL_4, mkL_5, cst_eq, okb, excb, nx_ok, nxA_ok, nxO_nx, nxO_rt, out_ok, out_exc, seqO_eq, next_nx, next_rt, next_bk, next_ct, next_exc, wp_nx, wp_rt, wp_exc, wp_bk, wp_ct, wp_next, dAdd_ii, dSub_ii, dCmp_ii, asB_bl, asI_int, asInt_int, dInt_int, dInt_bl, dLen_tup, dLen_lst, dLen_frz, dMin2_eq, dMax2_eq, dTuple_lst, dTuple_tup, dTuple_frz, dList_lst, dList_tup, dIter_tup, dIter_lst, dIter_frz, dIx_t0, dIx_t1, dIx_t2, dIx_l0, dIx_l1, dIx_l2, dSl_tup, dSl_lst, dEq_ii, dNe_ii, dEq_bb, dNe_bb, dAll_map, dAny_map, List.getElem?_cons_zero, List.getElem?_cons_succ, List.set_cons_zero, List.set_cons_succ, List.length_cons, List.length_nil, Nat.reduceAdd, Nat.zero_add, Nat.reduceSub, List.replicate_succ, List.replicate_zero, List.cons_append, List.nil_append, List.append_nil, reduceIte, if_true, if_false, Bool.false_eq_true, Bool.not_true, Bool.not_false, mkRgI_nat (show n ≤ 1000000000 by omega)]
      case hh =>
        intro t ht
        refine ⟨_, rfl, rfl, ?_⟩
        simp only [xSet, xAsg, xPar, xExpr, xRet, xRetN, xIf, xFor, xRaise, eBin, eCall, eNil, eCons, eTup, eLst, eChain, tVal, tCmp', tChain', eIsN, eNotN, tIsN', tNotN', tNot', tAnd', tOr', eAnd, eOr, eNot, eNeg, eIf, pNone, pSome, eSl, eDef, eIm, eIsi, sSeq, sRg1, sRg2, tYes', gNil', gCons', unpk, wipeE, eD0, eD1, sKeys, eQix, List.map_cons, List.map_nil, gv_eq, sv_eq, mkT_0, mkT_1, mkT_2, mkT_3, mkT_4, mkT_5, mkL_0, mkL_1, mkL_2, mkL_3, mkL_4, mkL_5, cst_eq, okb, excb, nx_ok, nxA_ok, nxO_nx, nxO_rt, out_ok, out_exc, seqO_eq, next_nx, next_rt, next_bk, next_ct, next_exc, wp_nx, wp_rt, wp_exc, wp_bk, wp_ct, wp_next, dAdd_ii, dSub_ii, dCmp_ii, asB_bl, asI_int, asInt_int, dInt_int, dInt_bl, dLen_tup, dLen_lst, dLen_frz, dMin2_eq, dMax2_eq, dTuple_lst, dTuple_tup, dTuple_frz, dList_lst, dList_tup, dIter_tup, dIter_lst, dIter_frz, dIx_t0, dIx_t1, dIx_t2, dIx_l0, dIx_l1, dIx_l2, dSl_tup, dSl_lst, dEq_ii, dNe_ii, dEq_bb, dNe_bb, dAll_map, dAny_map, List.getElem?_cons_zero, List.getElem?_cons_succ, List.set_cons_zero, List.set_cons_succ, List.length_cons, List.length_nil, Nat.reduceAdd, Nat.zero_add, Nat.reduceSub, List.replicate_succ, List.replicate_zero, List.cons_append, List.nil_append, List.append_nil, reduceIte, if_true, if_false, Bool.false_eq_true, Bool.not_true, Bool.not_false]
        rw [dAdd_tt (by simp; omega)]
        simp
      have hsz : (w.flatMap fun r => (List.range n).map fun t => r ++ [t]).length + n ≤ 16777216 := by
        have e1 : ∀ w : List (List Nat), (w.flatMap fun r => (List.range n).map fun t => r ++ [t]).length = w.length * n := fun w => by simp [List.length_flatMap, List.map_const', List.sum_replicate_nat]
        rw [show tps n (p.length + 1) = (tps n p.length).flatMap fun r => (List.range n).map fun t => r ++ [t] from rfl, e1] at hlen
        have e2 : w.length + 1 ≤ (tps n p.length).length := by rw [hw]; simp
        have e3 := Nat.mul_le_mul_right n e2
        rw [Nat.add_mul, Nat.one_mul] at e3
        rw [e1]
        omega
      simp only [xSet, xAsg, xPar, xExpr, xRet, xRetN, xIf, xFor, xRaise, eBin, eCall, eNil, eCons, eTup, eLst, eChain, tVal, tCmp', tChain', eIsN, eNotN, tIsN', tNotN', tNot', tAnd', tOr', eAnd, eOr, eNot, eNeg, eIf, pNone, pSome, eSl, eDef, eIm, eIsi, sSeq, sRg1, sRg2, tYes', gNil', gCons', unpk, wipeE, eD0, eD1, sKeys, eQix, List.map_cons, List.map_nil, gv_eq, sv_eq, mkT_0, mkT_1, mkT_2, mkT_3, mkT_4, mkT_5, mkL_0, mkL_1, mkL_2, mkL_3, mkL_4, mkL_5, cst_eq, okb, excb, nx_ok, nxA_ok, nxO_nx, nxO_rt, out_ok, out_exc, seqO_eq, next_nx, next_rt, next_bk, next_ct, next_exc, wp_nx, wp_rt, wp_exc, wp_bk, wp_ct, wp_next, dAdd_ii, dSub_ii, dCmp_ii, asB_bl, asI_int, asInt_int, dInt_int, dInt_bl, dLen_tup, dLen_lst, dLen_frz, dMin2_eq, dMax2_eq, dTuple_lst, dTuple_tup, dTuple_frz, dList_lst, dList_tup, dIter_tup, dIter_lst, dIter_frz, dIx_t0, dIx_t1, dIx_t2, dIx_l0, dIx_l1, dIx_l2, dSl_tup, dSl_lst, dEq_ii, dNe_ii, dEq_bb, dNe_bb, dAll_map, dAny_map, List.getElem?_cons_zero, List.getElem?_cons_succ, List.set_cons_zero, List.set_cons_succ, List.length_cons, List.length_nil, Nat.reduceAdd, Nat.zero_add, Nat.reduceSub, List.replicate_succ, List.replicate_zero, List.cons_append, List.nil_append, List.append_nil, reduceIte, if_true, if_false, Bool.false_eq_true, Bool.not_true, Bool.not_false]
      rw [dAdd_ll (by simpa using hsz)]
      simp only [xSet, xAsg, xPar, xExpr, xRet, xRetN, xIf, xFor, xRaise, eBin, eCall, eNil, eCons, eTup, eLst, eChain, tVal, tCmp', tChain', eIsN, eNotN, tIsN', tNotN', tNot', tAnd', tOr', eAnd, eOr, eNot, eNeg, eIf, pNone, pSome, eSl, eDef, eIm, eIsi, sSeq, sRg1, sRg2, tYes', gNil', gCons', unpk, wipeE, eD0, eD1, sKeys, eQix, List.map_cons, List.map_nil, gv_eq, sv_eq, mkT_0, mkT_1, mkT_2, mkT_3, mkT_4, mkT_5, mkL_0, mkL_1, mkL_2, mkL_3, mkL_4, mkL_5, cst_eq, okb, excb, nx_ok, nxA_ok, nxO_nx, nxO_rt, out_ok, out_exc, seqO_eq, next_nx, next_rt, next_bk, next_ct, next_exc, wp_nx, wp_rt, wp_exc, wp_bk, wp_ct, wp_next, dAdd_ii, dSub_ii, dCmp_ii, asB_bl, asI_int, asInt_int, dInt_int, dInt_bl, dLen_tup, dLen_lst, dLen_frz, dMin2_eq, dMax2_eq, dTuple_lst, dTuple_tup, dTuple_frz, dList_lst, dList_tup, dIter_tup, dIter_lst, dIter_frz, dIx_t0, dIx_t1, dIx_t2, dIx_l0, dIx_l1, dIx_l2, dSl_tup, dSl_lst, dEq_ii, dNe_ii, dEq_bb, dNe_bb, dAll_map, dAny_map, List.getElem?_cons_zero, List.getElem?_cons_succ, List.set_cons_zero, List.set_cons_succ, List.length_cons, List.length_nil, Nat.reduceAdd, Nat.zero_add, Nat.reduceSub, List.replicate_succ, List.replicate_zero, List.cons_append, List.nil_append, List.append_nil, reduceIte, if_true, if_false, Bool.false_eq_true, Bool.not_true, Bool.not_false]
      exact ⟨_, by simp; rfl⟩
    · rintro e ⟨b, rfl⟩
      simp only [xSet, xAsg, xPar, xExpr, xRet, xRetN, xIf, xFor, xRaise, eBin, eCall, eNil, eCons, eTup, eLst, eChain, tVal, tCmp', tChain', eIsN, eNotN, tIsN', tNotN', tNot', tAnd', tOr', eAnd, eOr, eNot, eNeg, eIf, pNone, pSome, eSl, eDef, eIm, eIsi, sSeq, sRg1, sRg2, tYes', gNil', gCons', unpk, wipeE, eD0, eD1, sKeys, eQix, List.map_cons, List.map_nil, gv_eq, sv_eq, mkT_0, mkT_1, mkT_2, mkT_3, mkT_4, mkT_5, mkL_0, mkL_1, mkL_2, mkL_3, mkL_4, mkL_5, cst_eq, okb, excb, nx_ok, nxA_ok, nxO_nx, nxO_rt, out_ok, out_exc, seqO_eq, next_nx, next_rt, next_bk, next_ct, next_exc, wp_nx, wp_rt, wp_exc, wp_bk, wp_ct, wp_next, dAdd_ii, dSub_ii, dCmp_ii, asB_bl, asI_int, asInt_int, dInt_int, dInt_bl, dLen_tup, dLen_lst, dLen_frz, dMin2_eq, dMax2_eq, dTuple_lst, dTuple_tup, dTuple_frz, dList_lst, dList_tup, dIter_tup, dIter_lst, dIter_frz, dIx_t0, dIx_t1, dIx_t2, dIx_l0, dIx_l1, dIx_l2, dSl_tup, dSl_lst, dEq_ii, dNe_ii, dEq_bb, dNe_bb, dAll_map, dAny_map, List.getElem?_cons_zero, List.getElem?_cons_succ, List.set_cons_zero, List.set_cons_succ, List.length_cons, List.length_nil, Nat.reduceAdd, Nat.zero_add, Nat.reduceSub, List.replicate_succ, List.replicate_zero, List.cons_append, List.nil_append, List.append_nil, reduceIte, if_true, if_false, Bool.false_eq_true, Bool.not_true, Bool.not_false]
      exact ⟨some (nD x), some (.lst ((tps n (p.length + 1)).map tN)), b, by simp [tps]⟩
  · rintro e ⟨o, a, b, rfl⟩
    simp only [xSet, xAsg, xPar, xExpr, xRet, xRetN, xIf, xFor, xRaise, eBin, eCall, eNil, eCons, eTup, eLst, eChain, tVal, tCmp', tChain', eIsN, eNotN, tIsN', tNotN', tNot', tAnd', tOr', eAnd, eOr, eNot, eNeg, eIf, pNone, pSome, eSl, eDef, eIm, eIsi, sSeq, sRg1, sRg2, tYes', gNil', gCons', unpk, wipeE, eD0, eD1, sKeys, eQix, List.map_cons, List.map_nil, gv_eq, sv_eq, mkT_0, mkT_1, mkT_2, mkT_3, mkT_4, mkT_5, mkL_0, mkL_1, mkL_2, mkL_3, mkL_4, mkL_5, cst_eq, okb, excb, nx_ok, nxA_ok, nxO_nx, nxO_rt, out_ok, out_exc, seqO_eq, next_nx, next_rt, next_bk, next_ct, next_exc, wp_nx, wp_rt, wp_exc, wp_bk, wp_ct, wp_next, dAdd_ii, dSub_ii, dCmp_ii, asB_bl, asI_int, asInt_int, dInt_int, dInt_bl, dLen_tup, dLen_lst, dLen_frz, dMin2_eq, dMax2_eq, dTuple_lst, dTuple_tup, dTuple_frz, dList_lst, dList_tup, dIter_tup, dIter_lst, dIter_frz, dIx_t0, dIx_t1, dIx_t2, dIx_l0, dIx_l1, dIx_l2, dSl_tup, dSl_lst, dEq_ii, dNe_ii, dEq_bb, dNe_bb, dAll_map, dAny_map, List.getElem?_cons_zero, List.getElem?_cons_succ, List.set_cons_zero, List.set_cons_succ, List.length_cons, List.length_nil, Nat.reduceAdd, Nat.zero_add, Nat.reduceSub, List.replicate_succ, List.replicate_zero, List.cons_append, List.nil_append, List.append_nil, reduceIte, if_true, if_false, Bool.false_eq_true, Bool.not_true, Bool.not_false, List.length_range]
/-- an operation's arity and table -/
structure TOp (n r : Nat) (t : List Nat) : Prop where
  n1 : 1 ≤ n
  n8 : n ≤ 8
  r2 : r ≤ 2
  len : t.length = n ^ r
  th : Th n t
abbrev opD (r : Nat) (t : List Nat) : D := .tup [nD r, tN t]
theorem pow64 {n r : Nat} (h1 : 1 ≤ n) (h8 : n ≤ 8) (hr : r ≤ 2) : n ^ r ≤ 64 := by
  have e1 : n ^ r ≤ n ^ 2 := Nat.pow_le_pow_right h1 hr
  have e2 : n ^ 2 = n * n := Nat.pow_two n
  have e3 : n * n ≤ 8 * 8 := Nat.mul_le_mul h8 h8
  omega
theorem TOp.mk2 {n : Nat} (h1 : 1 ≤ n) (h8 : n ≤ 8) (f : List Nat → Nat) (hf : ∀ a b, a < n → b < n → f [a, b] < n) : TOp n 2 ((tps n 2).map f) := by
  refine ⟨h1, h8, by omega, by rw [List.length_map, tps_length], ?_⟩
  intro x hx
  obtain ⟨row, hr, rfl⟩ := List.mem_map.mp hx
  obtain ⟨z1, z2⟩ := tps_mem hr
  match row, z1, z2 with
  | [a, b], _, z2 => exact hf a b (z2 a (by simp)) (z2 b (by simp))
theorem TOp.mk1 {n : Nat} (h1 : 1 ≤ n) (h8 : n ≤ 8) (f : Nat → Nat) (hf : ∀ a, a < n → f a < n) : TOp n 1 ((List.range n).map f) := by
  refine ⟨h1, h8, by omega, by simp, ?_⟩
  intro x hx
  obtain ⟨a, ha, rfl⟩ := List.mem_map.mp hx
  exact hf a (List.mem_range.mp ha)
theorem TOp.take {n r : Nat} (h1 : 1 ≤ n) (h8 : n ≤ 8) (r2 : r ≤ 2) {l : List Nat} (hl : l.length = 64) (ht : Th n l) : TOp n r (l.take (n ^ r)) :=
  ⟨h1, h8, r2, by rw [List.length_take]; have := pow64 h1 h8 r2; omega, fun x hx => ht x (List.mem_of_mem_take hx)⟩
/-- a table over the pairs -/
theorem pairs_eq {n : Nat} {el : DL.Env → R D} {a b c d : Option D} (f : List Nat → Nat) (h : ∀ x y, x < n → y < n → el [a, b, c, some (.lst ((tps n 2).map tN)), d, some (nD x), some (nD y)] = .ok (nD (f [x, y]))) (hn : n ≤ 8) :
    eLc [5, 6] (sSeq (gv 3)) (unpk 2 (gCons' (sv 5) (gCons' (sv 6) gNil'))) tYes' el [a, b, c, some (.lst ((tps n 2).map tN)), d, none, none] = .ok (.lst (((tps n 2).map f).map nD)) := by
  have hl : (tps n 2).length ≤ 16777216 := by
    rw [tps_length, Nat.pow_two]
    have := Nat.mul_le_mul hn hn
    omega
  rw [eLc_map tN (fun row => nD (f row)) (tps n 2) (by simp only [xSet, xAsg, xPar, xExpr, xRet, xRetN, xIf, xFor, xRaise, eBin, eCall, eNil, eCons, eTup, eLst, eChain, tVal, tCmp', tChain', eIsN, eNotN, tIsN', tNotN', tNot', tAnd', tOr', eAnd, eOr, eNot, eNeg, eIf, pNone, pSome, eSl, eDef, eIm, eIsi, sSeq, sRg1, sRg2, tYes', gNil', gCons', unpk, wipeE, eD0, eD1, sKeys, eQix, List.map_cons, List.map_nil, gv_eq, sv_eq, mkT_0, mkT_1, mkT_2, mkT_3, mkT_4, mkT_5, mkL_0, mkL_1, mkL_2, mkL_3, mkL_4, mkL_5, cst_eq, okb, excb, nx_ok, nxA_ok, nxO_nx, nxO_rt, out_ok, out_exc, seqO_eq, next_nx, next_rt, next_bk, next_ct, next_exc, wp_nx, wp_rt, wp_exc, wp_bk, wp_ct, wp_next, dAdd_ii, dSub_ii, dCmp_ii, asB_bl, asI_int, asInt_int, dInt_int, dInt_bl, dLen_tup, dLen_lst, dLen_frz, dMin2_eq, dMax2_eq, dTuple_lst, dTuple_tup, dTuple_frz, dList_lst, dList_tup, dIter_tup, dIter_lst, dIter_frz, dIx_t0, dIx_t1, dIx_t2, dIx_l0, dIx_l1, dIx_l2, dSl_tup, dSl_lst, dEq_ii, dNe_ii, dEq_bb, dNe_bb, dAll_map, dAny_map, List.getElem?_cons_zero, List.getElem?_cons_succ, List.set_cons_zero, List.set_cons_succ, List.length_cons, List.length_nil, Nat.reduceAdd, Nat.zero_add, Nat.reduceSub, List.replicate_succ, List.replicate_zero, List.cons_append, List.nil_append, List.append_nil, reduceIte, if_true, if_false, Bool.false_eq_true, Bool.not_true, Bool.not_false]) hl ?_]
  · rw [List.map_map]
    rfl
  · intro row hr
    obtain ⟨z1, z2⟩ := tps_mem hr
    match row, z1, z2 with
    | [x, y], _, z2 =>
      refine ⟨_, rfl, rfl, ?_⟩
      exact h x y (z2 x (by simp)) (z2 y (by simp))
/-- one kind of table after another -/
theorem wp_kind {k : Nat} {e' : DL.Env} {X : DL.Env → R D} {rest : DL.Env → Out} {Q : Po} {i : Int} (j : Nat) (hj : i = (j : Int)) (h1 : k = j → ((X (some (nD k) :: e')).out (some (nD k) :: e') Out.rt).wp Q)
    (h2 : k ≠ j → (rest (some (nD k) :: e')).wp Q) : (seqO (xIf (tCmp' dEq (gv 0) (cst (.int i))) (seqO (xRet X) Out.nx) Out.nx) rest (some (nD k) :: e')).wp Q := by
  subst hj
  simp only [xSet, xAsg, xPar, xExpr, xRet, xRetN, xIf, xFor, xRaise, eBin, eCall, eNil, eCons, eTup, eLst, eChain, tVal, tCmp', tChain', eIsN, eNotN, tIsN', tNotN', tNot', tAnd', tOr', eAnd, eOr, eNot, eNeg, eIf, pNone, pSome, eSl, eDef, eIm, eIsi, sSeq, sRg1, sRg2, tYes', gNil', gCons', unpk, wipeE, eD0, eD1, sKeys, eQix, List.map_cons, List.map_nil, gv_eq, sv_eq, mkT_0, mkT_1, mkT_2, mkT_3, mkT_4, mkT_5, mkL_0, mkL_1, mkL_2, mkL_3, mkL_4, mkL_5, cst_eq, okb, excb, nx_ok, nxA_ok, nxO_nx, nxO_rt, out_ok, out_exc, seqO_eq, next_nx, next_rt, next_bk, next_ct, next_exc, wp_nx, wp_rt, wp_exc, wp_bk, wp_ct, wp_next, dAdd_ii, dSub_ii, dCmp_ii, asB_bl, asI_int, asInt_int, dInt_int, dInt_bl, dLen_tup, dLen_lst, dLen_frz, dMin2_eq, dMax2_eq, dTuple_lst, dTuple_tup, dTuple_frz, dList_lst, dList_tup, dIter_tup, dIter_lst, dIter_frz, dIx_t0, dIx_t1, dIx_t2, dIx_l0, dIx_l1, dIx_l2, dSl_tup, dSl_lst, dEq_ii, dNe_ii, dEq_bb, dNe_bb, dAll_map, dAny_map, List.getElem?_cons_zero, List.getElem?_cons_succ, List.set_cons_zero, List.set_cons_succ, List.length_cons, List.length_nil, Nat.reduceAdd, Nat.zero_add, Nat.reduceSub, List.replicate_succ, List.replicate_zero, List.cons_append, List.nil_append, List.append_nil, reduceIte, if_true, if_false, Bool.false_eq_true, Bool.not_true, Bool.not_false]
  by_cases h : k = j
  · subst h
    simp only [decide_true, xSet, xAsg, xPar, xExpr, xRet, xRetN, xIf, xFor, xRaise, eBin, eCall, eNil, eCons, eTup, eLst, eChain, tVal, tCmp', tChain', eIsN, eNotN, tIsN', tNotN', tNot', tAnd', tOr', eAnd, eOr, eNot, eNeg, eIf, pNone, pSome, eSl, eDef, eIm, eIsi, sSeq, sRg1, sRg2, tYes', gNil', gCons', unpk, wipeE, eD0, eD1, sKeys, eQix, List.map_cons, List.map_nil, gv_eq, sv_eq, mkT_0, mkT_1, mkT_2, mkT_3, mkT_4, mkT_5, mkL_0, mkL_1, mkL_2, mkL_3, mkL_4, mkL_5, cst_eq, okb, excb, nx_ok, nxA_ok, nxO_nx, nxO_rt, out_ok, out_exc, seqO_eq, next_nx, next_rt, next_bk, next_ct, next_exc, wp_nx, wp_rt, wp_exc, wp_bk, wp_ct, wp_next, dAdd_ii, dSub_ii, dCmp_ii, asB_bl, asI_int, asInt_int, dInt_int, dInt_bl, dLen_tup, dLen_lst, dLen_frz, dMin2_eq, dMax2_eq, dTuple_lst, dTuple_tup, dTuple_frz, dList_lst, dList_tup, dIter_tup, dIter_lst, dIter_frz, dIx_t0, dIx_t1, dIx_t2, dIx_l0, dIx_l1, dIx_l2, dSl_tup, dSl_lst, dEq_ii, dNe_ii, dEq_bb, dNe_bb, dAll_map, dAny_map, List.getElem?_cons_zero, List.getElem?_cons_succ, List.set_cons_zero, List.set_cons_succ, List.length_cons, List.length_nil, Nat.reduceAdd, Nat.zero_add, Nat.reduceSub, List.replicate_succ, List.replicate_zero, List.cons_append, List.nil_append, List.append_nil, reduceIte, if_true, if_false, Bool.false_eq_true, Bool.not_true, Bool.not_false]
    have := h1 rfl
    generalize X (some (nD k) :: e') = r at this ⊢
    cases r <;> exact this
  · have : ¬ ((k : Int) = (j : Int)) := by omega
    simp only [decide_eq_false this, xSet, xAsg, xPar, xExpr, xRet, xRetN, xIf, xFor, xRaise, eBin, eCall, eNil, eCons, eTup, eLst, eChain, tVal, tCmp', tChain', eIsN, eNotN, tIsN', tNotN', tNot', tAnd', tOr', eAnd, eOr, eNot, eNeg, eIf, pNone, pSome, eSl, eDef, eIm, eIsi, sSeq, sRg1, sRg2, tYes', gNil', gCons', unpk, wipeE, eD0, eD1, sKeys, eQix, List.map_cons, List.map_nil, gv_eq, sv_eq, mkT_0, mkT_1, mkT_2, mkT_3, mkT_4, mkT_5, mkL_0, mkL_1, mkL_2, mkL_3, mkL_4, mkL_5, cst_eq, okb, excb, nx_ok, nxA_ok, nxO_nx, nxO_rt, out_ok, out_exc, seqO_eq, next_nx, next_rt, next_bk, next_ct, next_exc, wp_nx, wp_rt, wp_exc, wp_bk, wp_ct, wp_next, dAdd_ii, dSub_ii, dCmp_ii, asB_bl, asI_int, asInt_int, dInt_int, dInt_bl, dLen_tup, dLen_lst, dLen_frz, dMin2_eq, dMax2_eq, dTuple_lst, dTuple_tup, dTuple_frz, dList_lst, dList_tup, dIter_tup, dIter_lst, dIter_frz, dIx_t0, dIx_t1, dIx_t2, dIx_l0, dIx_l1, dIx_l2, dSl_tup, dSl_lst, dEq_ii, dNe_ii, dEq_bb, dNe_bb, dAll_map, dAny_map, List.getElem?_cons_zero, List.getElem?_cons_succ, List.set_cons_zero, List.set_cons_succ, List.length_cons, List.length_nil, Nat.reduceAdd, Nat.zero_add, Nat.reduceSub, List.replicate_succ, List.replicate_zero, List.cons_append, List.nil_append, List.append_nil, reduceIte, if_true, if_false, Bool.false_eq_true, Bool.not_true, Bool.not_false]
    exact h2 h
def two (k : Nat) : Bool := decide (k = 1 ∨ k = 2 ∨ k = 3 ∨ k = 7 ∨ k = 10)
abbrev PoOp (n k : Nat) : Po := ⟨fun _ => False, fun d => ∃ r t, TOp n r t ∧ (two k = true → r = 2) ∧ d = opD r t, fun _ => False, fun _ => False, fun _ => False⟩
theorem wp_pairs {n k : Nat} (h1 : 1 ≤ n) (h8 : n ≤ 8) {el : DL.Env → R D} {a b c d : Option D} (f : List Nat → Nat) (h : ∀ x y, x < n → y < n → el [a, b, c, some (.lst ((tps n 2).map tN)), d, some (nD x), some (nD y)] = .ok (nD (f [x, y])) ∧ f [x, y] < n) (e0 : DL.Env) :
    ((eTup (eCons (cst (.int 2)) (eCons (eCall dTuple (eCons (eLc [5, 6] (sSeq (gv 3)) (unpk 2 (gCons' (sv 5) (gCons' (sv 6) gNil'))) tYes' el) eNil)) eNil)) [a, b, c, some (.lst ((tps n 2).map tN)), d, none, none]).out e0 Out.rt).wp (PoOp n k) := by
  have hp := pairs_eq (el := el) (a := a) (b := b) (c := c) (d := d) f (fun x y hx hy => (h x y hx hy).1) h8
  simp only [eTup, eCons, eCall, eNil, cst_eq, okb, hp, nx_ok, dTuple_lst, mkT_2, out_ok, wp_rt]
  exact ⟨2, _, TOp.mk2 h1 h8 f fun x y hx hy => (h x y hx hy).2, fun _ => rfl, rfl⟩
theorem wp_singles {n k : Nat} (hk : two k = false) (h1 : 1 ≤ n) (h8 : n ≤ 8) {el : DL.Env → R D} {a b p d : Option D} (f : Nat → Nat) (h : ∀ x, x < n → el [a, b, some (nD n), p, d, some (nD x), none] = .ok (nD (f x)) ∧ f x < n) (e0 : DL.Env) :
    ((eTup (eCons (cst (.int 1)) (eCons (eCall dTuple (eCons (eLc [5] (sRg1 (gv 2)) (sv 5) tYes' el) eNil)) eNil)) [a, b, some (nD n), p, d, none, none]).out e0 Out.rt).wp (PoOp n k) := by
  have hp : eLc [5] (sRg1 (gv 2)) (sv 5) tYes' el [a, b, some (nD n), p, d, none, none] = .ok (.lst (((List.range n).map f).map nD)) := by
    rw [eLc_map nD (fun x => nD (f x)) (List.range n) (by simp only [xSet, xAsg, xPar, xExpr, xRet, xRetN, xIf, xFor, xRaise, eBin, eCall, eNil, eCons, eTup, eLst, eChain, tVal, tCmp', tChain', eIsN, eNotN, tIsN', tNotN', tNot', tAnd', tOr', eAnd, eOr, eNot, eNeg, eIf, pNone, pSome, eSl, eDef, eIm, eIsi, sSeq, sRg1, sRg2, tYes', gNil', gCons', unpk, wipeE, eD0, eD1, sKeys, eQix, List.map_cons, List.map_nil, gv_eq, sv_eq, mkT_0, mkT_1, mkT_2, mkT_3, mkT_4, mkT_5, mkL_0, mkL_1, mkL_2, mkL_3, mkL_4, mkL_5, cst_eq, okb, excb, nx_ok, nxA_ok, nxO_nx, nxO_rt, out_ok, out_exc, seqO_eq, next_nx, next_rt, next_bk, next_ct, next_exc, wp_nx, wp_rt, wp_exc, wp_bk, wp_ct, wp_next, dAdd_ii, dSub_ii, dCmp_ii, asB_bl, asI_int, asInt_int, dInt_int, dInt_bl, dLen_tup, dLen_lst, dLen_frz, dMin2_eq, dMax2_eq, dTuple_lst, dTuple_tup, dTuple_frz, dList_lst, dList_tup, dIter_tup, dIter_lst, dIter_frz, dIx_t0, dIx_t1, dIx_t2, dIx_l0, dIx_l1, dIx_l2, dSl_tup, dSl_lst, dEq_ii, dNe_ii, dEq_bb, dNe_bb, dAll_map, dAny_map, List.getElem?_cons_zero, List.getElem?_cons_succ, List.set_cons_zero, List.set_cons_succ, List.length_cons, List.length_nil, Nat.reduceAdd, Nat.zero_add, Nat.reduceSub, List.replicate_succ, List.replicate_zero, List.cons_append, List.nil_append, List.append_nil, reduceIte, if_true, if_false, Bool.false_eq_true, Bool.not_true, Bool.not_false, mkRgI_nat (show n ≤ 1000000000 by omega)]) (by simp; omega) fun x hx => ⟨_, rfl, rfl, (h x (List.mem_range.mp hx)).1⟩, List.map_map]
    rfl
  simp only [eTup, eCons, eCall, eNil, cst_eq, okb, hp, nx_ok, dTuple_lst, mkT_2, out_ok, wp_rt]
  exact ⟨1, _, TOp.mk1 h1 h8 f fun x hx => (h x hx).2, fun z => absurd z (by rw [hk]; decide), rfl⟩
theorem table_eq (k n : Nat) (c : Int) (hk : k < 16) (h1 : 1 ≤ n) (h8 : n ≤ 8) : ∃ r t, TOp n r t ∧ (two k = true → r = 2) ∧ F__law_table [nD k, .int c, nD n] = .ok (opD r t) := by
  obtain ⟨l, hl, ht, hd⟩ := draws_eq c n 64 h1 (by omega) (by omega)
  have hd : F__law_draws [.int c, nD n, .int 64] = .ok (tN l) := hd
  have htp : F__law_tuples [nD n, .int 2] = .ok (.lst ((tps n 2).map tN)) := ltuples_eq n 2 h1 (by omega) (by omega) (by have := Nat.mul_le_mul h8 h8; rw [Nat.pow_two]; omega)
  have hnn : n * n ≤ 64 := Nat.mul_le_mul h8 h8
  have hpow : n ^ 2 = n * n := Nat.pow_two n
  have em : dMul (nD n) (nD n) = .ok (nD (n * n)) := dMul_nn (by omega)
  have ix : ∀ x y, x < n → y < n → x * n + y < l.length := fun x y hx hy => by
    have := Nat.mul_le_mul_right n (show x + 1 ≤ n from hx)
    rw [Nat.add_mul, Nat.one_mul] at this
    omega
  have hv : ∀ i, i < l.length → nth l i < n := fun i hi => ht _ (nth_mem hi)
  have sn : smallI (n : Int) = true := small_of (by omega) (by omega)
  refine fn_wpP (fun w => ∃ r t, TOp n r t ∧ (two k = true → r = 2) ∧ w = .ok (opD r t)) rfl ?_
  have weak : ∀ {o : Out}, o.wp (PoOp n k) → o.wp ⟨fun _ => ∃ r t, TOp n r t ∧ (two k = true → r = 2) ∧ R.ok D.non = .ok (opD r t), fun d => ∃ r t, TOp n r t ∧ (two k = true → r = 2) ∧ R.ok d = .ok (opD r t), fun c => ∃ r t, TOp n r t ∧ (two k = true → r = 2) ∧ R.exc c = .ok (opD r t), fun _ => False, fun _ => False⟩ := by
    intro o ho
    cases o with
    | rt d => obtain ⟨r, t, z1, z2, z3⟩ := ho; exact ⟨r, t, z1, z2, by rw [z3]⟩
    | _ => exact ho.elim
  refine weak ?_
  unfold den__law_table
  rw [seqO_eq]
  simp only [xSet, eDef, eCons, eNil, gv_eq, cst_eq, okb, out_ok, List.map_cons, List.map_nil, List.cons_append, List.nil_append, List.replicate_succ, List.replicate_zero, Nat.reduceSub, List.getElem?_cons_zero, List.getElem?_cons_succ, List.length_cons, List.length_nil, Nat.reduceAdd, Nat.zero_add, if_true, htp, next_nx, List.set_cons_succ, List.set_cons_zero]
  rw [seqO_eq]
  simp only [xSet, eDef, eCons, eNil, gv_eq, cst_eq, okb, out_ok, List.getElem?_cons_zero, List.getElem?_cons_succ, List.length_cons, List.length_nil, Nat.reduceAdd, Nat.zero_add, if_true, hd, next_nx, List.set_cons_succ, List.set_cons_zero]
  refine wp_kind 0 rfl (fun h => ?_) fun h => ?_
  · simp only [xSet, xAsg, xPar, xExpr, xRet, xRetN, xIf, xFor, xRaise, eBin, eCall, eNil, eCons, eTup, eLst, eChain, tVal, tCmp', tChain', eIsN, eNotN, tIsN', tNotN', tNot', tAnd', tOr', eAnd, eOr, eNot, eNeg, eIf, pNone, pSome, eSl, eDef, eIm, eIsi, sSeq, sRg1, sRg2, tYes', gNil', gCons', unpk, wipeE, eD0, eD1, sKeys, eQix, List.map_cons, List.map_nil, gv_eq, sv_eq, mkT_0, mkT_1, mkT_2, mkT_3, mkT_4, mkT_5, mkL_0, mkL_1, mkL_2, mkL_3, mkL_4, mkL_5, cst_eq, okb, excb, nx_ok, nxA_ok, nxO_nx, nxO_rt, out_ok, out_exc, seqO_eq, next_nx, next_rt, next_bk, next_ct, next_exc, wp_nx, wp_rt, wp_exc, wp_bk, wp_ct, wp_next, dAdd_ii, dSub_ii, dCmp_ii, asB_bl, asI_int, asInt_int, dInt_int, dInt_bl, dLen_tup, dLen_lst, dLen_frz, dMin2_eq, dMax2_eq, dTuple_lst, dTuple_tup, dTuple_frz, dList_lst, dList_tup, dIter_tup, dIter_lst, dIter_frz, dIx_t0, dIx_t1, dIx_t2, dIx_l0, dIx_l1, dIx_l2, dSl_tup, dSl_lst, dEq_ii, dNe_ii, dEq_bb, dNe_bb, dAll_map, dAny_map, List.getElem?_cons_zero, List.getElem?_cons_succ, List.set_cons_zero, List.set_cons_succ, List.length_cons, List.length_nil, Nat.reduceAdd, Nat.zero_add, Nat.reduceSub, List.replicate_succ, List.replicate_zero, List.cons_append, List.nil_append, List.append_nil, reduceIte, if_true, if_false, Bool.false_eq_true, Bool.not_true, Bool.not_false, em, cutD_mapTo]
    exact ⟨2, _, TOp.take h1 h8 (by omega) hl ht, fun _ => rfl, by rw [hpow]; rfl⟩
  refine wp_kind 1 rfl (fun h => ?_) fun h => ?_
  · exact wp_pairs h1 h8 (fun r => min (nth r 0) (nth r 1)) (fun x y hx hy => ⟨by simp [xSet, xAsg, xPar, xExpr, xRet, xRetN, xIf, xFor, xRaise, eBin, eCall, eNil, eCons, eTup, eLst, eChain, tVal, tCmp', tChain', eIsN, eNotN, tIsN', tNotN', tNot', tAnd', tOr', eAnd, eOr, eNot, eNeg, eIf, pNone, pSome, eSl, eDef, eIm, eIsi, sSeq, sRg1, sRg2, tYes', gNil', gCons', unpk, wipeE, eD0, eD1, sKeys, eQix, List.map_cons, List.map_nil, gv_eq, sv_eq, mkT_0, mkT_1, mkT_2, mkT_3, mkT_4, mkT_5, mkL_0, mkL_1, mkL_2, mkL_3, mkL_4, mkL_5, cst_eq, okb, excb, nx_ok, nxA_ok, nxO_nx, nxO_rt, out_ok, out_exc, seqO_eq, next_nx, next_rt, next_bk, next_ct, next_exc, wp_nx, wp_rt, wp_exc, wp_bk, wp_ct, wp_next, dAdd_ii, dSub_ii, dCmp_ii, asB_bl, asI_int, asInt_int, dInt_int, dInt_bl, dLen_tup, dLen_lst, dLen_frz, dMin2_eq, dMax2_eq, dTuple_lst, dTuple_tup, dTuple_frz, dList_lst, dList_tup, dIter_tup, dIter_lst, dIter_frz, dIx_t0, dIx_t1, dIx_t2, dIx_l0, dIx_l1, dIx_l2, dSl_tup, dSl_lst, dEq_ii, dNe_ii, dEq_bb, dNe_bb, dAll_map, dAny_map, List.getElem?_cons_zero, List.getElem?_cons_succ, List.set_cons_zero, List.set_cons_succ, List.length_cons, List.length_nil, Nat.reduceAdd, Nat.zero_add, Nat.reduceSub, List.replicate_succ, List.replicate_zero, List.cons_append, List.nil_append, List.append_nil, reduceIte, if_true, if_false, Bool.false_eq_true, Bool.not_true, Bool.not_false, nth]; omega, by simp [nth]; omega⟩) _
  refine wp_kind 2 rfl (fun h => ?_) fun h => ?_
  · exact wp_pairs h1 h8 (fun r => max (nth r 0) (nth r 1)) (fun x y hx hy => ⟨by simp [xSet, xAsg, xPar, xExpr, xRet, xRetN, xIf, xFor, xRaise, eBin, eCall, eNil, eCons, eTup, eLst, eChain, tVal, tCmp', tChain', eIsN, eNotN, tIsN', tNotN', tNot', tAnd', tOr', eAnd, eOr, eNot, eNeg, eIf, pNone, pSome, eSl, eDef, eIm, eIsi, sSeq, sRg1, sRg2, tYes', gNil', gCons', unpk, wipeE, eD0, eD1, sKeys, eQix, List.map_cons, List.map_nil, gv_eq, sv_eq, mkT_0, mkT_1, mkT_2, mkT_3, mkT_4, mkT_5, mkL_0, mkL_1, mkL_2, mkL_3, mkL_4, mkL_5, cst_eq, okb, excb, nx_ok, nxA_ok, nxO_nx, nxO_rt, out_ok, out_exc, seqO_eq, next_nx, next_rt, next_bk, next_ct, next_exc, wp_nx, wp_rt, wp_exc, wp_bk, wp_ct, wp_next, dAdd_ii, dSub_ii, dCmp_ii, asB_bl, asI_int, asInt_int, dInt_int, dInt_bl, dLen_tup, dLen_lst, dLen_frz, dMin2_eq, dMax2_eq, dTuple_lst, dTuple_tup, dTuple_frz, dList_lst, dList_tup, dIter_tup, dIter_lst, dIter_frz, dIx_t0, dIx_t1, dIx_t2, dIx_l0, dIx_l1, dIx_l2, dSl_tup, dSl_lst, dEq_ii, dNe_ii, dEq_bb, dNe_bb, dAll_map, dAny_map, List.getElem?_cons_zero, List.getElem?_cons_succ, List.set_cons_zero, List.set_cons_succ, List.length_cons, List.length_nil, Nat.reduceAdd, Nat.zero_add, Nat.reduceSub, List.replicate_succ, List.replicate_zero, List.cons_append, List.nil_append, List.append_nil, reduceIte, if_true, if_false, Bool.false_eq_true, Bool.not_true, Bool.not_false, nth]; omega, by simp [nth]; omega⟩) _
  refine wp_kind 3 rfl (fun h => ?_) fun h => ?_
  · refine wp_pairs h1 h8 (fun r => (nth r 0 + nth r 1) % n) (fun x y hx hy => ⟨?_, Nat.mod_lt _ (by omega)⟩) _
    simp only [xSet, xAsg, xPar, xExpr, xRet, xRetN, xIf, xFor, xRaise, eBin, eCall, eNil, eCons, eTup, eLst, eChain, tVal, tCmp', tChain', eIsN, eNotN, tIsN', tNotN', tNot', tAnd', tOr', eAnd, eOr, eNot, eNeg, eIf, pNone, pSome, eSl, eDef, eIm, eIsi, sSeq, sRg1, sRg2, tYes', gNil', gCons', unpk, wipeE, eD0, eD1, sKeys, eQix, List.map_cons, List.map_nil, gv_eq, sv_eq, mkT_0, mkT_1, mkT_2, mkT_3, mkT_4, mkT_5, mkL_0, mkL_1, mkL_2, mkL_3, mkL_4, mkL_5, cst_eq, okb, excb, nx_ok, nxA_ok, nxO_nx, nxO_rt, out_ok, out_exc, seqO_eq, next_nx, next_rt, next_bk, next_ct, next_exc, wp_nx, wp_rt, wp_exc, wp_bk, wp_ct, wp_next, dAdd_ii, dSub_ii, dCmp_ii, asB_bl, asI_int, asInt_int, dInt_int, dInt_bl, dLen_tup, dLen_lst, dLen_frz, dMin2_eq, dMax2_eq, dTuple_lst, dTuple_tup, dTuple_frz, dList_lst, dList_tup, dIter_tup, dIter_lst, dIter_frz, dIx_t0, dIx_t1, dIx_t2, dIx_l0, dIx_l1, dIx_l2, dSl_tup, dSl_lst, dEq_ii, dNe_ii, dEq_bb, dNe_bb, dAll_map, dAny_map, List.getElem?_cons_zero, List.getElem?_cons_succ, List.set_cons_zero, List.set_cons_succ, List.length_cons, List.length_nil, Nat.reduceAdd, Nat.zero_add, Nat.reduceSub, List.replicate_succ, List.replicate_zero, List.cons_append, List.nil_append, List.append_nil, reduceIte, if_true, if_false, Bool.false_eq_true, Bool.not_true, Bool.not_false, dMod_eq (show (0 : Int) < n by omega)]
    simp [nth]
  refine wp_kind 4 rfl (fun h => ?_) fun h => ?_
  · simp only [xSet, xAsg, xPar, xExpr, xRet, xRetN, xIf, xFor, xRaise, eBin, eCall, eNil, eCons, eTup, eLst, eChain, tVal, tCmp', tChain', eIsN, eNotN, tIsN', tNotN', tNot', tAnd', tOr', eAnd, eOr, eNot, eNeg, eIf, pNone, pSome, eSl, eDef, eIm, eIsi, sSeq, sRg1, sRg2, tYes', gNil', gCons', unpk, wipeE, eD0, eD1, sKeys, eQix, List.map_cons, List.map_nil, gv_eq, sv_eq, mkT_0, mkT_1, mkT_2, mkT_3, mkT_4, mkT_5, mkL_0, mkL_1, mkL_2, mkL_3, mkL_4, mkL_5, cst_eq, okb, excb, nx_ok, nxA_ok, nxO_nx, nxO_rt, out_ok, out_exc, seqO_eq, next_nx, next_rt, next_bk, next_ct, next_exc, wp_nx, wp_rt, wp_exc, wp_bk, wp_ct, wp_next, dAdd_ii, dSub_ii, dCmp_ii, asB_bl, asI_int, asInt_int, dInt_int, dInt_bl, dLen_tup, dLen_lst, dLen_frz, dMin2_eq, dMax2_eq, dTuple_lst, dTuple_tup, dTuple_frz, dList_lst, dList_tup, dIter_tup, dIter_lst, dIter_frz, dIx_t0, dIx_t1, dIx_t2, dIx_l0, dIx_l1, dIx_l2, dSl_tup, dSl_lst, dEq_ii, dNe_ii, dEq_bb, dNe_bb, dAll_map, dAny_map, List.getElem?_cons_zero, List.getElem?_cons_succ, List.set_cons_zero, List.set_cons_succ, List.length_cons, List.length_nil, Nat.reduceAdd, Nat.zero_add, Nat.reduceSub, List.replicate_succ, List.replicate_zero, List.cons_append, List.nil_append, List.append_nil, reduceIte, if_true, if_false, Bool.false_eq_true, Bool.not_true, Bool.not_false, cutD_mapTo]
    exact ⟨1, l.take (n ^ 1), TOp.take h1 h8 (by omega) hl ht, (fun z => by subst h; exact absurd z (by decide)), by rw [Nat.pow_one]; rfl⟩
  refine wp_kind 5 rfl (fun h => ?_) fun h => ?_
  · have e1 : cutD (l.map nD) none (some 1) = (l.take 1).map nD := cutD_mapTo l 1
    simp only [xSet, xAsg, xPar, xExpr, xRet, xRetN, xIf, xFor, xRaise, eBin, eCall, eNil, eCons, eTup, eLst, eChain, tVal, tCmp', tChain', eIsN, eNotN, tIsN', tNotN', tNot', tAnd', tOr', eAnd, eOr, eNot, eNeg, eIf, pNone, pSome, eSl, eDef, eIm, eIsi, sSeq, sRg1, sRg2, tYes', gNil', gCons', unpk, wipeE, eD0, eD1, sKeys, eQix, List.map_cons, List.map_nil, gv_eq, sv_eq, mkT_0, mkT_1, mkT_2, mkT_3, mkT_4, mkT_5, mkL_0, mkL_1, mkL_2, mkL_3, mkL_4, mkL_5, cst_eq, okb, excb, nx_ok, nxA_ok, nxO_nx, nxO_rt, out_ok, out_exc, seqO_eq, next_nx, next_rt, next_bk, next_ct, next_exc, wp_nx, wp_rt, wp_exc, wp_bk, wp_ct, wp_next, dAdd_ii, dSub_ii, dCmp_ii, asB_bl, asI_int, asInt_int, dInt_int, dInt_bl, dLen_tup, dLen_lst, dLen_frz, dMin2_eq, dMax2_eq, dTuple_lst, dTuple_tup, dTuple_frz, dList_lst, dList_tup, dIter_tup, dIter_lst, dIter_frz, dIx_t0, dIx_t1, dIx_t2, dIx_l0, dIx_l1, dIx_l2, dSl_tup, dSl_lst, dEq_ii, dNe_ii, dEq_bb, dNe_bb, dAll_map, dAny_map, List.getElem?_cons_zero, List.getElem?_cons_succ, List.set_cons_zero, List.set_cons_succ, List.length_cons, List.length_nil, Nat.reduceAdd, Nat.zero_add, Nat.reduceSub, List.replicate_succ, List.replicate_zero, List.cons_append, List.nil_append, List.append_nil, reduceIte, if_true, if_false, Bool.false_eq_true, Bool.not_true, Bool.not_false, e1]
    exact ⟨0, l.take (n ^ 0), TOp.take h1 h8 (by omega) hl ht, (fun z => by subst h; exact absurd z (by decide)), by rw [Nat.pow_zero]; rfl⟩
  refine wp_kind 6 rfl (fun h => ?_) fun h => ?_
  · refine wp_pairs h1 h8 (fun r => if nth r 0 = nth r 1 then nth r 0 else nth l (nth r 0 * n + nth r 1)) (fun x y hx hy => ⟨?_, ?_⟩) _
    · simp only [xSet, xAsg, xPar, xExpr, xRet, xRetN, xIf, xFor, xRaise, eBin, eCall, eNil, eCons, eTup, eLst, eChain, tVal, tCmp', tChain', eIsN, eNotN, tIsN', tNotN', tNot', tAnd', tOr', eAnd, eOr, eNot, eNeg, eIf, pNone, pSome, eSl, eDef, eIm, eIsi, sSeq, sRg1, sRg2, tYes', gNil', gCons', unpk, wipeE, eD0, eD1, sKeys, eQix, List.map_cons, List.map_nil, gv_eq, sv_eq, mkT_0, mkT_1, mkT_2, mkT_3, mkT_4, mkT_5, mkL_0, mkL_1, mkL_2, mkL_3, mkL_4, mkL_5, cst_eq, okb, excb, nx_ok, nxA_ok, nxO_nx, nxO_rt, out_ok, out_exc, seqO_eq, next_nx, next_rt, next_bk, next_ct, next_exc, wp_nx, wp_rt, wp_exc, wp_bk, wp_ct, wp_next, dAdd_ii, dSub_ii, dCmp_ii, asB_bl, asI_int, asInt_int, dInt_int, dInt_bl, dLen_tup, dLen_lst, dLen_frz, dMin2_eq, dMax2_eq, dTuple_lst, dTuple_tup, dTuple_frz, dList_lst, dList_tup, dIter_tup, dIter_lst, dIter_frz, dIx_t0, dIx_t1, dIx_t2, dIx_l0, dIx_l1, dIx_l2, dSl_tup, dSl_lst, dEq_ii, dNe_ii, dEq_bb, dNe_bb, dAll_map, dAny_map, List.getElem?_cons_zero, List.getElem?_cons_succ, List.set_cons_zero, List.set_cons_succ, List.length_cons, List.length_nil, Nat.reduceAdd, Nat.zero_add, Nat.reduceSub, List.replicate_succ, List.replicate_zero, List.cons_append, List.nil_append, List.append_nil, reduceIte, if_true, if_false, Bool.false_eq_true, Bool.not_true, Bool.not_false, dMul_r sn, dIx_tN (ix x y hx hy) (show (x : Int) * n + y = ((x * n + y : Nat) : Int) by simp)]
      by_cases hxy : x = y
      · simp [hxy, nth]
      · have : ¬ ((x : Int) = (y : Int)) := by omega
        simp [this, hxy, nth]
    · show (if x = y then x else nth l (x * n + y)) < n
      split
      · exact hx
      · exact hv _ (ix x y hx hy)
  refine wp_kind 7 rfl (fun h => ?_) fun h => ?_
  · refine wp_pairs h1 h8 (fun r => (((nth r 0 : Int) - nth r 1) % n).toNat) (fun x y hx hy => ⟨?_, ?_⟩) _
    · simp only [xSet, xAsg, xPar, xExpr, xRet, xRetN, xIf, xFor, xRaise, eBin, eCall, eNil, eCons, eTup, eLst, eChain, tVal, tCmp', tChain', eIsN, eNotN, tIsN', tNotN', tNot', tAnd', tOr', eAnd, eOr, eNot, eNeg, eIf, pNone, pSome, eSl, eDef, eIm, eIsi, sSeq, sRg1, sRg2, tYes', gNil', gCons', unpk, wipeE, eD0, eD1, sKeys, eQix, List.map_cons, List.map_nil, gv_eq, sv_eq, mkT_0, mkT_1, mkT_2, mkT_3, mkT_4, mkT_5, mkL_0, mkL_1, mkL_2, mkL_3, mkL_4, mkL_5, cst_eq, okb, excb, nx_ok, nxA_ok, nxO_nx, nxO_rt, out_ok, out_exc, seqO_eq, next_nx, next_rt, next_bk, next_ct, next_exc, wp_nx, wp_rt, wp_exc, wp_bk, wp_ct, wp_next, dAdd_ii, dSub_ii, dCmp_ii, asB_bl, asI_int, asInt_int, dInt_int, dInt_bl, dLen_tup, dLen_lst, dLen_frz, dMin2_eq, dMax2_eq, dTuple_lst, dTuple_tup, dTuple_frz, dList_lst, dList_tup, dIter_tup, dIter_lst, dIter_frz, dIx_t0, dIx_t1, dIx_t2, dIx_l0, dIx_l1, dIx_l2, dSl_tup, dSl_lst, dEq_ii, dNe_ii, dEq_bb, dNe_bb, dAll_map, dAny_map, List.getElem?_cons_zero, List.getElem?_cons_succ, List.set_cons_zero, List.set_cons_succ, List.length_cons, List.length_nil, Nat.reduceAdd, Nat.zero_add, Nat.reduceSub, List.replicate_succ, List.replicate_zero, List.cons_append, List.nil_append, List.append_nil, reduceIte, if_true, if_false, Bool.false_eq_true, Bool.not_true, Bool.not_false, dMod_eq (show (0 : Int) < n by omega)]
      have := Int.emod_nonneg ((x : Int) - y) (show (n : Int) ≠ 0 by omega)
      show R.ok (D.int (((x : Int) - y) % n)) = R.ok (nD ((((x : Int) - y) % n).toNat))
      rw [nD, Int.toNat_of_nonneg this]
    · show (((x : Int) - y) % n).toNat < n
      have := Int.emod_nonneg ((x : Int) - y) (show (n : Int) ≠ 0 by omega)
      have := Int.emod_lt_of_pos ((x : Int) - y) (show (0 : Int) < n by omega)
      omega
  refine wp_kind 8 rfl (fun h => ?_) fun h => ?_
  · refine wp_singles (by subst h; decide) h1 h8 (fun x => (x + 1) % n) (fun x hx => ⟨?_, Nat.mod_lt _ (by omega)⟩) _
    simp only [xSet, xAsg, xPar, xExpr, xRet, xRetN, xIf, xFor, xRaise, eBin, eCall, eNil, eCons, eTup, eLst, eChain, tVal, tCmp', tChain', eIsN, eNotN, tIsN', tNotN', tNot', tAnd', tOr', eAnd, eOr, eNot, eNeg, eIf, pNone, pSome, eSl, eDef, eIm, eIsi, sSeq, sRg1, sRg2, tYes', gNil', gCons', unpk, wipeE, eD0, eD1, sKeys, eQix, List.map_cons, List.map_nil, gv_eq, sv_eq, mkT_0, mkT_1, mkT_2, mkT_3, mkT_4, mkT_5, mkL_0, mkL_1, mkL_2, mkL_3, mkL_4, mkL_5, cst_eq, okb, excb, nx_ok, nxA_ok, nxO_nx, nxO_rt, out_ok, out_exc, seqO_eq, next_nx, next_rt, next_bk, next_ct, next_exc, wp_nx, wp_rt, wp_exc, wp_bk, wp_ct, wp_next, dAdd_ii, dSub_ii, dCmp_ii, asB_bl, asI_int, asInt_int, dInt_int, dInt_bl, dLen_tup, dLen_lst, dLen_frz, dMin2_eq, dMax2_eq, dTuple_lst, dTuple_tup, dTuple_frz, dList_lst, dList_tup, dIter_tup, dIter_lst, dIter_frz, dIx_t0, dIx_t1, dIx_t2, dIx_l0, dIx_l1, dIx_l2, dSl_tup, dSl_lst, dEq_ii, dNe_ii, dEq_bb, dNe_bb, dAll_map, dAny_map, List.getElem?_cons_zero, List.getElem?_cons_succ, List.set_cons_zero, List.set_cons_succ, List.length_cons, List.length_nil, Nat.reduceAdd, Nat.zero_add, Nat.reduceSub, List.replicate_succ, List.replicate_zero, List.cons_append, List.nil_append, List.append_nil, reduceIte, if_true, if_false, Bool.false_eq_true, Bool.not_true, Bool.not_false, dMod_eq (show (0 : Int) < n by omega)]
    simp
  refine wp_kind 9 rfl (fun h => ?_) fun h => ?_
  · refine wp_pairs h1 h8 (fun r => nth l (min (nth r 0) (nth r 1) * n + max (nth r 0) (nth r 1))) (fun x y hx hy => ⟨?_, hv _ (ix _ _ (by simp [nth]; omega) (by simp [nth]; omega))⟩) _
    simp only [xSet, xAsg, xPar, xExpr, xRet, xRetN, xIf, xFor, xRaise, eBin, eCall, eNil, eCons, eTup, eLst, eChain, tVal, tCmp', tChain', eIsN, eNotN, tIsN', tNotN', tNot', tAnd', tOr', eAnd, eOr, eNot, eNeg, eIf, pNone, pSome, eSl, eDef, eIm, eIsi, sSeq, sRg1, sRg2, tYes', gNil', gCons', unpk, wipeE, eD0, eD1, sKeys, eQix, List.map_cons, List.map_nil, gv_eq, sv_eq, mkT_0, mkT_1, mkT_2, mkT_3, mkT_4, mkT_5, mkL_0, mkL_1, mkL_2, mkL_3, mkL_4, mkL_5, cst_eq, okb, excb, nx_ok, nxA_ok, nxO_nx, nxO_rt, out_ok, out_exc, seqO_eq, next_nx, next_rt, next_bk, next_ct, next_exc, wp_nx, wp_rt, wp_exc, wp_bk, wp_ct, wp_next, dAdd_ii, dSub_ii, dCmp_ii, asB_bl, asI_int, asInt_int, dInt_int, dInt_bl, dLen_tup, dLen_lst, dLen_frz, dMin2_eq, dMax2_eq, dTuple_lst, dTuple_tup, dTuple_frz, dList_lst, dList_tup, dIter_tup, dIter_lst, dIter_frz, dIx_t0, dIx_t1, dIx_t2, dIx_l0, dIx_l1, dIx_l2, dSl_tup, dSl_lst, dEq_ii, dNe_ii, dEq_bb, dNe_bb, dAll_map, dAny_map, List.getElem?_cons_zero, List.getElem?_cons_succ, List.set_cons_zero, List.set_cons_succ, List.length_cons, List.length_nil, Nat.reduceAdd, Nat.zero_add, Nat.reduceSub, List.replicate_succ, List.replicate_zero, List.cons_append, List.nil_append, List.append_nil, reduceIte, if_true, if_false, Bool.false_eq_true, Bool.not_true, Bool.not_false, dMul_r sn]
    rw [dIx_tN (ix (min x y) (max x y) (by omega) (by omega)) (by rw [show min (x : Int) y = ((min x y : Nat) : Int) by omega, show max (x : Int) y = ((max x y : Nat) : Int) by omega]; simp only [Int.natCast_add, Int.natCast_mul])]
    rfl
  refine wp_kind 10 rfl (fun h => ?_) fun h => ?_
  · refine wp_pairs h1 h8 (fun r => if nth l (nth r 0 * n + nth r 1) % 2 = 0 then nth r 0 else nth r 1) (fun x y hx hy => ⟨?_, ?_⟩) _
    · simp only [xSet, xAsg, xPar, xExpr, xRet, xRetN, xIf, xFor, xRaise, eBin, eCall, eNil, eCons, eTup, eLst, eChain, tVal, tCmp', tChain', eIsN, eNotN, tIsN', tNotN', tNot', tAnd', tOr', eAnd, eOr, eNot, eNeg, eIf, pNone, pSome, eSl, eDef, eIm, eIsi, sSeq, sRg1, sRg2, tYes', gNil', gCons', unpk, wipeE, eD0, eD1, sKeys, eQix, List.map_cons, List.map_nil, gv_eq, sv_eq, mkT_0, mkT_1, mkT_2, mkT_3, mkT_4, mkT_5, mkL_0, mkL_1, mkL_2, mkL_3, mkL_4, mkL_5, cst_eq, okb, excb, nx_ok, nxA_ok, nxO_nx, nxO_rt, out_ok, out_exc, seqO_eq, next_nx, next_rt, next_bk, next_ct, next_exc, wp_nx, wp_rt, wp_exc, wp_bk, wp_ct, wp_next, dAdd_ii, dSub_ii, dCmp_ii, asB_bl, asI_int, asInt_int, dInt_int, dInt_bl, dLen_tup, dLen_lst, dLen_frz, dMin2_eq, dMax2_eq, dTuple_lst, dTuple_tup, dTuple_frz, dList_lst, dList_tup, dIter_tup, dIter_lst, dIter_frz, dIx_t0, dIx_t1, dIx_t2, dIx_l0, dIx_l1, dIx_l2, dSl_tup, dSl_lst, dEq_ii, dNe_ii, dEq_bb, dNe_bb, dAll_map, dAny_map, List.getElem?_cons_zero, List.getElem?_cons_succ, List.set_cons_zero, List.set_cons_succ, List.length_cons, List.length_nil, Nat.reduceAdd, Nat.zero_add, Nat.reduceSub, List.replicate_succ, List.replicate_zero, List.cons_append, List.nil_append, List.append_nil, reduceIte, if_true, if_false, Bool.false_eq_true, Bool.not_true, Bool.not_false, dMul_r sn, dIx_tN (ix x y hx hy) (show (x : Int) * n + y = ((x * n + y : Nat) : Int) by simp), dMod_eq (show (0 : Int) < 2 by omega)]
      show nx (dIx (D.lst [nD x, nD y]) (D.int (((nth l (x * n + y) : Nat) : Int) % 2))) = R.ok (nD (if nth l (x * n + y) % 2 = 0 then x else y))
      rcases Nat.mod_two_eq_zero_or_one (nth l (x * n + y)) with hz | hz
      · rw [show ((nth l (x * n + y) : Nat) : Int) % 2 = 0 by omega, if_pos hz]
        simp
      · rw [show ((nth l (x * n + y) : Nat) : Int) % 2 = 1 by omega, if_neg (by omega)]
        simp
    · show (if nth l (x * n + y) % 2 = 0 then x else y) < n
      split <;> assumption
  refine wp_kind 11 rfl (fun h => ?_) fun h => ?_
  · refine wp_singles (by subst h; decide) h1 h8 (fun x => n - 1 - x) (fun x hx => ⟨?_, by omega⟩) _
    simp only [xSet, xAsg, xPar, xExpr, xRet, xRetN, xIf, xFor, xRaise, eBin, eCall, eNil, eCons, eTup, eLst, eChain, tVal, tCmp', tChain', eIsN, eNotN, tIsN', tNotN', tNot', tAnd', tOr', eAnd, eOr, eNot, eNeg, eIf, pNone, pSome, eSl, eDef, eIm, eIsi, sSeq, sRg1, sRg2, tYes', gNil', gCons', unpk, wipeE, eD0, eD1, sKeys, eQix, List.map_cons, List.map_nil, gv_eq, sv_eq, mkT_0, mkT_1, mkT_2, mkT_3, mkT_4, mkT_5, mkL_0, mkL_1, mkL_2, mkL_3, mkL_4, mkL_5, cst_eq, okb, excb, nx_ok, nxA_ok, nxO_nx, nxO_rt, out_ok, out_exc, seqO_eq, next_nx, next_rt, next_bk, next_ct, next_exc, wp_nx, wp_rt, wp_exc, wp_bk, wp_ct, wp_next, dAdd_ii, dSub_ii, dCmp_ii, asB_bl, asI_int, asInt_int, dInt_int, dInt_bl, dLen_tup, dLen_lst, dLen_frz, dMin2_eq, dMax2_eq, dTuple_lst, dTuple_tup, dTuple_frz, dList_lst, dList_tup, dIter_tup, dIter_lst, dIter_frz, dIx_t0, dIx_t1, dIx_t2, dIx_l0, dIx_l1, dIx_l2, dSl_tup, dSl_lst, dEq_ii, dNe_ii, dEq_bb, dNe_bb, dAll_map, dAny_map, List.getElem?_cons_zero, List.getElem?_cons_succ, List.set_cons_zero, List.set_cons_succ, List.length_cons, List.length_nil, Nat.reduceAdd, Nat.zero_add, Nat.reduceSub, List.replicate_succ, List.replicate_zero, List.cons_append, List.nil_append, List.append_nil, reduceIte, if_true, if_false, Bool.false_eq_true, Bool.not_true, Bool.not_false]
    show R.ok (D.int ((n : Int) - 1 - x)) = R.ok (D.int ((n - 1 - x : Nat) : Int))
    rw [show ((n - 1 - x : Nat) : Int) = (n : Int) - 1 - x by omega]
  rw [seqO_eq, wp_next]
  simp only [xRet]
  have fin : ∀ {r : R D} {e : DL.Env}, (r.out e Out.rt).wp (PoOp n k) → (r.out e Out.rt).wp ⟨fun e => (Out.nx e).wp (PoOp n k), (PoOp n k).rt, (PoOp n k).exc, (PoOp n k).bk, (PoOp n k).ct⟩ := fun {r e} h => by cases r <;> exact h
  refine fin ?_
  refine wp_pairs h1 h8 (fun r => if k = 12 then nth r 1 else nth r 0) (fun x y hx hy => ⟨?_, ?_⟩) _
  · simp only [xSet, xAsg, xPar, xExpr, xRet, xRetN, xIf, xFor, xRaise, eBin, eCall, eNil, eCons, eTup, eLst, eChain, tVal, tCmp', tChain', eIsN, eNotN, tIsN', tNotN', tNot', tAnd', tOr', eAnd, eOr, eNot, eNeg, eIf, pNone, pSome, eSl, eDef, eIm, eIsi, sSeq, sRg1, sRg2, tYes', gNil', gCons', unpk, wipeE, eD0, eD1, sKeys, eQix, List.map_cons, List.map_nil, gv_eq, sv_eq, mkT_0, mkT_1, mkT_2, mkT_3, mkT_4, mkT_5, mkL_0, mkL_1, mkL_2, mkL_3, mkL_4, mkL_5, cst_eq, okb, excb, nx_ok, nxA_ok, nxO_nx, nxO_rt, out_ok, out_exc, seqO_eq, next_nx, next_rt, next_bk, next_ct, next_exc, wp_nx, wp_rt, wp_exc, wp_bk, wp_ct, wp_next, dAdd_ii, dSub_ii, dCmp_ii, asB_bl, asI_int, asInt_int, dInt_int, dInt_bl, dLen_tup, dLen_lst, dLen_frz, dMin2_eq, dMax2_eq, dTuple_lst, dTuple_tup, dTuple_frz, dList_lst, dList_tup, dIter_tup, dIter_lst, dIter_frz, dIx_t0, dIx_t1, dIx_t2, dIx_l0, dIx_l1, dIx_l2, dSl_tup, dSl_lst, dEq_ii, dNe_ii, dEq_bb, dNe_bb, dAll_map, dAny_map, List.getElem?_cons_zero, List.getElem?_cons_succ, List.set_cons_zero, List.set_cons_succ, List.length_cons, List.length_nil, Nat.reduceAdd, Nat.zero_add, Nat.reduceSub, List.replicate_succ, List.replicate_zero, List.cons_append, List.nil_append, List.append_nil, reduceIte, if_true, if_false, Bool.false_eq_true, Bool.not_true, Bool.not_false]
    by_cases h12 : k = 12
    · have e1 : (k : Int) = 12 := by omega
      simp [e1, h12, nth]
    · have e1 : ¬ ((k : Int) = 12) := by omega
      simp [e1, h12, nth]
  · show (if k = 12 then y else x) < n
    split <;> assumption
end Lw


namespace Lw
open PySem PySem.Spec PyProof.Rows L2 DL
/-- the names that stand in the law -/
def labs : List Str := ["f", "g", "h", "odd"]
theorem label_eq : ∀ x ∈ labs, F_is_label [.str x] = .ok (.bl true) := by
  intro x hx
  have h4 : x = "f" ∨ x = "g" ∨ x = "h" ∨ x = "odd" := by simpa [labs] using hx
  rcases h4 with rfl | rfl | rfl | rfl <;> kernel_rfl
theorem labs_ok : ∀ x ∈ labs, PyData.strOk x = true := by decide +kernel
/-- an operation of an algebra: its name, arity, table -/
abbrev Opn := Str × Nat × List Nat
abbrev opT (x : Opn) : D := .tup [.str x.1, nD x.2.1, tN x.2.2]
abbrev opsT (l : List Opn) : D := .tup (l.map opT)
structure GA (n : Nat) (l : List Opn) : Prop where
  n1 : 1 ≤ n
  n8 : n ≤ 8
  op : ∀ x ∈ l, x.1 ∈ labs ∧ TOp n x.2.1 x.2.2
  le : l.length ≤ 4
  nd : (l.map (·.1)).Nodup
theorem are_things_gen (n : Nat) (t : List Nat) (ht : Th n t) (hl : t.length ≤ 1000) : F_are_things [nD n, tN t] = .ok (.bl true) := are_things_eq n t ht hl
theorem check_of_eq {n : Nat} {x : Opn} (hx : x.1 ∈ labs) (o : TOp n x.2.1 x.2.2) : F_check_operation_of [nD n, opT x] = .ok .non := by
  obtain ⟨a, r, t⟩ := x
  have h1 := o.n1
  have h2 := o.n8
  have h3 : r ≤ 2 := o.r2
  have h6 : t.length = n ^ r := o.len
  have h7 := pow64 h1 h2 h3
  refine fn_wp rfl ?_
  have e2 : (0 : Int) ≤ r ∧ (r : Int) ≤ 2 := by omega
  simp [den_check_operation_of, xSet, xAsg, xPar, xExpr, xRet, xRetN, xIf, xFor, xRaise, eBin, eCall, eNil, eCons, eTup, eLst, eChain, tVal, tCmp', tChain', eIsN, eNotN, tIsN', tNotN', tNot', tAnd', tOr', eAnd, eOr, eNot, eNeg, eIf, pNone, pSome, eSl, eDef, eIm, eIsi, sSeq, sRg1, sRg2, tYes', gNil', gCons', unpk, wipeE, eD0, eD1, sKeys, eQix, List.map_cons, List.map_nil, label_eq a hx, e2, power_eq n r (by omega) (by omega), are_things_eq n t o.th (by omega), h6]
theorem once_nodup : ∀ {l : List Str}, l.Nodup → once l = l := by
  have main : ∀ (l a : List Str), (a ++ l).Nodup → l.foldl (fun a x => if a.any (· == x) then a else a ++ [x]) a = a ++ l := by
    intro l
    induction l with
    | nil => intro a _; simp
    | cons x l ih =>
      intro a h
      have hx : ¬ (a.any (· == x)) = true := fun z => by
        obtain ⟨y, hy, e⟩ := List.any_eq_true.mp z
        have : y = x := eq_of_beq e
        subst this
        exact (List.nodup_append.mp h).2.2 y hy y (.head _) rfl
      rw [List.foldl_cons, if_neg hx, ih (a ++ [x]) (by simpa using h)]
      simp
  intro l h
  have := main l [] (by simpa using h)
  simpa [once] using this
theorem wp_ex {o : Out} {N : DL.Env → Prop} (h : o.wp ⟨N, fun _ => False, fun _ => False, fun _ => False, fun _ => False⟩) : ∃ e, o = .nx e ∧ N e := by
  cases o with
  | nx e => exact ⟨e, rfl, h⟩
  | _ => exact h.elim
theorem immAll_nat : ∀ l : List Nat, immAll (l.map nD) = true
  | [] => rfl
  | x :: l => by rw [List.map_cons, immAll, immAll_nat l]; rfl
theorem imm_tN (l : List Nat) : imm (tN l) = true := by rw [tN, imm, immAll_nat]
theorem imm_opT (x : Opn) : imm (opT x) = true := by
  rw [opT, imm, immAll, immAll, immAll, imm_tN, immAll]
  rfl
theorem immAll_ops : ∀ l : List Opn, immAll (l.map opT) = true
  | [] => rfl
  | x :: l => by rw [List.map_cons, immAll, immAll_ops l, imm_opT]; rfl
theorem imm_ops (l : List Opn) : imm (opsT l) = true := by rw [opsT, imm, immAll_ops]
abbrev algD (n : Nat) (l : List Opn) : D := .obj "Algebra" [nD n, opsT l]
theorem inD_ok {c : Str} {n N : Nat} {F : DL.Env → R (List D)} {l ds : List D} (h : l.length = n) (hF : F (some .raw :: (l.map some ++ List.replicate (N - (n + 1)) none)) = .ok ds) (hi : immAll ds = true) : inD c n N F l = .ok (.obj c ds) := by
  unfold inD
  rw [if_pos h, hF, okb, if_pos hi]
theorem preI_nx {d1 : DL.Env → Out} {F : DL.Env → R (List D)} {e e' : DL.Env} {r : R (List D)} (h : d1 e = .nx e') (k : F e' = r) : preI d1 F e = r := by
  unfold preI
  rw [h]
  exact k
theorem init_eq {n : Nat} {l : List Opn} (g : GA n l) (d : D) (hd : dIter d = .ok (l.map opT)) (hl : dLen [d] = .ok (.int (l.length : Int))) : F_Algebra___init__ [nD n, d] = .ok (algD n l) := by
  have h1 := g.n1
  have h8 := g.n8
  have hle := g.le
  have e1 : (1 : Int) ≤ n ∧ (n : Int) ≤ 8 := by omega
  have e2 : ¬ ((4 : Int) < (l.length : Int)) := by omega
  refine inD_ok rfl ?_ (by rw [immAll, immAll, immAll, imm_ops]; rfl)
  unfold den_Algebra___init__
  refine preI_nx (e' := [some .raw, some (nD n), some d, none, none, none, none, none]) ?_ ?_
  · simp [xSet, xAsg, xPar, xExpr, xRet, xRetN, xIf, xFor, xRaise, eBin, eCall, eNil, eCons, eTup, eLst, eChain, tVal, tCmp', tChain', eIsN, eNotN, tIsN', tNotN', tNot', tAnd', tOr', eAnd, eOr, eNot, eNeg, eIf, pNone, pSome, eSl, eDef, eIm, eIsi, sSeq, sRg1, sRg2, tYes', gNil', gCons', unpk, wipeE, eD0, eD1, sKeys, eQix, List.map_cons, List.map_nil, hl, e1, e2]
  refine preI_nx (e' := [some .raw, some (nD n), some d, some (.lst []), none, none, none, none]) ?_ ?_
  · simp [xSet, xAsg, xPar, xExpr, xRet, xRetN, xIf, xFor, xRaise, eBin, eCall, eNil, eCons, eTup, eLst, eChain, tVal, tCmp', tChain', eIsN, eNotN, tIsN', tNotN', tNot', tAnd', tOr', eAnd, eOr, eNot, eNeg, eIf, pNone, pSome, eSl, eDef, eIm, eIsi, sSeq, sRg1, sRg2, tYes', gNil', gCons', unpk, wipeE, eD0, eD1, sKeys, eQix, List.map_cons, List.map_nil]
  obtain ⟨e, he, o, rfl⟩ : ∃ e, xFor (sSeq (gv 2)) (sv 4) (seqO (xExpr (eDef 2 F_check_operation_of (eCons (gv 1) (eCons (gv 4) eNil)))) (seqO (apD 3 (eBin dIx (gv 4) (cst (.int 0)))) Out.nx)) [some .raw, some (nD n), some d, some (.lst []), none, none, none, none] = .nx e ∧ ∃ o, e = [some .raw, some (nD n), some d, some (.lst ((l.map (·.1)).map D.str)), o, none, none, none] := by
    refine wp_ex ?_
    simp only [xFor, sSeq, gv_eq, List.getElem?_cons_succ, List.getElem?_cons_zero, okb, hd, out_ok]
    refine wp_for opT (fun p e => ∃ o, e = [some .raw, some (nD n), some d, some (.lst ((p.map (·.1)).map D.str)), o, none, none, none]) l ⟨_, rfl⟩ ?_ ?_
    · rintro p x q hp e ⟨o, rfl⟩
      obtain ⟨hx, ox⟩ := g.op x (by rw [hp]; simp)
      have hpl : p.length < 1000 := by rw [hp] at hle; simp at hle; omega
      refine ⟨_, rfl, ?_⟩
      rw [seqO_eq]
      simp only [xExpr, eDef, eCons, eNil, gv_eq, List.set_cons_succ, List.set_cons_zero, List.getElem?_cons_succ, List.getElem?_cons_zero, okb, List.length_cons, List.length_nil, Nat.zero_add, Nat.reduceAdd, if_true, check_of_eq hx ox, out_ok, next_nx]
      rw [seqO_eq, apD_lst 3 rfl (d := .str x.1) (by simp only [xSet, xAsg, xPar, xExpr, xRet, xRetN, xIf, xFor, xRaise, eBin, eCall, eNil, eCons, eTup, eLst, eChain, tVal, tCmp', tChain', eIsN, eNotN, tIsN', tNotN', tNot', tAnd', tOr', eAnd, eOr, eNot, eNeg, eIf, pNone, pSome, eSl, eDef, eIm, eIsi, sSeq, sRg1, sRg2, tYes', gNil', gCons', unpk, wipeE, eD0, eD1, sKeys, eQix, List.map_cons, List.map_nil, gv_eq, sv_eq, mkT_0, mkT_1, mkT_2, mkT_3, mkT_4, mkT_5, mkL_0, mkL_1, mkL_2, mkL_3, mkL_4, mkL_5, cst_eq, okb, excb, nx_ok, nxA_ok, nxO_nx, nxO_rt, out_ok, out_exc, seqO_eq, next_nx, next_rt, next_bk, next_ct, next_exc, wp_nx, wp_rt, wp_exc, wp_bk, wp_ct, wp_next, dAdd_ii, dSub_ii, dCmp_ii, asB_bl, asI_int, asInt_int, dInt_int, dInt_bl, dLen_tup, dLen_lst, dLen_frz, dMin2_eq, dMax2_eq, dTuple_lst, dTuple_tup, dTuple_frz, dList_lst, dList_tup, dIter_tup, dIter_lst, dIter_frz, dIx_t0, dIx_t1, dIx_t2, dIx_l0, dIx_l1, dIx_l2, dSl_tup, dSl_lst, dEq_ii, dNe_ii, dEq_bb, dNe_bb, dAll_map, dAny_map, List.getElem?_cons_zero, List.getElem?_cons_succ, List.set_cons_zero, List.set_cons_succ, List.length_cons, List.length_nil, Nat.reduceAdd, Nat.zero_add, Nat.reduceSub, List.replicate_succ, List.replicate_zero, List.cons_append, List.nil_append, List.append_nil, reduceIte, if_true, if_false, Bool.false_eq_true, Bool.not_true, Bool.not_false]) (by simp; omega)]
      simp only [xSet, xAsg, xPar, xExpr, xRet, xRetN, xIf, xFor, xRaise, eBin, eCall, eNil, eCons, eTup, eLst, eChain, tVal, tCmp', tChain', eIsN, eNotN, tIsN', tNotN', tNot', tAnd', tOr', eAnd, eOr, eNot, eNeg, eIf, pNone, pSome, eSl, eDef, eIm, eIsi, sSeq, sRg1, sRg2, tYes', gNil', gCons', unpk, wipeE, eD0, eD1, sKeys, eQix, List.map_cons, List.map_nil, gv_eq, sv_eq, mkT_0, mkT_1, mkT_2, mkT_3, mkT_4, mkT_5, mkL_0, mkL_1, mkL_2, mkL_3, mkL_4, mkL_5, cst_eq, okb, excb, nx_ok, nxA_ok, nxO_nx, nxO_rt, out_ok, out_exc, seqO_eq, next_nx, next_rt, next_bk, next_ct, next_exc, wp_nx, wp_rt, wp_exc, wp_bk, wp_ct, wp_next, dAdd_ii, dSub_ii, dCmp_ii, asB_bl, asI_int, asInt_int, dInt_int, dInt_bl, dLen_tup, dLen_lst, dLen_frz, dMin2_eq, dMax2_eq, dTuple_lst, dTuple_tup, dTuple_frz, dList_lst, dList_tup, dIter_tup, dIter_lst, dIter_frz, dIx_t0, dIx_t1, dIx_t2, dIx_l0, dIx_l1, dIx_l2, dSl_tup, dSl_lst, dEq_ii, dNe_ii, dEq_bb, dNe_bb, dAll_map, dAny_map, List.getElem?_cons_zero, List.getElem?_cons_succ, List.set_cons_zero, List.set_cons_succ, List.length_cons, List.length_nil, Nat.reduceAdd, Nat.zero_add, Nat.reduceSub, List.replicate_succ, List.replicate_zero, List.cons_append, List.nil_append, List.append_nil, reduceIte, if_true, if_false, Bool.false_eq_true, Bool.not_true, Bool.not_false]
      exact ⟨some (opT x), by simp⟩
    · rintro e ⟨o, rfl⟩
      exact ⟨o, rfl⟩
  refine preI_nx he ?_
  have e3 : dOnce (.lst ((l.map (·.1)).map D.str)) = .ok (.int (l.length : Int)) := by
    unfold dOnce
    simp only [unS_map, once_nodup g.nd, List.length_map]
    rw [if_pos (by omega)]
  refine preI_nx (e' := [some .raw, some (nD n), some d, some (.lst ((l.map (·.1)).map D.str)), o, none, none, none]) ?_ ?_
  · simp only [xSet, xAsg, xPar, xExpr, xRet, xRetN, xIf, xFor, xRaise, eBin, eCall, eNil, eCons, eTup, eLst, eChain, tVal, tCmp', tChain', eIsN, eNotN, tIsN', tNotN', tNot', tAnd', tOr', eAnd, eOr, eNot, eNeg, eIf, pNone, pSome, eSl, eDef, eIm, eIsi, sSeq, sRg1, sRg2, tYes', gNil', gCons', unpk, wipeE, eD0, eD1, sKeys, eQix, List.map_cons, List.map_nil, gv_eq, sv_eq, mkT_0, mkT_1, mkT_2, mkT_3, mkT_4, mkT_5, mkL_0, mkL_1, mkL_2, mkL_3, mkL_4, mkL_5, cst_eq, okb, excb, nx_ok, nxA_ok, nxO_nx, nxO_rt, out_ok, out_exc, seqO_eq, next_nx, next_rt, next_bk, next_ct, next_exc, wp_nx, wp_rt, wp_exc, wp_bk, wp_ct, wp_next, dAdd_ii, dSub_ii, dCmp_ii, asB_bl, asI_int, asInt_int, dInt_int, dInt_bl, dLen_tup, dLen_lst, dLen_frz, dMin2_eq, dMax2_eq, dTuple_lst, dTuple_tup, dTuple_frz, dList_lst, dList_tup, dIter_tup, dIter_lst, dIter_frz, dIx_t0, dIx_t1, dIx_t2, dIx_l0, dIx_l1, dIx_l2, dSl_tup, dSl_lst, dEq_ii, dNe_ii, dEq_bb, dNe_bb, dAll_map, dAny_map, List.getElem?_cons_zero, List.getElem?_cons_succ, List.set_cons_zero, List.set_cons_succ, List.length_cons, List.length_nil, Nat.reduceAdd, Nat.zero_add, Nat.reduceSub, List.replicate_succ, List.replicate_zero, List.cons_append, List.nil_append, List.append_nil, reduceIte, if_true, if_false, Bool.false_eq_true, Bool.not_true, Bool.not_false, eOnce, e3, List.length_map]
    simp
  have e4 : eLc [5, 6, 7] (sSeq (gv 2)) (unpk 3 (gCons' (sv 5) (gCons' (sv 6) (gCons' (sv 7) gNil')))) tYes' (eTup (eCons (gv 5) (eCons (gv 6) (eCons (eCall dTuple (eCons (gv 7) eNil)) eNil)))) [some .raw, some (nD n), some d, some (.lst ((l.map (·.1)).map D.str)), o, none, none, none] = .ok (.lst (l.map opT)) := by
    refine eLc_map opT opT l (by simp only [xSet, xAsg, xPar, xExpr, xRet, xRetN, xIf, xFor, xRaise, eBin, eCall, eNil, eCons, eTup, eLst, eChain, tVal, tCmp', tChain', eIsN, eNotN, tIsN', tNotN', tNot', tAnd', tOr', eAnd, eOr, eNot, eNeg, eIf, pNone, pSome, eSl, eDef, eIm, eIsi, sSeq, sRg1, sRg2, tYes', gNil', gCons', unpk, wipeE, eD0, eD1, sKeys, eQix, List.map_cons, List.map_nil, gv_eq, sv_eq, mkT_0, mkT_1, mkT_2, mkT_3, mkT_4, mkT_5, mkL_0, mkL_1, mkL_2, mkL_3, mkL_4, mkL_5, cst_eq, okb, excb, nx_ok, nxA_ok, nxO_nx, nxO_rt, out_ok, out_exc, seqO_eq, next_nx, next_rt, next_bk, next_ct, next_exc, wp_nx, wp_rt, wp_exc, wp_bk, wp_ct, wp_next, dAdd_ii, dSub_ii, dCmp_ii, asB_bl, asI_int, asInt_int, dInt_int, dInt_bl, dLen_tup, dLen_lst, dLen_frz, dMin2_eq, dMax2_eq, dTuple_lst, dTuple_tup, dTuple_frz, dList_lst, dList_tup, dIter_tup, dIter_lst, dIter_frz, dIx_t0, dIx_t1, dIx_t2, dIx_l0, dIx_l1, dIx_l2, dSl_tup, dSl_lst, dEq_ii, dNe_ii, dEq_bb, dNe_bb, dAll_map, dAny_map, List.getElem?_cons_zero, List.getElem?_cons_succ, List.set_cons_zero, List.set_cons_succ, List.length_cons, List.length_nil, Nat.reduceAdd, Nat.zero_add, Nat.reduceSub, List.replicate_succ, List.replicate_zero, List.cons_append, List.nil_append, List.append_nil, reduceIte, if_true, if_false, Bool.false_eq_true, Bool.not_true, Bool.not_false, hd]) (by omega) ?_
    intro x hx
    refine ⟨_, rfl, rfl, ?_⟩
    simp only [xSet, xAsg, xPar, xExpr, xRet, xRetN, xIf, xFor, xRaise, eBin, eCall, eNil, eCons, eTup, eLst, eChain, tVal, tCmp', tChain', eIsN, eNotN, tIsN', tNotN', tNot', tAnd', tOr', eAnd, eOr, eNot, eNeg, eIf, pNone, pSome, eSl, eDef, eIm, eIsi, sSeq, sRg1, sRg2, tYes', gNil', gCons', unpk, wipeE, eD0, eD1, sKeys, eQix, List.map_cons, List.map_nil, gv_eq, sv_eq, mkT_0, mkT_1, mkT_2, mkT_3, mkT_4, mkT_5, mkL_0, mkL_1, mkL_2, mkL_3, mkL_4, mkL_5, cst_eq, okb, excb, nx_ok, nxA_ok, nxO_nx, nxO_rt, out_ok, out_exc, seqO_eq, next_nx, next_rt, next_bk, next_ct, next_exc, wp_nx, wp_rt, wp_exc, wp_bk, wp_ct, wp_next, dAdd_ii, dSub_ii, dCmp_ii, asB_bl, asI_int, asInt_int, dInt_int, dInt_bl, dLen_tup, dLen_lst, dLen_frz, dMin2_eq, dMax2_eq, dTuple_lst, dTuple_tup, dTuple_frz, dList_lst, dList_tup, dIter_tup, dIter_lst, dIter_frz, dIx_t0, dIx_t1, dIx_t2, dIx_l0, dIx_l1, dIx_l2, dSl_tup, dSl_lst, dEq_ii, dNe_ii, dEq_bb, dNe_bb, dAll_map, dAny_map, List.getElem?_cons_zero, List.getElem?_cons_succ, List.set_cons_zero, List.set_cons_succ, List.length_cons, List.length_nil, Nat.reduceAdd, Nat.zero_add, Nat.reduceSub, List.replicate_succ, List.replicate_zero, List.cons_append, List.nil_append, List.append_nil, reduceIte, if_true, if_false, Bool.false_eq_true, Bool.not_true, Bool.not_false]
  unfold tailI
  rw [if_pos (show selfD _ = true from rfl)]
  simp only [tailD, eCall, eCons, eNil, e4, gv_eq, List.getElem?_cons_succ, List.getElem?_cons_zero, okb, nx_ok, dTuple_lst, imm_ops, if_true]
  rfl
/-! ### what == sees, of what p holds -/
structure EmP {α : Type} (p : α → Prop) (f : α → D) (n : Nat) : Prop where
  lay : ∀ a, p a → (py (f a)).canLay0 = true
  dep : ∀ a, p a → (py (f a)).depth ≤ n
  eqv : ∀ a b, p a → p b → (deq (f a) (f b) = true ↔ a = b)
theorem EmP.flat {α : Type} {p : α → Prop} {f : α → D} {n : Nat} (h : EmP p f n) (hn : n ≤ 64) {a : α} (ha : p a) : flatOk (f a) = true := by
  unfold flatOk SeqAt.shaped
  rw [h.lay a ha, Bool.true_and, decide_eq_true_eq]
  exact Nat.le_trans (h.dep a ha) hn
theorem EmP.dNe {α : Type} [DecidableEq α] {p : α → Prop} {f : α → D} {n : Nat} (h : EmP p f n) {a b : α} (ha : p a) (hb : p b) (hn : n ≤ 64 := by decide) : dNe (f a) (f b) = .ok (.bl (decide (a ≠ b))) := by
  unfold DL.dNe
  rw [h.flat hn ha, h.flat hn hb, Bool.true_and, if_pos rfl]
  have e : deq (f a) (f b) = decide (a = b) := by rw [Bool.eq_iff_iff, h.eqv a b ha hb, decide_eq_true_eq]
  rw [e]
  simp
theorem EmP.dEq {α : Type} [DecidableEq α] {p : α → Prop} {f : α → D} {n : Nat} (h : EmP p f n) {a b : α} (ha : p a) (hb : p b) (hn : n ≤ 64 := by decide) : dEq (f a) (f b) = .ok (.bl (decide (a = b))) := by
  unfold DL.dEq
  rw [h.flat hn ha, h.flat hn hb, Bool.true_and, if_pos rfl]
  have e : deq (f a) (f b) = decide (a = b) := by rw [Bool.eq_iff_iff, h.eqv a b ha hb, decide_eq_true_eq]
  rw [e]
theorem emp_str : EmP (fun s => PyData.strOk s = true) D.str 0 := ⟨fun a h => by simp [py, PyData.canLay0, h], fun a _ => by simp [py, PyData.depth], fun a b _ _ => by simp [deq, py, PyData.eqv]⟩
theorem emOk_p {α : Type} {f : α → D} {n : Nat} (h : EmOk f n) : EmP (fun _ => True) f n := ⟨fun a _ => h.lay a, fun a _ => h.dep a, fun a b _ _ => h.eqv a b⟩
theorem emp_pair {α β : Type} {p : α → Prop} {q : β → Prop} {f : α → D} {g : β → D} {n k : Nat} (h : EmP p f n) (k' : EmP q g k) : EmP (fun x : α × β => p x.1 ∧ q x.2) (fun x => D.tup [f x.1, g x.2]) (max n k + 1) :=
  ⟨fun a ha => by simp [py, pyAll, PyData.canLay0, PyData.canLayAll0, h.lay _ ha.1, k'.lay _ ha.2], fun a ha => by
    have h1 := h.dep a.1 ha.1
    have h2 := k'.dep a.2 ha.2
    simp [py, pyAll, PyData.depth, PyData.depthAll]
    omega, fun a b ha hb => by
    have h1 := h.eqv a.1 b.1 ha.1 hb.1
    have h2 := k'.eqv a.2 b.2 ha.2 hb.2
    unfold deq at h1 h2 ⊢
    simp [py, pyAll, PyData.eqv, PyData.eqvAll, h1, h2, Prod.ext_iff]⟩
section
variable {α : Type} {p : α → Prop} {f : α → D} {n : Nat}
theorem empAll_lay (h : EmP p f n) : ∀ l : List α, (∀ a ∈ l, p a) → PyData.canLayAll0 (pyAll (l.map f)) = true
  | [], _ => by simp [pyAll, PyData.canLayAll0]
  | a :: l, hp => by
    rw [List.map_cons, pyAll, PyData.canLayAll0, h.lay a (hp a (.head _)), empAll_lay h l fun b hb => hp b (.tail _ hb)]
    rfl
theorem empAll_dep (h : EmP p f n) : ∀ l : List α, (∀ a ∈ l, p a) → PyData.depthAll (pyAll (l.map f)) ≤ n
  | [], _ => by simp [pyAll, PyData.depthAll]
  | a :: l, hp => by
    rw [List.map_cons, pyAll, PyData.depthAll]
    have h1 := h.dep a (hp a (.head _))
    have h2 := empAll_dep h l fun b hb => hp b (.tail _ hb)
    omega
theorem empAll_eqv (h : EmP p f n) : ∀ l m : List α, (∀ a ∈ l, p a) → (∀ a ∈ m, p a) → (PyData.eqvAll (pyAll (l.map f)) (pyAll (m.map f)) = true ↔ l = m)
  | [], [], _, _ => by simp [pyAll, PyData.eqvAll]
  | [], b :: m, _, _ => by simp [pyAll, PyData.eqvAll]
  | a :: l, [], _, _ => by simp [pyAll, PyData.eqvAll]
  | a :: l, b :: m, h1, h2 => by
    rw [List.map_cons, List.map_cons, pyAll, pyAll, PyData.eqvAll, Bool.and_eq_true, empAll_eqv h l m (fun c hc => h1 c (.tail _ hc)) (fun c hc => h2 c (.tail _ hc)), List.cons.injEq]
    have := h.eqv a b (h1 a (.head _)) (h2 b (.head _))
    unfold deq at this
    rw [this]
theorem emp_tup (h : EmP p f n) : EmP (fun l : List α => ∀ a ∈ l, p a) (fun l => D.tup (l.map f)) (n + 1) :=
  ⟨fun a ha => by
    show (py (.tup (a.map f))).canLay0 = true
    rw [py, PyData.canLay0]
    exact empAll_lay h a ha, fun a ha => by
    show (py (.tup (a.map f))).depth ≤ n + 1
    rw [py, PyData.depth]
    have := empAll_dep h a ha
    omega, fun a b ha hb => by
    show PyData.eqv (py (.tup (a.map f))) (py (.tup (b.map f))) = true ↔ a = b
    rw [py, py, PyData.eqv]
    exact empAll_eqv h a b ha hb⟩
end
/-- an algebra's signature -/
abbrev sigL (l : List Opn) : List (Str × Nat) := l.map fun x => (x.1, x.2.1)
abbrev sigD (l : List (Str × Nat)) : D := .tup (l.map fun x => .tup [.str x.1, nD x.2])
theorem emp_sig : EmP (fun l : List (Str × Nat) => ∀ a ∈ l, PyData.strOk a.1 = true ∧ True) sigD 2 := emp_tup (emp_pair emp_str (emOk_p em_nat))
end Lw


namespace Lw
open PySem PySem.Spec PyProof.Rows L2 DL
theorem fld_n (n : Nat) (l : List Opn) : dFld "Algebra" (["n", "operations"] : List Str) "n" (algD n l) = .ok (nD n) := rfl
theorem fld_ops (n : Nat) (l : List Opn) : dFld "Algebra" (["n", "operations"] : List Str) "operations" (algD n l) = .ok (opsT l) := rfl
/-- the row in the one algebra, in the other -/
def divs (m : Nat) (row : List Nat) : List Nat := row.map fun x => x / m
def mods (m : Nat) (row : List Nat) : List Nat := row.map fun x => x % m
def pval (n m : Nat) (t u row : List Nat) : Nat := val n t (divs m row) * m + val m u (mods m row)
/-- the product's operations -/
def prodOps (n m : Nat) (l k : List Opn) : List Opn := (List.range l.length).map fun i => ((l.getD i default).1, (l.getD i default).2.1, (tps (n * m) (l.getD i default).2.1).map (pval n m (l.getD i default).2.2 (k.getD i default).2.2))
theorem TOp.val_lt {n r : Nat} {t : List Nat} (o : TOp n r t) {l : List Nat} (hl : l.length = r) (h : Th n l) : idx n l < t.length ∧ val n t l < n := by
  have := idx_lt h
  rw [hl, ← o.len] at this
  exact ⟨this, o.th _ (nth_mem this)⟩
theorem divs_th {n m : Nat} {row : List Nat} (hm : 1 ≤ m) (h : Th (n * m) row) : Th n (divs m row) := by
  intro x hx
  obtain ⟨y, hy, rfl⟩ := List.mem_map.mp hx
  exact Nat.div_lt_of_lt_mul (by have := h y hy; rw [Nat.mul_comm] at this; exact this)
theorem mods_th {n m : Nat} {row : List Nat} (hm : 1 ≤ m) (h : Th (n * m) row) : Th m (mods m row) := by
  intro x hx
  obtain ⟨y, hy, rfl⟩ := List.mem_map.mp hx
  exact Nat.mod_lt _ hm
theorem pval_lt {n m r : Nat} {t u row : List Nat} (o : TOp n r t) (q : TOp m r u) (hl : row.length = r) (h : Th (n * m) row) : pval n m t u row < n * m := by
  have h1 := (o.val_lt (by simp [divs, hl]) (divs_th q.n1 h)).2
  have h2 := (q.val_lt (by simp [mods, hl]) (mods_th (n := n) q.n1 h)).2
  unfold pval
  have h3 : (val n t (divs m row) + 1) * m ≤ n * m := Nat.mul_le_mul_right m h1
  rw [Nat.add_mul, Nat.one_mul] at h3
  omega
theorem getD_eq {α : Type} {l : List α} {i : Nat} {d : α} (h : i < l.length) : l.getD i d = l[i] := by
  rw [List.getD_eq_getElem?_getD, List.getElem?_eq_getElem h]
  rfl
/-- the same signature, place by place -/
theorem sig_at {l k : List Opn} (h : sigL l = sigL k) {i : Nat} (hi : i < l.length) : i < k.length ∧ (k.getD i default).1 = (l.getD i default).1 ∧ (k.getD i default).2.1 = (l.getD i default).2.1 := by
  have hl : l.length = k.length := by simpa [sigL] using congrArg List.length h
  have hk : i < k.length := by omega
  have e : (sigL l)[i]? = (sigL k)[i]? := by rw [h]
  rw [List.getElem?_map, List.getElem?_map, List.getElem?_eq_getElem hi, List.getElem?_eq_getElem hk] at e
  have e := Option.some.inj e
  rw [getD_eq hi, getD_eq hk]
  exact ⟨hk, (congrArg (·.1) e).symm, (congrArg (·.2) e).symm⟩
theorem prod_ga {n m : Nat} {l k : List Opn} (g : GA n l) (h : GA m k) (hs : sigL l = sigL k) (h8 : n * m ≤ 8) : GA (n * m) (prodOps n m l k) := by
  have h1 : 1 ≤ n * m := Nat.mul_le_mul g.n1 h.n1
  refine ⟨h1, h8, fun x hx => ?_, by simp [prodOps]; exact g.le, ?_⟩
  · obtain ⟨i, hi, rfl⟩ := List.mem_map.mp hx
    have hi := List.mem_range.mp hi
    obtain ⟨hk, e1, e2⟩ := sig_at hs hi
    obtain ⟨a1, a2⟩ := g.op (l.getD i default) (getD_mem hi)
    obtain ⟨b1, b2⟩ := h.op (k.getD i default) (getD_mem hk)
    rw [e2] at b2
    refine ⟨a1, h1, h8, a2.r2, by rw [List.length_map, tps_length], fun y hy => ?_⟩
    obtain ⟨row, hr, rfl⟩ := List.mem_map.mp hy
    obtain ⟨z1, z2⟩ := tps_mem hr
    exact pval_lt a2 b2 z1 z2
  · have e : (prodOps n m l k).map (·.1) = l.map (·.1) := by
      unfold prodOps
      rw [List.map_map]
      refine List.ext_getElem (by simp) fun i h1 h2 => ?_
      simp at h1 h2
      simp [h1]
    rw [e]
    exact g.nd
theorem range_split {n x : Nat} {p q : List Nat} (h : List.range n = p ++ x :: q) : x = p.length ∧ p.length < n := by
  have hl := congrArg List.length h
  simp at hl
  have hp : p.length < n := by omega
  have e : (List.range n)[p.length]? = (p ++ x :: q)[p.length]? := by rw [h]
  rw [List.getElem?_range hp, List.getElem?_append_right (Nat.le_refl _), Nat.sub_self] at e
  exact ⟨(Option.some.inj e).symm, hp⟩
theorem index_of_map2 (n : Nat) (hn : n ≤ 1000000) (l : List Nat) (f : Nat → Nat) : F_index_of [nD n, .lst (l.map fun x => nD (f x))] = .ok (nD (idx n (l.map f))) := index_of_map n hn l f
end Lw


namespace Lw
open PySem PySem.Spec PyProof.Rows L2 DL
/-- the two sides -/
def sideA (n m : Nat) : List Nat := (List.range (n * m)).map fun x => x / m * m
def sideB (n m : Nat) : List Nat := (List.range (n * m)).map fun x => x % m
/-- the first operation of the name -/
theorem operation_eq {n : Nat} {l : List Opn} (g : GA n l) {x : Opn} (hx : x ∈ l) : F_Algebra_operation [algD n l, .str x.1] = .ok (opT x) := by
  refine fn_wp rfl ?_
  simp only [den_Algebra_operation, xSet, xAsg, xPar, xExpr, xRet, xRetN, xIf, xFor, xRaise, eBin, eCall, eNil, eCons, eTup, eLst, eChain, tVal, tCmp', tChain', eIsN, eNotN, tIsN', tNotN', tNot', tAnd', tOr', eAnd, eOr, eNot, eNeg, eIf, pNone, pSome, eSl, eDef, eIm, eIsi, sSeq, sRg1, sRg2, tYes', gNil', gCons', unpk, wipeE, eD0, eD1, sKeys, eQix, List.map_cons, List.map_nil, gv_eq, sv_eq, mkT_0, mkT_1, mkT_2, mkT_3, mkT_4, mkT_5, mkL_0, mkL_1, mkL_2, mkL_3, mkL_4, mkL_5, cst_eq, okb, excb, nx_ok, nxA_ok, nxO_nx, nxO_rt, out_ok, out_exc, seqO_eq, next_nx, next_rt, next_bk, next_ct, next_exc, wp_nx, wp_rt, wp_exc, wp_bk, wp_ct, wp_next, dAdd_ii, dSub_ii, dCmp_ii, asB_bl, asI_int, asInt_int, dInt_int, dInt_bl, dLen_tup, dLen_lst, dLen_frz, dMin2_eq, dMax2_eq, dTuple_lst, dTuple_tup, dTuple_frz, dList_lst, dList_tup, dIter_tup, dIter_lst, dIter_frz, dIx_t0, dIx_t1, dIx_t2, dIx_l0, dIx_l1, dIx_l2, dSl_tup, dSl_lst, dEq_ii, dNe_ii, dEq_bb, dNe_bb, dAll_map, dAny_map, List.getElem?_cons_zero, List.getElem?_cons_succ, List.set_cons_zero, List.set_cons_succ, List.length_cons, List.length_nil, Nat.reduceAdd, Nat.zero_add, Nat.reduceSub, List.replicate_succ, List.replicate_zero, List.cons_append, List.nil_append, List.append_nil, reduceIte, if_true, if_false, Bool.false_eq_true, Bool.not_true, Bool.not_false, eFld, fld_ops]
  refine wp_for opT (fun p e => (∀ y ∈ p, y.1 ≠ x.1) ∧ ∃ o, e = [some (algD n l), some (.str x.1), o]) l ⟨(fun y hy => by simp at hy), _, rfl⟩ ?_ ?_
  · rintro p y q hp e ⟨hno, o, rfl⟩
    have hy : y ∈ l := by rw [hp]; simp
    refine ⟨_, rfl, ?_⟩
    simp only [xSet, xAsg, xPar, xExpr, xRet, xRetN, xIf, xFor, xRaise, eBin, eCall, eNil, eCons, eTup, eLst, eChain, tVal, tCmp', tChain', eIsN, eNotN, tIsN', tNotN', tNot', tAnd', tOr', eAnd, eOr, eNot, eNeg, eIf, pNone, pSome, eSl, eDef, eIm, eIsi, sSeq, sRg1, sRg2, tYes', gNil', gCons', unpk, wipeE, eD0, eD1, sKeys, eQix, List.map_cons, List.map_nil, gv_eq, sv_eq, mkT_0, mkT_1, mkT_2, mkT_3, mkT_4, mkT_5, mkL_0, mkL_1, mkL_2, mkL_3, mkL_4, mkL_5, cst_eq, okb, excb, nx_ok, nxA_ok, nxO_nx, nxO_rt, out_ok, out_exc, seqO_eq, next_nx, next_rt, next_bk, next_ct, next_exc, wp_nx, wp_rt, wp_exc, wp_bk, wp_ct, wp_next, dAdd_ii, dSub_ii, dCmp_ii, asB_bl, asI_int, asInt_int, dInt_int, dInt_bl, dLen_tup, dLen_lst, dLen_frz, dMin2_eq, dMax2_eq, dTuple_lst, dTuple_tup, dTuple_frz, dList_lst, dList_tup, dIter_tup, dIter_lst, dIter_frz, dIx_t0, dIx_t1, dIx_t2, dIx_l0, dIx_l1, dIx_l2, dSl_tup, dSl_lst, dEq_ii, dNe_ii, dEq_bb, dNe_bb, dAll_map, dAny_map, List.getElem?_cons_zero, List.getElem?_cons_succ, List.set_cons_zero, List.set_cons_succ, List.length_cons, List.length_nil, Nat.reduceAdd, Nat.zero_add, Nat.reduceSub, List.replicate_succ, List.replicate_zero, List.cons_append, List.nil_append, List.append_nil, reduceIte, if_true, if_false, Bool.false_eq_true, Bool.not_true, Bool.not_false, dEq_ss (labs_ok _ (g.op y hy).1) (labs_ok _ (g.op x hx).1)]
    by_cases e1 : y.1 = x.1
    · have : y = x := by
        have nd := g.nd
        obtain ⟨i, hi, rfl⟩ := List.getElem_of_mem hy
        obtain ⟨j, hj, rfl⟩ := List.getElem_of_mem hx
        have hij : i = j := by
          have pw := List.pairwise_iff_getElem.mp nd
          rcases Nat.lt_trichotomy i j with z | z | z
          · exact absurd (by rw [List.getElem_map, List.getElem_map]; exact e1) (pw i j (by simpa using hi) (by simpa using hj) z)
          · exact z
          · exact absurd (by rw [List.getElem_map, List.getElem_map]; exact e1.symm) (pw j i (by simpa using hj) (by simpa using hi) z)
        subst hij
        rfl
      subst this
      simp only [decide_true, xSet, xAsg, xPar, xExpr, xRet, xRetN, xIf, xFor, xRaise, eBin, eCall, eNil, eCons, eTup, eLst, eChain, tVal, tCmp', tChain', eIsN, eNotN, tIsN', tNotN', tNot', tAnd', tOr', eAnd, eOr, eNot, eNeg, eIf, pNone, pSome, eSl, eDef, eIm, eIsi, sSeq, sRg1, sRg2, tYes', gNil', gCons', unpk, wipeE, eD0, eD1, sKeys, eQix, List.map_cons, List.map_nil, gv_eq, sv_eq, mkT_0, mkT_1, mkT_2, mkT_3, mkT_4, mkT_5, mkL_0, mkL_1, mkL_2, mkL_3, mkL_4, mkL_5, cst_eq, okb, excb, nx_ok, nxA_ok, nxO_nx, nxO_rt, out_ok, out_exc, seqO_eq, next_nx, next_rt, next_bk, next_ct, next_exc, wp_nx, wp_rt, wp_exc, wp_bk, wp_ct, wp_next, dAdd_ii, dSub_ii, dCmp_ii, asB_bl, asI_int, asInt_int, dInt_int, dInt_bl, dLen_tup, dLen_lst, dLen_frz, dMin2_eq, dMax2_eq, dTuple_lst, dTuple_tup, dTuple_frz, dList_lst, dList_tup, dIter_tup, dIter_lst, dIter_frz, dIx_t0, dIx_t1, dIx_t2, dIx_l0, dIx_l1, dIx_l2, dSl_tup, dSl_lst, dEq_ii, dNe_ii, dEq_bb, dNe_bb, dAll_map, dAny_map, List.getElem?_cons_zero, List.getElem?_cons_succ, List.set_cons_zero, List.set_cons_succ, List.length_cons, List.length_nil, Nat.reduceAdd, Nat.zero_add, Nat.reduceSub, List.replicate_succ, List.replicate_zero, List.cons_append, List.nil_append, List.append_nil, reduceIte, if_true, if_false, Bool.false_eq_true, Bool.not_true, Bool.not_false]
    · simp only [decide_eq_false e1, xSet, xAsg, xPar, xExpr, xRet, xRetN, xIf, xFor, xRaise, eBin, eCall, eNil, eCons, eTup, eLst, eChain, tVal, tCmp', tChain', eIsN, eNotN, tIsN', tNotN', tNot', tAnd', tOr', eAnd, eOr, eNot, eNeg, eIf, pNone, pSome, eSl, eDef, eIm, eIsi, sSeq, sRg1, sRg2, tYes', gNil', gCons', unpk, wipeE, eD0, eD1, sKeys, eQix, List.map_cons, List.map_nil, gv_eq, sv_eq, mkT_0, mkT_1, mkT_2, mkT_3, mkT_4, mkT_5, mkL_0, mkL_1, mkL_2, mkL_3, mkL_4, mkL_5, cst_eq, okb, excb, nx_ok, nxA_ok, nxO_nx, nxO_rt, out_ok, out_exc, seqO_eq, next_nx, next_rt, next_bk, next_ct, next_exc, wp_nx, wp_rt, wp_exc, wp_bk, wp_ct, wp_next, dAdd_ii, dSub_ii, dCmp_ii, asB_bl, asI_int, asInt_int, dInt_int, dInt_bl, dLen_tup, dLen_lst, dLen_frz, dMin2_eq, dMax2_eq, dTuple_lst, dTuple_tup, dTuple_frz, dList_lst, dList_tup, dIter_tup, dIter_lst, dIter_frz, dIx_t0, dIx_t1, dIx_t2, dIx_l0, dIx_l1, dIx_l2, dSl_tup, dSl_lst, dEq_ii, dNe_ii, dEq_bb, dNe_bb, dAll_map, dAny_map, List.getElem?_cons_zero, List.getElem?_cons_succ, List.set_cons_zero, List.set_cons_succ, List.length_cons, List.length_nil, Nat.reduceAdd, Nat.zero_add, Nat.reduceSub, List.replicate_succ, List.replicate_zero, List.cons_append, List.nil_append, List.append_nil, reduceIte, if_true, if_false, Bool.false_eq_true, Bool.not_true, Bool.not_false]
      exact ⟨fun z hz => (List.mem_append.mp hz).elim (hno z) fun w => by rw [List.mem_singleton.mp w]; exact e1, _, rfl⟩
  · rintro e ⟨hno, o, rfl⟩
    exact absurd rfl (hno x hx)
theorem mvalue_eq {n : Nat} {l : List Opn} (g : GA n l) {x : Opn} (hx : x ∈ l) {row : List Nat} (hr : row.length = x.2.1) (ht : Th n row) : F_Algebra_value [algD n l, .str x.1, tN row] = .ok (nD (val n x.2.2 row)) := by
  have o := (g.op x hx).2
  have h8 := o.n8
  have r2 := o.r2
  have e0 := operation_eq g hx
  refine fn_wp rfl ?_
  simp only [den_Algebra_value, xSet, xAsg, xPar, xExpr, xRet, xRetN, xIf, xFor, xRaise, eBin, eCall, eNil, eCons, eTup, eLst, eChain, tVal, tCmp', tChain', eIsN, eNotN, tIsN', tNotN', tNot', tAnd', tOr', eAnd, eOr, eNot, eNeg, eIf, pNone, pSome, eSl, eDef, eIm, eIsi, sSeq, sRg1, sRg2, tYes', gNil', gCons', unpk, wipeE, eD0, eD1, sKeys, eQix, List.map_cons, List.map_nil, gv_eq, sv_eq, mkT_0, mkT_1, mkT_2, mkT_3, mkT_4, mkT_5, mkL_0, mkL_1, mkL_2, mkL_3, mkL_4, mkL_5, cst_eq, okb, excb, nx_ok, nxA_ok, nxO_nx, nxO_rt, out_ok, out_exc, seqO_eq, next_nx, next_rt, next_bk, next_ct, next_exc, wp_nx, wp_rt, wp_exc, wp_bk, wp_ct, wp_next, dAdd_ii, dSub_ii, dCmp_ii, asB_bl, asI_int, asInt_int, dInt_int, dInt_bl, dLen_tup, dLen_lst, dLen_frz, dMin2_eq, dMax2_eq, dTuple_lst, dTuple_tup, dTuple_frz, dList_lst, dList_tup, dIter_tup, dIter_lst, dIter_frz, dIx_t0, dIx_t1, dIx_t2, dIx_l0, dIx_l1, dIx_l2, dSl_tup, dSl_lst, dEq_ii, dNe_ii, dEq_bb, dNe_bb, dAll_map, dAny_map, List.getElem?_cons_zero, List.getElem?_cons_succ, List.set_cons_zero, List.set_cons_succ, List.length_cons, List.length_nil, Nat.reduceAdd, Nat.zero_add, Nat.reduceSub, List.replicate_succ, List.replicate_zero, List.cons_append, List.nil_append, List.append_nil, reduceIte, if_true, if_false, Bool.false_eq_true, Bool.not_true, Bool.not_false, eMet, eFld, fld_n, e0, List.length_map, hr, ne_eq, not_true_eq_false, decide_false, are_things_eq n row ht (by omega), index_of_t n (show n ≤ 1000000 by omega), dIx_tN (o.val_lt hr ht).1]
/-! ### the law's own words -/
end Lw


namespace Lw
open PySem PySem.Spec PyProof.Rows L2 DL
/-- plain data: numbers, texts, tuples -/
inductive Pl : Nat → D → Prop
  | int (j : Nat) (i : Int) : Pl j (.int i)
  | str (j : Nat) {s : Str} : PyData.strOk s = true → Pl j (.str s)
  | tup {j : Nat} {l : List D} : (∀ d ∈ l, Pl j d) → l.length ≤ 1000000 → Pl (j + 1) (.tup l)
theorem Pl.up {j : Nat} {d : D} (h : Pl j d) : ∀ k, j ≤ k → Pl k d := by
  induction h with
  | int _ i => exact fun k _ => .int k i
  | str _ hs => exact fun k _ => .str k hs
  | tup hl hn ih =>
    intro k hk
    obtain ⟨k', rfl⟩ : ∃ k', k = k' + 1 := ⟨k - 1, by omega⟩
    exact .tup (fun d hd => ih d hd k' (by omega)) hn
theorem pl_tN (l : List Nat) (h : l.length ≤ 1000000) : Pl 1 (tN l) := .tup (fun d hd => by obtain ⟨x, _, rfl⟩ := List.mem_map.mp hd; exact .int _ _) (by simpa using h)
theorem pl_ops {n : Nat} {l : List Opn} (g : GA n l) : Pl 3 (opsT l) := by
  refine .tup (fun d hd => ?_) (by simp; have := g.le; omega)
  obtain ⟨x, hx, rfl⟩ := List.mem_map.mp hd
  obtain ⟨h1, h2⟩ := g.op x hx
  refine .tup (fun d hd => ?_) (by simp)
  have := pow64 h2.n1 h2.n8 h2.r2
  have := h2.len
  rcases List.mem_cons.mp hd with rfl | hd
  · exact .str _ (labs_ok _ h1)
  · rcases List.mem_cons.mp hd with rfl | hd
    · exact .int _ _
    · rw [List.mem_singleton.mp hd]
      exact pl_tN _ (by omega)
end Lw


namespace Lw
open PySem PySem.Spec PyProof.Rows L2 DL
theorem dIx_l3 (x y z u : D) (l : List D) : dIx (.lst (x :: y :: z :: u :: l)) (.int 3) = .ok u := dIx_lst (by omega) rfl
theorem dIx_l4 (x y z u v : D) (l : List D) : dIx (.lst (x :: y :: z :: u :: v :: l)) (.int 4) = .ok v := dIx_lst (by omega) rfl
def three : List Str := ["f", "g", "h"]
theorem three_ok : ∀ x ∈ three, x ∈ labs := by decide +kernel
theorem three_nd : three.Nodup := by decide +kernel
/-- the kinds of the operations -/
theorem kinds_wp {v n : Nat} {c : Int} {rest : DL.Env → Out} {Q : Po} (hr : ∀ ks : List Nat, ks.length ≤ 3 → (∀ x ∈ ks, x < 14) → ∀ d, (rest [some (.int c), some (nD n), some d, some (lN ks), none, none, none, none]).wp Q) (hv : F__law_rich [.int c] = .ok (nD v)) :
    (seqO (xSet 2 (eDef 2 F__law_digits (eCons (eDef 1 F__law_rich (eCons (gv 0) eNil)) (eCons (eLst (eCons (cst (.int 4)) (eCons (cst (.int 14)) (eCons (cst (.int 14)) (eCons (cst (.int 14)) (eCons (cst (.int 6)) eNil)))))) eNil))))
 (seqO (xSet 3 (eSl (eLst (eCons (eBin dIx (gv 2) (cst (.int 1))) (eCons (eBin dIx (gv 2) (cst (.int 2))) (eCons (eBin dIx (gv 2) (cst (.int 3))) eNil)))) pNone (pSome (eBin dIx (gv 2) (cst (.int 0))))))
 (seqO (xIf (tCmp' dEq (eBin dIx (gv 2) (cst (.int 4))) (cst (.int 0))) (seqO (xSet 3 (eLst (eCons (cst (.int 1)) (eCons (cst (.int 2)) (eCons (eBin dIx (gv 2) (cst (.int 1))) eNil)))))
 Out.nx)
 Out.nx)
 (seqO (xIf (tCmp' dEq (eBin dIx (gv 2) (cst (.int 4))) (cst (.int 1))) (seqO (xSet 3 (eSl (eLst (eCons (cst (.int 3)) (eCons (eBin dIx (eLst (eCons (cst (.int 11)) (eCons (cst (.int 7)) (eCons (cst (.int 4)) eNil)))) (eBin dMod (eCall dInt (eCons (eBin dIx (gv 2) (cst (.int 2))) eNil)) (cst (.int 3)))) (eCons (eBin dIx (gv 2) (cst (.int 1))) eNil)))) pNone (pSome (eBin dAdd (cst (.int 2)) (eCall dInt (eCons (eBin (dCmp fun i j => decide (j < i)) (eBin dIx (gv 2) (cst (.int 0))) (cst (.int 2))) eNil))))))
 Out.nx)
 Out.nx) rest))) [some (.int c), some (nD n), none, none, none, none, none, none]).wp Q := by
  obtain ⟨d0, d1, d2, d3, d4, hd, b0, b1, b2, b3, b4⟩ : ∃ d0 d1 d2 d3 d4 : Nat, F__law_digits [nD v, .lst [.int 4, .int 14, .int 14, .int 14, .int 6]] = .ok (.lst [nD d0, nD d1, nD d2, nD d3, nD d4]) ∧ d0 < 4 ∧ d1 < 14 ∧ d2 < 14 ∧ d3 < 14 ∧ d4 < 6 :=
    ⟨_, _, _, _, _, digits_eq v [4, 14, 14, 14, 6] (by simp) (by simp), Nat.mod_lt _ (by omega), Nat.mod_lt _ (by omega), Nat.mod_lt _ (by omega), Nat.mod_lt _ (by omega), Nat.mod_lt _ (by omega)⟩
  have e0 : cutD [nD d1, nD d2, nD d3] none (some (d0 : Int)) = ([d1, d2, d3].take d0).map nD := cutD_mapTo [d1, d2, d3] d0
  have f0 : ∀ x ∈ [d1, d2, d3].take d0, x < 14 := fun x hx => by
    have := List.mem_of_mem_take hx
    simp at this
    omega
  simp only [xSet, xAsg, xPar, xExpr, xRet, xRetN, xIf, xFor, xRaise, eBin, eCall, eNil, eCons, eTup, eLst, eChain, tVal, tCmp', tChain', eIsN, eNotN, tIsN', tNotN', tNot', tAnd', tOr', eAnd, eOr, eNot, eNeg, eIf, pNone, pSome, eSl, eDef, eIm, eIsi, sSeq, sRg1, sRg2, tYes', gNil', gCons', unpk, wipeE, eD0, eD1, sKeys, eQix, List.map_cons, List.map_nil, gv_eq, sv_eq, mkT_0, mkT_1, mkT_2, mkT_3, mkT_4, mkT_5, mkL_0, mkL_1, mkL_2, mkL_3, mkL_4, mkL_5, cst_eq, okb, excb, nx_ok, nxA_ok, nxO_nx, nxO_rt, out_ok, out_exc, seqO_eq, next_nx, next_rt, next_bk, next_ct, next_exc, wp_nx, wp_rt, wp_exc, wp_bk, wp_ct, wp_next, dAdd_ii, dSub_ii, dCmp_ii, asB_bl, asI_int, asInt_int, dInt_int, dInt_bl, dLen_tup, dLen_lst, dLen_frz, dMin2_eq, dMax2_eq, dTuple_lst, dTuple_tup, dTuple_frz, dList_lst, dList_tup, dIter_tup, dIter_lst, dIter_frz, dIx_t0, dIx_t1, dIx_t2, dIx_l0, dIx_l1, dIx_l2, dSl_tup, dSl_lst, dEq_ii, dNe_ii, dEq_bb, dNe_bb, dAll_map, dAny_map, List.getElem?_cons_zero, List.getElem?_cons_succ, List.set_cons_zero, List.set_cons_succ, List.length_cons, List.length_nil, Nat.reduceAdd, Nat.zero_add, Nat.reduceSub, List.replicate_succ, List.replicate_zero, List.cons_append, List.nil_append, List.append_nil, reduceIte, if_true, if_false, Bool.false_eq_true, Bool.not_true, Bool.not_false, hv, hd, dIx_l3, dIx_l4, e0]
  by_cases h0 : (d4 : Int) = 0
  · have h1 : ¬ (d4 : Int) = 1 := by omega
    simp only [decide_eq_true h0, decide_eq_false h1, xSet, xAsg, xPar, xExpr, xRet, xRetN, xIf, xFor, xRaise, eBin, eCall, eNil, eCons, eTup, eLst, eChain, tVal, tCmp', tChain', eIsN, eNotN, tIsN', tNotN', tNot', tAnd', tOr', eAnd, eOr, eNot, eNeg, eIf, pNone, pSome, eSl, eDef, eIm, eIsi, sSeq, sRg1, sRg2, tYes', gNil', gCons', unpk, wipeE, eD0, eD1, sKeys, eQix, List.map_cons, List.map_nil, gv_eq, sv_eq, mkT_0, mkT_1, mkT_2, mkT_3, mkT_4, mkT_5, mkL_0, mkL_1, mkL_2, mkL_3, mkL_4, mkL_5, cst_eq, okb, excb, nx_ok, nxA_ok, nxO_nx, nxO_rt, out_ok, out_exc, seqO_eq, next_nx, next_rt, next_bk, next_ct, next_exc, wp_nx, wp_rt, wp_exc, wp_bk, wp_ct, wp_next, dAdd_ii, dSub_ii, dCmp_ii, asB_bl, asI_int, asInt_int, dInt_int, dInt_bl, dLen_tup, dLen_lst, dLen_frz, dMin2_eq, dMax2_eq, dTuple_lst, dTuple_tup, dTuple_frz, dList_lst, dList_tup, dIter_tup, dIter_lst, dIter_frz, dIx_t0, dIx_t1, dIx_t2, dIx_l0, dIx_l1, dIx_l2, dSl_tup, dSl_lst, dEq_ii, dNe_ii, dEq_bb, dNe_bb, dAll_map, dAny_map, List.getElem?_cons_zero, List.getElem?_cons_succ, List.set_cons_zero, List.set_cons_succ, List.length_cons, List.length_nil, Nat.reduceAdd, Nat.zero_add, Nat.reduceSub, List.replicate_succ, List.replicate_zero, List.cons_append, List.nil_append, List.append_nil, reduceIte, if_true, if_false, Bool.false_eq_true, Bool.not_true, Bool.not_false, dIx_l3, dIx_l4]
    exact hr [1, 2, d1] (by simp) (by simp; omega) _
  · by_cases h1 : (d4 : Int) = 1
    · simp only [decide_eq_false h0, decide_eq_true h1, xSet, xAsg, xPar, xExpr, xRet, xRetN, xIf, xFor, xRaise, eBin, eCall, eNil, eCons, eTup, eLst, eChain, tVal, tCmp', tChain', eIsN, eNotN, tIsN', tNotN', tNot', tAnd', tOr', eAnd, eOr, eNot, eNeg, eIf, pNone, pSome, eSl, eDef, eIm, eIsi, sSeq, sRg1, sRg2, tYes', gNil', gCons', unpk, wipeE, eD0, eD1, sKeys, eQix, List.map_cons, List.map_nil, gv_eq, sv_eq, mkT_0, mkT_1, mkT_2, mkT_3, mkT_4, mkT_5, mkL_0, mkL_1, mkL_2, mkL_3, mkL_4, mkL_5, cst_eq, okb, excb, nx_ok, nxA_ok, nxO_nx, nxO_rt, out_ok, out_exc, seqO_eq, next_nx, next_rt, next_bk, next_ct, next_exc, wp_nx, wp_rt, wp_exc, wp_bk, wp_ct, wp_next, dAdd_ii, dSub_ii, dCmp_ii, asB_bl, asI_int, asInt_int, dInt_int, dInt_bl, dLen_tup, dLen_lst, dLen_frz, dMin2_eq, dMax2_eq, dTuple_lst, dTuple_tup, dTuple_frz, dList_lst, dList_tup, dIter_tup, dIter_lst, dIter_frz, dIx_t0, dIx_t1, dIx_t2, dIx_l0, dIx_l1, dIx_l2, dSl_tup, dSl_lst, dEq_ii, dNe_ii, dEq_bb, dNe_bb, dAll_map, dAny_map, List.getElem?_cons_zero, List.getElem?_cons_succ, List.set_cons_zero, List.set_cons_succ, List.length_cons, List.length_nil, Nat.reduceAdd, Nat.zero_add, Nat.reduceSub, List.replicate_succ, List.replicate_zero, List.cons_append, List.nil_append, List.append_nil, reduceIte, if_true, if_false, Bool.false_eq_true, Bool.not_true, Bool.not_false, dIx_l3, dIx_l4]
      have m3 : d2 % 3 < 3 := Nat.mod_lt _ (by omega)
      have e3 : dMod (nD d2) (.int 3) = .ok (nD (d2 % 3)) := dMod_nn (j := 3) (by omega)
      obtain ⟨y, e4, hy⟩ : ∃ y : Nat, dIx (.lst [.int 11, .int 7, .int 4]) (nD (d2 % 3)) = .ok (nD y) ∧ y < 14 := by
        have : d2 % 3 = 0 ∨ d2 % 3 = 1 ∨ d2 % 3 = 2 := by omega
        rcases this with h | h | h <;> rw [h]
        · exact ⟨11, rfl, by omega⟩
        · exact ⟨7, rfl, by omega⟩
        · exact ⟨4, rfl, by omega⟩
      have e5 : (2 : Int) + (if decide ((2 : Int) < (d0 : Int)) = true then 1 else 0) = ((if 2 < d0 then 3 else 2 : Nat) : Int) := by
        by_cases hz : 2 < d0
        · rw [decide_eq_true (show (2 : Int) < d0 by omega), if_pos rfl, if_pos hz]; rfl
        · rw [decide_eq_false (show ¬ (2 : Int) < d0 by omega), if_neg hz]; rfl
      have e6 : ∀ b : Nat, cutD [.int 3, nD y, nD d1] none (some (b : Int)) = ([3, y, d1].take b).map nD := fun b => cutD_mapTo [3, y, d1] b
      simp only [xSet, xAsg, xPar, xExpr, xRet, xRetN, xIf, xFor, xRaise, eBin, eCall, eNil, eCons, eTup, eLst, eChain, tVal, tCmp', tChain', eIsN, eNotN, tIsN', tNotN', tNot', tAnd', tOr', eAnd, eOr, eNot, eNeg, eIf, pNone, pSome, eSl, eDef, eIm, eIsi, sSeq, sRg1, sRg2, tYes', gNil', gCons', unpk, wipeE, eD0, eD1, sKeys, eQix, List.map_cons, List.map_nil, gv_eq, sv_eq, mkT_0, mkT_1, mkT_2, mkT_3, mkT_4, mkT_5, mkL_0, mkL_1, mkL_2, mkL_3, mkL_4, mkL_5, cst_eq, okb, excb, nx_ok, nxA_ok, nxO_nx, nxO_rt, out_ok, out_exc, seqO_eq, next_nx, next_rt, next_bk, next_ct, next_exc, wp_nx, wp_rt, wp_exc, wp_bk, wp_ct, wp_next, dAdd_ii, dSub_ii, dCmp_ii, asB_bl, asI_int, asInt_int, dInt_int, dInt_bl, dLen_tup, dLen_lst, dLen_frz, dMin2_eq, dMax2_eq, dTuple_lst, dTuple_tup, dTuple_frz, dList_lst, dList_tup, dIter_tup, dIter_lst, dIter_frz, dIx_t0, dIx_t1, dIx_t2, dIx_l0, dIx_l1, dIx_l2, dSl_tup, dSl_lst, dEq_ii, dNe_ii, dEq_bb, dNe_bb, dAll_map, dAny_map, List.getElem?_cons_zero, List.getElem?_cons_succ, List.set_cons_zero, List.set_cons_succ, List.length_cons, List.length_nil, Nat.reduceAdd, Nat.zero_add, Nat.reduceSub, List.replicate_succ, List.replicate_zero, List.cons_append, List.nil_append, List.append_nil, reduceIte, if_true, if_false, Bool.false_eq_true, Bool.not_true, Bool.not_false, dIx_l3, dIx_l4, e3, e4, e5, e6]
      refine hr _ (by simp; omega) (fun x hx => ?_) _
      have := List.mem_of_mem_take hx
      simp at this
      omega
    · simp only [decide_eq_false h0, decide_eq_false h1, xSet, xAsg, xPar, xExpr, xRet, xRetN, xIf, xFor, xRaise, eBin, eCall, eNil, eCons, eTup, eLst, eChain, tVal, tCmp', tChain', eIsN, eNotN, tIsN', tNotN', tNot', tAnd', tOr', eAnd, eOr, eNot, eNeg, eIf, pNone, pSome, eSl, eDef, eIm, eIsi, sSeq, sRg1, sRg2, tYes', gNil', gCons', unpk, wipeE, eD0, eD1, sKeys, eQix, List.map_cons, List.map_nil, gv_eq, sv_eq, mkT_0, mkT_1, mkT_2, mkT_3, mkT_4, mkT_5, mkL_0, mkL_1, mkL_2, mkL_3, mkL_4, mkL_5, cst_eq, okb, excb, nx_ok, nxA_ok, nxO_nx, nxO_rt, out_ok, out_exc, seqO_eq, next_nx, next_rt, next_bk, next_ct, next_exc, wp_nx, wp_rt, wp_exc, wp_bk, wp_ct, wp_next, dAdd_ii, dSub_ii, dCmp_ii, asB_bl, asI_int, asInt_int, dInt_int, dInt_bl, dLen_tup, dLen_lst, dLen_frz, dMin2_eq, dMax2_eq, dTuple_lst, dTuple_tup, dTuple_frz, dList_lst, dList_tup, dIter_tup, dIter_lst, dIter_frz, dIx_t0, dIx_t1, dIx_t2, dIx_l0, dIx_l1, dIx_l2, dSl_tup, dSl_lst, dEq_ii, dNe_ii, dEq_bb, dNe_bb, dAll_map, dAny_map, List.getElem?_cons_zero, List.getElem?_cons_succ, List.set_cons_zero, List.set_cons_succ, List.length_cons, List.length_nil, Nat.reduceAdd, Nat.zero_add, Nat.reduceSub, List.replicate_succ, List.replicate_zero, List.cons_append, List.nil_append, List.append_nil, reduceIte, if_true, if_false, Bool.false_eq_true, Bool.not_true, Bool.not_false, dIx_l3, dIx_l4]
      exact hr _ (by simp; omega) f0 _
theorem ops_eq (n : Nat) (c : Int) (h1 : 1 ≤ n) (h8 : n ≤ 8) : ∃ l, GA n l ∧ (∀ x ∈ l, x.1 ∈ three) ∧ F__law_operations [.int c, nD n] = .ok (opsT l) := by
  obtain ⟨v, hv⟩ := rich_eq c
  refine fn_wpP (fun w => ∃ l, GA n l ∧ (∀ x ∈ l, x.1 ∈ three) ∧ w = .ok (opsT l)) rfl ?_
  unfold den__law_operations
  refine kinds_wp (fun ks hk hx d => ?_) hv
  rw [seqO_eq, wp_next]
  simp only [xSet, eLst, eNil, okb, mkL_0, out_ok, wp_nx, List.set_cons_succ, List.set_cons_zero]
  rw [seqO_eq, wp_next]
  have e1 : ∀ a : D, sRg1 (eCall dLen (eCons (gv 3) eNil)) [some (.int c), some (nD n), some d, some (lN ks), some a, none, none, none] = .ok ((List.range ks.length).map nD) := fun a => by
    simp only [xSet, xAsg, xPar, xExpr, xRet, xRetN, xIf, xFor, xRaise, eBin, eCall, eNil, eCons, eTup, eLst, eChain, tVal, tCmp', tChain', eIsN, eNotN, tIsN', tNotN', tNot', tAnd', tOr', eAnd, eOr, eNot, eNeg, eIf, pNone, pSome, eSl, eDef, eIm, eIsi, sSeq, sRg1, sRg2, tYes', gNil', gCons', unpk, wipeE, eD0, eD1, sKeys, eQix, List.map_cons, List.map_nil, gv_eq, sv_eq, mkT_0, mkT_1, mkT_2, mkT_3, mkT_4, mkT_5, mkL_0, mkL_1, mkL_2, mkL_3, mkL_4, mkL_5, cst_eq, okb, excb, nx_ok, nxA_ok, nxO_nx, nxO_rt, out_ok, out_exc, seqO_eq, next_nx, next_rt, next_bk, next_ct, next_exc, wp_nx, wp_rt, wp_exc, wp_bk, wp_ct, wp_next, dAdd_ii, dSub_ii, dCmp_ii, asB_bl, asI_int, asInt_int, dInt_int, dInt_bl, dLen_tup, dLen_lst, dLen_frz, dMin2_eq, dMax2_eq, dTuple_lst, dTuple_tup, dTuple_frz, dList_lst, dList_tup, dIter_tup, dIter_lst, dIter_frz, dIx_t0, dIx_t1, dIx_t2, dIx_l0, dIx_l1, dIx_l2, dSl_tup, dSl_lst, dEq_ii, dNe_ii, dEq_bb, dNe_bb, dAll_map, dAny_map, List.getElem?_cons_zero, List.getElem?_cons_succ, List.set_cons_zero, List.set_cons_succ, List.length_cons, List.length_nil, Nat.reduceAdd, Nat.zero_add, Nat.reduceSub, List.replicate_succ, List.replicate_zero, List.cons_append, List.nil_append, List.append_nil, reduceIte, if_true, if_false, Bool.false_eq_true, Bool.not_true, Bool.not_false, List.length_map, mkRgI_nat (show ks.length ≤ 1000000000 by omega)]
  simp only [xFor, e1, out_ok]
  refine wp_for nD (fun p e => ∃ (l : List Opn) (o1 o2 o3 : Option D), l.length = p.length ∧ l.map (·.1) = three.take p.length ∧ (∀ x ∈ l, TOp n x.2.1 x.2.2) ∧ e = [some (.int c), some (nD n), some d, some (lN ks), some (.lst (l.map opT)), o1, o2, o3]) (List.range ks.length) ⟨[], _, _, _, rfl, rfl, (fun x hx => by simp at hx), rfl⟩ ?_ ?_
  · rintro p i q hp e ⟨l, o1, o2, o3, l1, l2, l3, rfl⟩
    obtain ⟨rfl, hi⟩ := range_split hp
    have ix1 : dIx (lN ks) (nD p.length) = .ok (nD (nth ks p.length)) := dIx_lN hi
    obtain ⟨r, t, ot, _, ht⟩ := table_eq (nth ks p.length) n (c / 3 + 5 * (p.length : Int)) (by have := hx _ (nth_mem hi); omega) h1 h8
    have e5 : dMul (.int 5) (nD p.length) = .ok (.int (5 * (p.length : Int))) := dMul_l rfl
    refine ⟨_, rfl, ?_⟩
    rw [seqO_eq, wp_next]
    simp only [xAsg, eBin, eDef, eCons, eNil, gv_eq, cst_eq, List.set_cons_succ, List.set_cons_zero, List.getElem?_cons_succ, List.getElem?_cons_zero, okb, ix1, nx_ok, dFdiv_eq (show (0 : Int) < 3 by omega) (show (3 : Int) < 1073741824 by omega), e5, dAdd_ii, List.length_cons, List.length_nil, Nat.zero_add, Nat.reduceAdd, if_true, ht, out_ok, unpk, gCons', gNil', sv_eq, nxA_ok, wp_nx]
    have hp3 : p.length < three.length := by show p.length < 3; omega
    have ix2 : dIx (.lst [.str "f", .str "g", .str "h"]) (nD p.length) = .ok (.str (three.getD p.length Str.empty)) := dIx_lm (f := D.str) (l := three) Str.empty hp3
    rw [seqO_eq, apD_lst 4 rfl (d := opT (three.getD p.length Str.empty, r, t)) ?_ (by simp; omega)]
    · simp only [xSet, xAsg, xPar, xExpr, xRet, xRetN, xIf, xFor, xRaise, eBin, eCall, eNil, eCons, eTup, eLst, eChain, tVal, tCmp', tChain', eIsN, eNotN, tIsN', tNotN', tNot', tAnd', tOr', eAnd, eOr, eNot, eNeg, eIf, pNone, pSome, eSl, eDef, eIm, eIsi, sSeq, sRg1, sRg2, tYes', gNil', gCons', unpk, wipeE, eD0, eD1, sKeys, eQix, List.map_cons, List.map_nil, gv_eq, sv_eq, mkT_0, mkT_1, mkT_2, mkT_3, mkT_4, mkT_5, mkL_0, mkL_1, mkL_2, mkL_3, mkL_4, mkL_5, cst_eq, okb, excb, nx_ok, nxA_ok, nxO_nx, nxO_rt, out_ok, out_exc, seqO_eq, next_nx, next_rt, next_bk, next_ct, next_exc, wp_nx, wp_rt, wp_exc, wp_bk, wp_ct, wp_next, dAdd_ii, dSub_ii, dCmp_ii, asB_bl, asI_int, asInt_int, dInt_int, dInt_bl, dLen_tup, dLen_lst, dLen_frz, dMin2_eq, dMax2_eq, dTuple_lst, dTuple_tup, dTuple_frz, dList_lst, dList_tup, dIter_tup, dIter_lst, dIter_frz, dIx_t0, dIx_t1, dIx_t2, dIx_l0, dIx_l1, dIx_l2, dSl_tup, dSl_lst, dEq_ii, dNe_ii, dEq_bb, dNe_bb, dAll_map, dAny_map, List.getElem?_cons_zero, List.getElem?_cons_succ, List.set_cons_zero, List.set_cons_succ, List.length_cons, List.length_nil, Nat.reduceAdd, Nat.zero_add, Nat.reduceSub, List.replicate_succ, List.replicate_zero, List.cons_append, List.nil_append, List.append_nil, reduceIte, if_true, if_false, Bool.false_eq_true, Bool.not_true, Bool.not_false, map_snoc]
      refine ⟨l ++ [(three.getD p.length Str.empty, r, t)], _, _, _, by simp [l1], ?_, fun x hx => ?_, rfl⟩
      · rw [List.map_append, l2, List.length_append, List.length_singleton, List.take_succ, List.getElem?_eq_getElem hp3, List.getD_eq_getElem?_getD, List.getElem?_eq_getElem hp3]
        rfl
      · rcases List.mem_append.mp hx with hx | hx
        · exact l3 x hx
        · rw [List.mem_singleton.mp hx]
          exact ot
    · simp only [xSet, xAsg, xPar, xExpr, xRet, xRetN, xIf, xFor, xRaise, eBin, eCall, eNil, eCons, eTup, eLst, eChain, tVal, tCmp', tChain', eIsN, eNotN, tIsN', tNotN', tNot', tAnd', tOr', eAnd, eOr, eNot, eNeg, eIf, pNone, pSome, eSl, eDef, eIm, eIsi, sSeq, sRg1, sRg2, tYes', gNil', gCons', unpk, wipeE, eD0, eD1, sKeys, eQix, List.map_cons, List.map_nil, gv_eq, sv_eq, mkT_0, mkT_1, mkT_2, mkT_3, mkT_4, mkT_5, mkL_0, mkL_1, mkL_2, mkL_3, mkL_4, mkL_5, cst_eq, okb, excb, nx_ok, nxA_ok, nxO_nx, nxO_rt, out_ok, out_exc, seqO_eq, next_nx, next_rt, next_bk, next_ct, next_exc, wp_nx, wp_rt, wp_exc, wp_bk, wp_ct, wp_next, dAdd_ii, dSub_ii, dCmp_ii, asB_bl, asI_int, asInt_int, dInt_int, dInt_bl, dLen_tup, dLen_lst, dLen_frz, dMin2_eq, dMax2_eq, dTuple_lst, dTuple_tup, dTuple_frz, dList_lst, dList_tup, dIter_tup, dIter_lst, dIter_frz, dIx_t0, dIx_t1, dIx_t2, dIx_l0, dIx_l1, dIx_l2, dSl_tup, dSl_lst, dEq_ii, dNe_ii, dEq_bb, dNe_bb, dAll_map, dAny_map, List.getElem?_cons_zero, List.getElem?_cons_succ, List.set_cons_zero, List.set_cons_succ, List.length_cons, List.length_nil, Nat.reduceAdd, Nat.zero_add, Nat.reduceSub, List.replicate_succ, List.replicate_zero, List.cons_append, List.nil_append, List.append_nil, reduceIte, if_true, if_false, Bool.false_eq_true, Bool.not_true, Bool.not_false, mkL_3, ix2]
  · rintro e ⟨l, o1, o2, o3, l1, l2, l3, rfl⟩
    simp only [xSet, xAsg, xPar, xExpr, xRet, xRetN, xIf, xFor, xRaise, eBin, eCall, eNil, eCons, eTup, eLst, eChain, tVal, tCmp', tChain', eIsN, eNotN, tIsN', tNotN', tNot', tAnd', tOr', eAnd, eOr, eNot, eNeg, eIf, pNone, pSome, eSl, eDef, eIm, eIsi, sSeq, sRg1, sRg2, tYes', gNil', gCons', unpk, wipeE, eD0, eD1, sKeys, eQix, List.map_cons, List.map_nil, gv_eq, sv_eq, mkT_0, mkT_1, mkT_2, mkT_3, mkT_4, mkT_5, mkL_0, mkL_1, mkL_2, mkL_3, mkL_4, mkL_5, cst_eq, okb, excb, nx_ok, nxA_ok, nxO_nx, nxO_rt, out_ok, out_exc, seqO_eq, next_nx, next_rt, next_bk, next_ct, next_exc, wp_nx, wp_rt, wp_exc, wp_bk, wp_ct, wp_next, dAdd_ii, dSub_ii, dCmp_ii, asB_bl, asI_int, asInt_int, dInt_int, dInt_bl, dLen_tup, dLen_lst, dLen_frz, dMin2_eq, dMax2_eq, dTuple_lst, dTuple_tup, dTuple_frz, dList_lst, dList_tup, dIter_tup, dIter_lst, dIter_frz, dIx_t0, dIx_t1, dIx_t2, dIx_l0, dIx_l1, dIx_l2, dSl_tup, dSl_lst, dEq_ii, dNe_ii, dEq_bb, dNe_bb, dAll_map, dAny_map, List.getElem?_cons_zero, List.getElem?_cons_succ, List.set_cons_zero, List.set_cons_succ, List.length_cons, List.length_nil, Nat.reduceAdd, Nat.zero_add, Nat.reduceSub, List.replicate_succ, List.replicate_zero, List.cons_append, List.nil_append, List.append_nil, reduceIte, if_true, if_false, Bool.false_eq_true, Bool.not_true, Bool.not_false]
    have hl : l.length = ks.length := by simpa using l1
    have l4 : ∀ x ∈ l, x.1 ∈ three := fun x hx => by
      have : x.1 ∈ l.map (·.1) := List.mem_map.mpr ⟨x, hx, rfl⟩
      rw [l2] at this
      exact List.mem_of_mem_take this
    refine ⟨l, ⟨h1, h8, fun x hx => ⟨three_ok _ (l4 x hx), l3 x hx⟩, by omega, ?_⟩, l4, rfl⟩
    · rw [l2]
      exact List.Nodup.sublist (List.take_sublist _ _) three_nd
end Lw

/-! Joinings: the plain law. -/
namespace Lw
open DL
/-- the least equivalence on the things below n that holds the pairs of G -/
inductive EqG (n : Nat) (G : Nat → Nat → Prop) : Nat → Nat → Prop
  | pr {a b : Nat} : G a b → EqG n G a b
  | rf {a : Nat} : a < n → EqG n G a a
  | sm {a b : Nat} : EqG n G a b → EqG n G b a
  | tr {a b c : Nat} : EqG n G a b → EqG n G b c → EqG n G a c
/-- the least one that goes along with the moves, too; M: the rows of the moves -/
inductive Cg (n : Nat) (M : List Nat → Prop) (P : Nat → Nat → Prop) : Nat → Nat → Prop
  | pr {a b : Nat} : P a b → Cg n M P a b
  | rf {a : Nat} : a < n → Cg n M P a a
  | sm {a b : Nat} : Cg n M P a b → Cg n M P b a
  | tr {a b c : Nat} : Cg n M P a b → Cg n M P b c → Cg n M P a c
  | mv {a b : Nat} {r : List Nat} : M r → Cg n M P a b → Cg n M P (nth r a) (nth r b)
theorem EqG.mono {n : Nat} {G G' : Nat → Nat → Prop} (h : ∀ a b, G a b → EqG n G' a b) {a b : Nat} (e : EqG n G a b) : EqG n G' a b := by
  induction e with
  | pr h1 => exact h _ _ h1
  | rf h1 => exact .rf h1
  | sm _ ih => exact .sm ih
  | tr _ _ ih1 ih2 => exact .tr ih1 ih2
theorem EqG.img {n : Nat} {G : Nat → Nat → Prop} {r : List Nat} (hM : ∀ a b, G a b → EqG n G (nth r a) (nth r b)) (hr : ∀ a, a < n → nth r a < n) {a b : Nat} (e : EqG n G a b) : EqG n G (nth r a) (nth r b) := by
  induction e with
  | pr h1 => exact hM _ _ h1
  | rf h1 => exact .rf (hr _ h1)
  | sm _ ih => exact .sm ih
  | tr _ _ ih1 ih2 => exact .tr ih1 ih2
/-- if the images of G's pairs are joined, and the pairs, then all that the moves lead to is joined -/
theorem cg_le {n : Nat} {M : List Nat → Prop} {P G : Nat → Nat → Prop} (hP : ∀ a b, P a b → EqG n G a b) (hM : ∀ r, M r → ∀ a b, G a b → EqG n G (nth r a) (nth r b)) (hr : ∀ r, M r → ∀ a, a < n → nth r a < n) {a b : Nat} (h : Cg n M P a b) : EqG n G a b := by
  induction h with
  | pr h1 => exact hP _ _ h1
  | rf h1 => exact .rf h1
  | sm _ ih => exact .sm ih
  | tr _ _ ih1 ih2 => exact .tr ih1 ih2
  | @mv a b r hm _ ih => exact ih.img (hM r hm) (hr r hm)
theorem le_cg {n : Nat} {M : List Nat → Prop} {P G : Nat → Nat → Prop} (hG : ∀ a b, G a b → Cg n M P a b) {a b : Nat} (h : EqG n G a b) : Cg n M P a b := by
  induction h with
  | pr h1 => exact hG _ _ h1
  | rf h1 => exact .rf h1
  | sm _ ih => exact .sm ih
  | tr _ _ ih1 ih2 => exact .tr ih1 ih2
/-- c tells the classes of E by their least things -/
structure Can (n : Nat) (E : Nat → Nat → Prop) (c : List Nat) : Prop where
  len : c.length = n
  le : ∀ x, x < n → nth c x ≤ x
  mem : ∀ x, x < n → E x (nth c x)
  least : ∀ x y, x < n → y < n → E x y → nth c x = nth c y
theorem nth_ext {a b : List Nat} (hl : a.length = b.length) (h : ∀ x, x < a.length → nth a x = nth b x) : a = b := by
  refine List.ext_getElem hl fun i h1 h2 => ?_
  have := h i h1
  unfold nth at this
  rw [List.getD_eq_getElem?_getD, List.getD_eq_getElem?_getD, List.getElem?_eq_getElem h1, List.getElem?_eq_getElem h2] at this
  exact this
theorem Can.idem {n : Nat} {E : Nat → Nat → Prop} {c : List Nat} (h : Can n E c) {x : Nat} (hx : x < n) : nth c (nth c x) = nth c x := by
  have h1 := h.le x hx
  exact (h.least x (nth c x) hx (by omega) (h.mem x hx)).symm
/-- there is but one such row -/
theorem Can.uniq {n : Nat} {E : Nat → Nat → Prop} (sm : ∀ a b, E a b → E b a) {c d : List Nat} (h : Can n E c) (k : Can n E d) : c = d := by
  refine nth_ext (by rw [h.len, k.len]) fun x hx => ?_
  rw [h.len] at hx
  have h1 := h.le x hx
  have k1 := k.le x hx
  have a1 := h.least x (nth d x) hx (by omega) (k.mem x hx)
  have a2 := k.least x (nth c x) hx (by omega) (h.mem x hx)
  have b1 := h.le (nth d x) (by omega)
  have b2 := k.le (nth c x) (by omega)
  omega
end Lw
namespace Lw
open DL
/-- one more pair -/
def Gp (G : Nat → Nat → Prop) (p q : Nat) : Nat → Nat → Prop := fun a b => G a b ∨ (a = p ∧ b = q)
theorem EqG.up {n : Nat} {G : Nat → Nat → Prop} {p q a b : Nat} (h : EqG n G a b) : EqG n (Gp G p q) a b := EqG.mono (fun _ _ h => .pr (.inl h)) h
theorem EqG.join {n : Nat} {G : Nat → Nat → Prop} {p q u v x y : Nat} (hp : EqG n G p u) (hq : EqG n G q v) (h : EqG n (Gp G p q) x y) :
    EqG n G x y ∨ (EqG n G x u ∧ EqG n G v y) ∨ (EqG n G x v ∧ EqG n G u y) := by
  induction h with
  | pr h1 =>
    rcases h1 with h1 | ⟨rfl, rfl⟩
    · exact .inl (.pr h1)
    · exact .inr (.inl ⟨hp, .sm hq⟩)
  | rf h1 => exact .inl (.rf h1)
  | sm _ ih =>
    rcases ih with h | ⟨h, k⟩ | ⟨h, k⟩
    · exact .inl (.sm h)
    · exact .inr (.inr ⟨.sm k, .sm h⟩)
    · exact .inr (.inl ⟨.sm k, .sm h⟩)
  | tr _ _ i1 i2 =>
    rcases i1 with h | ⟨h, k⟩ | ⟨h, k⟩ <;> rcases i2 with h' | ⟨h', k'⟩ | ⟨h', k'⟩
    · exact .inl (.tr h h')
    · exact .inr (.inl ⟨.tr h h', k'⟩)
    · exact .inr (.inr ⟨.tr h h', k'⟩)
    · exact .inr (.inl ⟨h, .tr k h'⟩)
    · exact .inr (.inl ⟨h, k'⟩)
    · exact .inl (.tr h k')
    · exact .inr (.inr ⟨h, .tr k h'⟩)
    · exact .inl (.tr h k')
    · exact .inr (.inr ⟨h, k'⟩)
theorem Can.join {n : Nat} {G : Nat → Nat → Prop} {c : List Nat} {p q lo hi : Nat} (h : Can n (EqG n G) c) (hp : p < n) (hq : q < n)
    (hlo : lo = min (nth c p) (nth c q)) (hhi : hi = max (nth c p) (nth c q)) (hne : lo ≠ hi) {d : List Nat} (hd : d.length = n)
    (hdx : ∀ x, x < n → nth d x = if nth c x = hi then lo else nth c x) : Can n (EqG n (Gp G p q)) d := by
  have ep := h.mem p hp
  have eq := h.mem q hq
  have lp := h.le p hp
  have lq := h.le q hq
  have ip := h.idem hp
  have iq := h.idem hq
  have hlt : lo < hi := by omega
  have hhn : hi < n := by omega
  have ilo : nth c lo = lo := by
    rcases Nat.le_total (nth c p) (nth c q) with t | t
    · rw [Nat.min_eq_left t] at hlo; rw [hlo]; exact ip
    · rw [Nat.min_eq_right t] at hlo; rw [hlo]; exact iq
  have ihi : nth c hi = hi := by
    rcases Nat.le_total (nth c p) (nth c q) with t | t
    · rw [Nat.max_eq_right t] at hhi; rw [hhi]; exact iq
    · rw [Nat.max_eq_left t] at hhi; rw [hhi]; exact ip
  have hj : EqG n (Gp G p q) hi lo := by
    have e0 : EqG n (Gp G p q) (nth c p) (nth c q) := .tr (.sm ep.up) (.tr (.pr (.inr ⟨rfl, rfl⟩)) eq.up)
    rcases Nat.le_total (nth c p) (nth c q) with t | t
    · rw [Nat.min_eq_left t] at hlo; rw [Nat.max_eq_right t] at hhi; subst hlo; subst hhi; exact .sm e0
    · rw [Nat.min_eq_right t] at hlo; rw [Nat.max_eq_left t] at hhi; subst hlo; subst hhi; exact e0
  have key : ∀ x y, x < n → y < n → EqG n G x (nth c p) → EqG n G (nth c q) y → (if nth c x = hi then lo else nth c x) = (if nth c y = hi then lo else nth c y) := by
    intro x y hx hy h1 h2
    have a1 := h.least x _ hx (by omega) h1
    have a2 := h.least _ y (by omega) hy h2
    rw [ip] at a1; rw [iq] at a2
    rw [a1, ← a2]
    rcases Nat.le_total (nth c p) (nth c q) with t | t
    · rw [Nat.min_eq_left t] at hlo; rw [Nat.max_eq_right t] at hhi
      rw [if_neg (by omega), if_pos (by omega)]; omega
    · rw [Nat.min_eq_right t] at hlo; rw [Nat.max_eq_left t] at hhi
      rw [if_pos (by omega), if_neg (by omega)]; omega
  refine ⟨hd, ?_, ?_, ?_⟩
  · intro x hx
    rw [hdx x hx]
    have := h.le x hx
    split <;> omega
  · intro x hx
    rw [hdx x hx]
    have := h.mem x hx
    split
    · rename_i t; rw [t] at this; exact .tr this.up hj
    · exact this.up
  · intro x y hx hy e
    rw [hdx x hx, hdx y hy]
    rcases EqG.join ep eq e with t | ⟨t1, t2⟩ | ⟨t1, t2⟩
    · rw [h.least x y hx hy t]
    · exact key x y hx hy t1 t2
    · exact (key y x hy hx (.sm t2) (.sm t1)).symm
/-- c tells the classes of E by a forest that points down -/
structure Uf (n : Nat) (E : Nat → Nat → Prop) (c : List Nat) : Prop where
  len : c.length = n
  le : ∀ x, x < n → nth c x ≤ x
  mem : ∀ x, x < n → E x (nth c x)
  sep : ∀ x y, x < n → y < n → nth c x = x → nth c y = y → E x y → x = y
theorem Uf.join {n : Nat} {G : Nat → Nat → Prop} {c : List Nat} {u v : Nat} (h : Uf n (EqG n G) c) (hu : u < n) (hv : v < n) (iu : nth c u = u) (iv : nth c v = v) (hne : u ≠ v)
    {d : List Nat} (hd : d.length = n) (hdx : ∀ x, x < n → nth d x = if x = max u v then min u v else nth c x) : Uf n (EqG n (Gp G u v)) d := by
  refine ⟨hd, ?_, ?_, ?_⟩
  · intro x hx
    rw [hdx x hx]
    have := h.le x hx
    split <;> omega
  · intro x hx
    rw [hdx x hx]
    split
    · rename_i t
      rcases Nat.le_total u v with k | k
      · rw [Nat.max_eq_right k] at t; rw [Nat.min_eq_left k]; subst t; exact .sm (.pr (.inr ⟨rfl, rfl⟩))
      · rw [Nat.max_eq_left k] at t; rw [Nat.min_eq_right k]; subst t; exact .pr (.inr ⟨rfl, rfl⟩)
    · exact (h.mem x hx).up
  · intro x y hx hy ix iy e
    rw [hdx x hx] at ix
    rw [hdx y hy] at iy
    have nx : x ≠ max u v := by
      intro t; rw [if_pos t] at ix; omega
    have ny : y ≠ max u v := by
      intro t; rw [if_pos t] at iy; omega
    rw [if_neg nx] at ix
    rw [if_neg ny] at iy
    rcases EqG.join (.rf hu) (.rf hv) e with t | ⟨t1, t2⟩ | ⟨t1, t2⟩
    · exact h.sep x y hx hy ix iy t
    · have a := h.sep x u hx hu ix iu t1
      have b := h.sep v y hv hy iv iy t2
      omega
    · have a := h.sep x v hx hv ix iv t1
      have b := h.sep u y hu hy iu iy t2
      omega
/-- the root -/
def rt (c : List Nat) : Nat → Nat → Nat
  | 0, x => x
  | k + 1, x => if nth c x = x then x else rt c k (nth c x)
theorem rt_ok {n : Nat} {G : Nat → Nat → Prop} {c : List Nat} (h : Uf n (EqG n G) c) : ∀ (k x : Nat), x < k → x < n → rt c k x ≤ x ∧ nth c (rt c k x) = rt c k x ∧ EqG n G x (rt c k x)
  | 0, _, h1, _ => by omega
  | k + 1, x, h1, h2 => by
    unfold rt
    have l := h.le x h2
    split
    · rename_i t; exact ⟨by omega, t, .rf h2⟩
    · rename_i t
      have ⟨a, b, c'⟩ := rt_ok h k (nth c x) (by omega) (by omega)
      exact ⟨by omega, b, .tr (h.mem x h2) c'⟩
theorem Uf.can {n : Nat} {G : Nat → Nat → Prop} {c : List Nat} (h : Uf n (EqG n G) c) {d : List Nat} (hd : d.length = n) (hdx : ∀ x, x < n → nth d x ≤ x ∧ nth c (nth d x) = nth d x ∧ EqG n G x (nth d x)) : Can n (EqG n G) d := by
  refine ⟨hd, fun x hx => (hdx x hx).1, fun x hx => (hdx x hx).2.2, fun x y hx hy e => ?_⟩
  have ⟨a1, a2, a3⟩ := hdx x hx
  have ⟨b1, b2, b3⟩ := hdx y hy
  exact h.sep _ _ (by omega) (by omega) a2 b2 (.tr (.sm a3) (.tr e b3))
end Lw

/-! while: a measure. -/
namespace DL
theorem wp_while {Q : Po} {tc : Env → R Bool} {body : Env → Out} (I : Nat → Env → Prop)
    (h : ∀ m e, I m e → (tc e = .ok false ∧ Q.nx e) ∨ (tc e = .ok true ∧ (body e).wp ⟨fun e' => ∃ m', m' < m ∧ I m' e', Q.rt, Q.exc, Q.nx, fun e' => ∃ m', m' < m ∧ I m' e'⟩)) :
    ∀ (N m : Nat) (e : Env), I m e → m < N → (whD tc body N e).wp Q
  | 0, m, e, _, hN => absurd hN (Nat.not_lt_zero _)
  | N + 1, m, e, hI, hN => by
    unfold whD
    rcases h m e hI with ⟨t, q⟩ | ⟨t, q⟩
    · rw [t]; exact q
    · rw [t]
      show Out.wp (match body e with
        | .nx dl2 => whD tc body N dl2
        | .ct dl2 => whD tc body N dl2
        | .bk dl2 => .nx dl2
        | o => o) Q
      generalize body e = o at q ⊢
      cases o with
      | nx e2 => obtain ⟨m', l, i⟩ := q; exact wp_while I h N m' e2 i (by omega)
      | ct e2 => obtain ⟨m', l, i⟩ := q; exact wp_while I h N m' e2 i (by omega)
      | bk e2 => exact q
      | rt d => exact q
      | exc c => exact q
      | bad => exact q.elim
end DL


namespace Lw
open PySem PySem.Spec PyProof.Rows L2 DL
/-- a forest that points down -/
def Dn (n : Nat) (c : List Nat) : Prop := c.length = n ∧ ∀ x, x < n → nth c x ≤ x
theorem least_eq {n : Nat} {c : List Nat} {d : D} (hn : n ≤ 1000) (h : Dn n c) (hd : ∀ x, x < n → dIx d (nD x) = .ok (nD (nth c x))) {x : Nat} (hx : x < n) : ∃ r, F_least_of [d, nD x] = .ok (nD r) ∧ r ≤ x ∧ nth c r = r ∧ ∀ (E : Nat → Nat → Prop), (∀ a b e, E a b → E b e → E a e) → (∀ a, a < n → E a a) → (∀ y, y < n → E y (nth c y)) → E x r := by
  suffices H : ∃ q, F_least_of [d, nD x] = q ∧ ∃ r, q = .ok (nD r) ∧ r ≤ x ∧ nth c r = r ∧ ∀ (E : Nat → Nat → Prop), (∀ a b e, E a b → E b e → E a e) → (∀ a, a < n → E a a) → (∀ y, y < n → E y (nth c y)) → E x r by
    obtain ⟨q, e, r, e2, h⟩ := H
    exact ⟨r, e.trans e2, h⟩
  refine ⟨_, rfl, ?_⟩
  refine fn_wpP (fun q => ∃ r, q = .ok (nD r) ∧ r ≤ x ∧ nth c r = r ∧ ∀ (E : Nat → Nat → Prop), (∀ a b e, E a b → E b e → E a e) → (∀ a, a < n → E a a) → (∀ y, y < n → E y (nth c y)) → E x r) rfl ?_
  simp only [den_least_of, xSet, xAsg, xPar, xExpr, xRet, xRetN, xIf, xFor, xRaise, eBin, eCall, eNil, eCons, eTup, eLst, eChain, tVal, tCmp', tChain', eIsN, eNotN, tIsN', tNotN', tNot', tAnd', tOr', eAnd, eOr, eNot, eNeg, eIf, pNone, pSome, eSl, eDef, eIm, eIsi, sSeq, sRg1, sRg2, tYes', gNil', gCons', unpk, wipeE, eD0, eD1, sKeys, eQix, List.map_cons, List.map_nil, gv_eq, sv_eq, mkT_0, mkT_1, mkT_2, mkT_3, mkT_4, mkT_5, mkL_0, mkL_1, mkL_2, mkL_3, mkL_4, mkL_5, cst_eq, okb, excb, nx_ok, nxA_ok, nxO_nx, nxO_rt, out_ok, out_exc, seqO_eq, next_nx, next_rt, next_bk, next_ct, next_exc, wp_nx, wp_rt, wp_exc, wp_bk, wp_ct, wp_next, dAdd_ii, dSub_ii, dCmp_ii, asB_bl, asI_int, asInt_int, dInt_int, dInt_bl, dLen_tup, dLen_lst, dLen_frz, dMin2_eq, dMax2_eq, dTuple_lst, dTuple_tup, dTuple_frz, dList_lst, dList_tup, dIter_tup, dIter_lst, dIter_frz, dIx_t0, dIx_t1, dIx_t2, dIx_l0, dIx_l1, dIx_l2, dSl_tup, dSl_lst, dEq_ii, dNe_ii, dEq_bb, dNe_bb, dAll_map, dAny_map, List.getElem?_cons_zero, List.getElem?_cons_succ, List.set_cons_zero, List.set_cons_succ, List.length_cons, List.length_nil, Nat.reduceAdd, Nat.zero_add, Nat.reduceSub, List.replicate_succ, List.replicate_zero, List.cons_append, List.nil_append, List.append_nil, reduceIte, if_true, if_false, Bool.false_eq_true, Bool.not_true, Bool.not_false]
  refine wp_while (fun m e => e = [some d, some (nD m)] ∧ m ≤ x ∧ ∀ (E : Nat → Nat → Prop), (∀ a b e, E a b → E b e → E a e) → (∀ a, a < n → E a a) → (∀ y, y < n → E y (nth c y)) → E x m) ?_ fuel x _ ⟨rfl, Nat.le_refl _, fun E _ h _ => h x hx⟩ (by unfold fuel; omega)
  rintro m e ⟨rfl, hm, hE⟩
  have l := h.2 m (by omega)
  have e1 := hd m (by omega)
  by_cases t : nth c m = m
  · refine .inl ⟨?_, ?_⟩
    · simp [xSet, xAsg, xPar, xExpr, xRet, xRetN, xIf, xFor, xRaise, eBin, eCall, eNil, eCons, eTup, eLst, eChain, tVal, tCmp', tChain', eIsN, eNotN, tIsN', tNotN', tNot', tAnd', tOr', eAnd, eOr, eNot, eNeg, eIf, pNone, pSome, eSl, eDef, eIm, eIsi, sSeq, sRg1, sRg2, tYes', gNil', gCons', unpk, wipeE, eD0, eD1, sKeys, eQix, List.map_cons, List.map_nil, e1, t]
    · simp [xSet, xAsg, xPar, xExpr, xRet, xRetN, xIf, xFor, xRaise, eBin, eCall, eNil, eCons, eTup, eLst, eChain, tVal, tCmp', tChain', eIsN, eNotN, tIsN', tNotN', tNot', tAnd', tOr', eAnd, eOr, eNot, eNeg, eIf, pNone, pSome, eSl, eDef, eIm, eIsi, sSeq, sRg1, sRg2, tYes', gNil', gCons', unpk, wipeE, eD0, eD1, sKeys, eQix, List.map_cons, List.map_nil]
      exact ⟨m, rfl, hm, t, hE⟩
  · refine .inr ⟨?_, ?_⟩
    · simp [xSet, xAsg, xPar, xExpr, xRet, xRetN, xIf, xFor, xRaise, eBin, eCall, eNil, eCons, eTup, eLst, eChain, tVal, tCmp', tChain', eIsN, eNotN, tIsN', tNotN', tNot', tAnd', tOr', eAnd, eOr, eNot, eNeg, eIf, pNone, pSome, eSl, eDef, eIm, eIsi, sSeq, sRg1, sRg2, tYes', gNil', gCons', unpk, wipeE, eD0, eD1, sKeys, eQix, List.map_cons, List.map_nil, e1, t]
      omega
    · simp [xSet, xAsg, xPar, xExpr, xRet, xRetN, xIf, xFor, xRaise, eBin, eCall, eNil, eCons, eTup, eLst, eChain, tVal, tCmp', tChain', eIsN, eNotN, tIsN', tNotN', tNot', tAnd', tOr', eAnd, eOr, eNot, eNeg, eIf, pNone, pSome, eSl, eDef, eIm, eIsi, sSeq, sRg1, sRg2, tYes', gNil', gCons', unpk, wipeE, eD0, eD1, sKeys, eQix, List.map_cons, List.map_nil, e1]
      exact ⟨nth c m, by omega, rfl, by omega, fun E a b k => a _ _ _ (hE E a b k) (k m (by omega))⟩
end Lw


namespace Lw
open PySem PySem.Spec PyProof.Rows L2 DL
theorem exD_lst {l z : List D} {e : DL.Env} {da : DL.Env → R D} (i : Nat) (h1 : e[i]? = some (some (.lst l))) (h2 : da e = .ok (.lst z)) (h3 : l.length + z.length ≤ sizeLine) : exD i da e = .nx (e.set i (some (.lst (l ++ z)))) := by
  unfold exD
  rw [h1, h2]
  simp only [out_ok]
  rw [if_pos h3]
abbrev Mv := Str × Nat × List Nat
abbrev mvT (m : Mv) : D := .tup [.str m.1, nD m.2.1, tN m.2.2]
def mvOf (n : Nat) (x : Opn) : List Mv := if x.2.1 = 1 then [(x.1, 0, [])] else if x.2.1 = 2 then (List.range 2).flatMap fun p => (List.range n).map fun o => (x.1, p, [o]) else []
theorem mvOf_len {n : Nat} (h : n ≤ 8) (x : Opn) : (mvOf n x).length ≤ 16 := by
  unfold mvOf
  split
  · simp
  · split
    · rw [show List.range 2 = [0, 1] from rfl]; simp; omega
    · simp
theorem mv_len {n : Nat} (h : n ≤ 8) : ∀ l : List Opn, (l.flatMap (mvOf n)).length ≤ 16 * l.length
  | [] => by simp
  | x :: l => by
    have := mv_len h l
    have := mvOf_len h x
    simp only [List.flatMap_cons, List.length_append, List.length_cons]
    omega
theorem moves_eq {n : Nat} {l : List Opn} (g : GA n l) : F_moves [algD n l] = .ok (.lst ((l.flatMap (mvOf n)).map mvT)) := by
  have h8 := g.n8
  have h4 := g.le
  refine fn_wp rfl ?_
  simp only [den_moves, xSet, xAsg, xPar, xExpr, xRet, xRetN, xIf, xFor, xRaise, eBin, eCall, eNil, eCons, eTup, eLst, eChain, tVal, tCmp', tChain', eIsN, eNotN, tIsN', tNotN', tNot', tAnd', tOr', eAnd, eOr, eNot, eNeg, eIf, pNone, pSome, eSl, eDef, eIm, eIsi, sSeq, sRg1, sRg2, tYes', gNil', gCons', unpk, wipeE, eD0, eD1, sKeys, eQix, List.map_cons, List.map_nil, gv_eq, sv_eq, mkT_0, mkT_1, mkT_2, mkT_3, mkT_4, mkT_5, mkL_0, mkL_1, mkL_2, mkL_3, mkL_4, mkL_5, cst_eq, okb, excb, nx_ok, nxA_ok, nxO_nx, nxO_rt, out_ok, out_exc, seqO_eq, next_nx, next_rt, next_bk, next_ct, next_exc, wp_nx, wp_rt, wp_exc, wp_bk, wp_ct, wp_next, dAdd_ii, dSub_ii, dCmp_ii, asB_bl, asI_int, asInt_int, dInt_int, dInt_bl, dLen_tup, dLen_lst, dLen_frz, dMin2_eq, dMax2_eq, dTuple_lst, dTuple_tup, dTuple_frz, dList_lst, dList_tup, dIter_tup, dIter_lst, dIter_frz, dIx_t0, dIx_t1, dIx_t2, dIx_l0, dIx_l1, dIx_l2, dSl_tup, dSl_lst, dEq_ii, dNe_ii, dEq_bb, dNe_bb, dAll_map, dAny_map, List.getElem?_cons_zero, List.getElem?_cons_succ, List.set_cons_zero, List.set_cons_succ, List.length_cons, List.length_nil, Nat.reduceAdd, Nat.zero_add, Nat.reduceSub, List.replicate_succ, List.replicate_zero, List.cons_append, List.nil_append, List.append_nil, reduceIte, if_true, if_false, Bool.false_eq_true, Bool.not_true, Bool.not_false, eFld, fld_ops]
  refine wp_for opT (fun p e => ∃ o u v w z, e = [some (algD n l), some (.lst ((p.flatMap (mvOf n)).map mvT)), o, u, v, w, z]) l ⟨_, _, _, _, _, rfl⟩ ?_ ?_
  · rintro p x q hp e ⟨o, u, v, w, z, rfl⟩
    have hpl : p.length ≤ 4 := by
      have := congrArg List.length hp
      simp at this
      omega
    have hb := mv_len h8 p
    have hx : x ∈ l := by rw [hp]; simp
    have hr := (g.op x hx).2.r2
    refine ⟨_, rfl, ?_⟩
    simp only [xSet, xAsg, xPar, xExpr, xRet, xRetN, xIf, xFor, xRaise, eBin, eCall, eNil, eCons, eTup, eLst, eChain, tVal, tCmp', tChain', eIsN, eNotN, tIsN', tNotN', tNot', tAnd', tOr', eAnd, eOr, eNot, eNeg, eIf, pNone, pSome, eSl, eDef, eIm, eIsi, sSeq, sRg1, sRg2, tYes', gNil', gCons', unpk, wipeE, eD0, eD1, sKeys, eQix, List.map_cons, List.map_nil, gv_eq, sv_eq, mkT_0, mkT_1, mkT_2, mkT_3, mkT_4, mkT_5, mkL_0, mkL_1, mkL_2, mkL_3, mkL_4, mkL_5, cst_eq, okb, excb, nx_ok, nxA_ok, nxO_nx, nxO_rt, out_ok, out_exc, seqO_eq, next_nx, next_rt, next_bk, next_ct, next_exc, wp_nx, wp_rt, wp_exc, wp_bk, wp_ct, wp_next, dAdd_ii, dSub_ii, dCmp_ii, asB_bl, asI_int, asInt_int, dInt_int, dInt_bl, dLen_tup, dLen_lst, dLen_frz, dMin2_eq, dMax2_eq, dTuple_lst, dTuple_tup, dTuple_frz, dList_lst, dList_tup, dIter_tup, dIter_lst, dIter_frz, dIx_t0, dIx_t1, dIx_t2, dIx_l0, dIx_l1, dIx_l2, dSl_tup, dSl_lst, dEq_ii, dNe_ii, dEq_bb, dNe_bb, dAll_map, dAny_map, List.getElem?_cons_zero, List.getElem?_cons_succ, List.set_cons_zero, List.set_cons_succ, List.length_cons, List.length_nil, Nat.reduceAdd, Nat.zero_add, Nat.reduceSub, List.replicate_succ, List.replicate_zero, List.cons_append, List.nil_append, List.append_nil, reduceIte, if_true, if_false, Bool.false_eq_true, Bool.not_true, Bool.not_false]
    by_cases h1 : x.2.1 = 1
    · simp only [h1]
      simp (disch := decide) [xSet, xAsg, xPar, xExpr, xRet, xRetN, xIf, xFor, xRaise, eBin, eCall, eNil, eCons, eTup, eLst, eChain, tVal, tCmp', tChain', eIsN, eNotN, tIsN', tNotN', tNot', tAnd', tOr', eAnd, eOr, eNot, eNeg, eIf, pNone, pSome, eSl, eDef, eIm, eIsi, sSeq, sRg1, sRg2, tYes', gNil', gCons', unpk, wipeE, eD0, eD1, sKeys, eQix, List.map_cons, List.map_nil]
      rw [apD_lst 1 rfl rfl (by simp only [List.length_map]; omega)]
      simp [mvOf, h1]
    · by_cases h2 : x.2.1 = 2
      · simp only [h2]
        simp [xSet, xAsg, xPar, xExpr, xRet, xRetN, xIf, xFor, xRaise, eBin, eCall, eNil, eCons, eTup, eLst, eChain, tVal, tCmp', tChain', eIsN, eNotN, tIsN', tNotN', tNot', tAnd', tOr', eAnd, eOr, eNot, eNeg, eIf, pNone, pSome, eSl, eDef, eIm, eIsi, sSeq, sRg1, sRg2, tYes', gNil', gCons', unpk, wipeE, eD0, eD1, sKeys, eQix, List.map_cons, List.map_nil]
        rw [exD_lst (z := ((List.range 2).flatMap fun p => (List.range n).map fun o => ((x.1, p, [o]) : Mv)).map mvT) 1 rfl ?_ ?_]
        · simp [mvOf, h2]
        · rw [eLc2_map nD (fun p => (List.range n).map fun o => mvT (x.1, p, [o])) (List.range 2) rfl ?_ ?_]
          · simp [List.map_flatMap]
            rfl
          · rw [show List.range 2 = [0, 1] from rfl]; simp; omega
          · intro r hr
            refine ⟨_, (List.range n).map nD, rfl, rfl, ?_, ?_⟩
            · simp [xSet, xAsg, xPar, xExpr, xRet, xRetN, xIf, xFor, xRaise, eBin, eCall, eNil, eCons, eTup, eLst, eChain, tVal, tCmp', tChain', eIsN, eNotN, tIsN', tNotN', tNot', tAnd', tOr', eAnd, eOr, eNot, eNeg, eIf, pNone, pSome, eSl, eDef, eIm, eIsi, sSeq, sRg1, sRg2, tYes', gNil', gCons', unpk, wipeE, eD0, eD1, sKeys, eQix, List.map_cons, List.map_nil, eFld, fld_n, mkRgI_nat (show n ≤ 1000000000 by omega)]
            · refine comp_map nD _ _ fun t ht => ⟨_, rfl, rfl, ?_⟩
              simp [xSet, xAsg, xPar, xExpr, xRet, xRetN, xIf, xFor, xRaise, eBin, eCall, eNil, eCons, eTup, eLst, eChain, tVal, tCmp', tChain', eIsN, eNotN, tIsN', tNotN', tNot', tAnd', tOr', eAnd, eOr, eNot, eNeg, eIf, pNone, pSome, eSl, eDef, eIm, eIsi, sSeq, sRg1, sRg2, tYes', gNil', gCons', unpk, wipeE, eD0, eD1, sKeys, eQix, List.map_cons, List.map_nil]
        · rw [show List.range 2 = [0, 1] from rfl]
          simp only [List.length_map, List.flatMap_cons, List.flatMap_nil, List.length_append, List.length_range, List.length_nil, sizeLine]; omega
      · have h0 : x.2.1 = 0 := by omega
        simp only [h0]
        simp [xSet, xAsg, xPar, xExpr, xRet, xRetN, xIf, xFor, xRaise, eBin, eCall, eNil, eCons, eTup, eLst, eChain, tVal, tCmp', tChain', eIsN, eNotN, tIsN', tNotN', tNot', tAnd', tOr', eAnd, eOr, eNot, eNeg, eIf, pNone, pSome, eSl, eDef, eIm, eIsi, sSeq, sRg1, sRg2, tYes', gNil', gCons', unpk, wipeE, eD0, eD1, sKeys, eQix, List.map_cons, List.map_nil, mvOf, h0]
  · rintro e ⟨o, u, v, w, z, rfl⟩
    simp [xSet, xAsg, xPar, xExpr, xRet, xRetN, xIf, xFor, xRaise, eBin, eCall, eNil, eCons, eTup, eLst, eChain, tVal, tCmp', tChain', eIsN, eNotN, tIsN', tNotN', tNot', tAnd', tOr', eAnd, eOr, eNot, eNeg, eIf, pNone, pSome, eSl, eDef, eIm, eIsi, sSeq, sRg1, sRg2, tYes', gNil', gCons', unpk, wipeE, eD0, eD1, sKeys, eQix, List.map_cons, List.map_nil]
end Lw


namespace Lw
open PySem PySem.Spec PyProof.Rows L2 DL
def mvArgs (m : Mv) (x : Nat) : List Nat := m.2.2.take m.2.1 ++ [x] ++ m.2.2.drop m.2.1
def mvRow (n : Nat) (o : Opn) (m : Mv) : List Nat := (List.range n).map fun x => val n o.2.2 (mvArgs m x)
theorem mvOf_ok {n : Nat} {o : Opn} {m : Mv} (h : m ∈ mvOf n o) : m.1 = o.1 ∧ m.2.1 ≤ 1 ∧ m.2.2.length + 1 = o.2.1 ∧ Th n m.2.2 ∧ m.2.1 ≤ m.2.2.length := by
  unfold mvOf at h
  split at h
  · rename_i t
    simp at h; subst h
    refine ⟨rfl, by simp, by simp [t], fun x hx => by simp at hx, by simp⟩
  · split at h
    · rename_i t
      simp at h
      obtain ⟨p, hp, o', ho, rfl⟩ := h
      refine ⟨rfl, by simp; omega, by simp [t], fun x hx => ?_, by simp; omega⟩
      simp at hx; omega
    · simp at h
theorem moved_eq {n : Nat} {l : List Opn} (g : GA n l) {o : Opn} (ho : o ∈ l) {m : Mv} (hm : m ∈ mvOf n o) {x : Nat} (hx : x < n) : F_moved [algD n l, mvT m, nD x] = .ok (nD (val n o.2.2 (mvArgs m x))) := by
  obtain ⟨a1, a2, a3, a4, a5⟩ := mvOf_ok hm
  have r2 := (g.op o ho).2.r2
  refine fn_wp rfl ?_
  have e := mvalue_eq g ho (row := mvArgs m x) (by unfold mvArgs; simp; omega) (fun y hy => by
    unfold mvArgs at hy
    simp at hy
    rcases hy with h | h | h
    · exact a4 y (List.mem_of_mem_take h)
    · omega
    · exact a4 y (List.mem_of_mem_drop h))
  have t1 : (m.2.2.take m.2.1).length ≤ 1 := by simp; omega
  have t2 : (m.2.2.drop m.2.1).length ≤ 1 := by simp; omega
  have e1 : dAdd (D.tup ((m.2.2.take m.2.1).map nD)) (D.tup [nD x]) = .ok (.tup ((m.2.2.take m.2.1 ++ [x]).map nD)) := by
    rw [dAdd_tt (by simp only [List.length_map, List.length_cons, List.length_nil]; omega)]; simp
  have e2 : dAdd (D.tup ((m.2.2.take m.2.1 ++ [x]).map nD)) (D.tup ((m.2.2.drop m.2.1).map nD)) = .ok (tN (mvArgs m x)) := by
    rw [dAdd_tt (by simp only [List.length_map, List.length_append, List.length_cons, List.length_nil]; omega)]; simp [mvArgs, tN]
  rw [← a1] at e
  have e : F_Algebra_value [D.obj (Str.ofString "Algebra") [nD n, opsT l], D.str m.1, tN (mvArgs m x)] = R.ok (nD (val n o.2.2 (mvArgs m x))) := e
  simp only [den_moved, xSet, xAsg, xPar, xExpr, xRet, xRetN, xIf, xFor, xRaise, eBin, eCall, eNil, eCons, eTup, eLst, eChain, tVal, tCmp', tChain', eIsN, eNotN, tIsN', tNotN', tNot', tAnd', tOr', eAnd, eOr, eNot, eNeg, eIf, pNone, pSome, eSl, eDef, eIm, eIsi, sSeq, sRg1, sRg2, tYes', gNil', gCons', unpk, wipeE, eD0, eD1, sKeys, eQix, List.map_cons, List.map_nil, gv_eq, sv_eq, mkT_0, mkT_1, mkT_2, mkT_3, mkT_4, mkT_5, mkL_0, mkL_1, mkL_2, mkL_3, mkL_4, mkL_5, cst_eq, okb, excb, nx_ok, nxA_ok, nxO_nx, nxO_rt, out_ok, out_exc, seqO_eq, next_nx, next_rt, next_bk, next_ct, next_exc, wp_nx, wp_rt, wp_exc, wp_bk, wp_ct, wp_next, dAdd_ii, dSub_ii, dCmp_ii, asB_bl, asI_int, asInt_int, dInt_int, dInt_bl, dLen_tup, dLen_lst, dLen_frz, dMin2_eq, dMax2_eq, dTuple_lst, dTuple_tup, dTuple_frz, dList_lst, dList_tup, dIter_tup, dIter_lst, dIter_frz, dIx_t0, dIx_t1, dIx_t2, dIx_l0, dIx_l1, dIx_l2, dSl_tup, dSl_lst, dEq_ii, dNe_ii, dEq_bb, dNe_bb, dAll_map, dAny_map, List.getElem?_cons_zero, List.getElem?_cons_succ, List.set_cons_zero, List.set_cons_succ, List.length_cons, List.length_nil, Nat.reduceAdd, Nat.zero_add, Nat.reduceSub, List.replicate_succ, List.replicate_zero, List.cons_append, List.nil_append, List.append_nil, reduceIte, if_true, if_false, Bool.false_eq_true, Bool.not_true, Bool.not_false, eMet, cutD_mapTo, cutD_from, ← List.map_drop, e1, e2, e]
theorem val_lt' {n : Nat} {l : List Opn} (g : GA n l) {o : Opn} (ho : o ∈ l) {m : Mv} (hm : m ∈ mvOf n o) {x : Nat} (hx : x < n) : val n o.2.2 (mvArgs m x) < n := by
  obtain ⟨a1, a2, a3, a4, a5⟩ := mvOf_ok hm
  have q := (g.op o ho).2
  exact (q.val_lt (l := mvArgs m x) (by unfold mvArgs; simp; omega) (fun y hy => by
    unfold mvArgs at hy
    simp at hy
    rcases hy with h | h | h
    · exact a4 y (List.mem_of_mem_take h)
    · omega
    · exact a4 y (List.mem_of_mem_drop h))).2
def prs (n : Nat) (l : List Opn) : List (Opn × Mv) := l.flatMap fun o => (mvOf n o).map fun m => (o, m)
theorem prs_map (n : Nat) (l : List Opn) : (prs n l).map (·.2) = l.flatMap (mvOf n) := by
  unfold prs
  rw [List.map_flatMap]
  congr 1
  funext o
  rw [List.map_map]
  exact List.map_id _
theorem prs_mem {n : Nat} {l : List Opn} {p : Opn × Mv} (h : p ∈ prs n l) : p.1 ∈ l ∧ p.2 ∈ mvOf n p.1 := by
  unfold prs at h
  rw [List.mem_flatMap] at h
  obtain ⟨a, ha, h⟩ := h
  rw [List.mem_map] at h
  obtain ⟨b, hb, rfl⟩ := h
  exact ⟨ha, hb⟩
theorem prs_len {n : Nat} {l : List Opn} (g : GA n l) : (prs n l).length ≤ 64 := by
  have h := mv_len g.n8 l
  rw [← prs_map, List.length_map] at h
  have := g.le
  omega
theorem move_rows_eq {n : Nat} {l : List Opn} (g : GA n l) : F_move_rows [algD n l] = .ok (.lst ((prs n l).map fun p => .tup [mvT p.2, tN (mvRow n p.1 p.2)])) := by
  have h8 := g.n8
  have hl := prs_len g
  refine fn_wp rfl ?_
  simp only [den_move_rows, xSet, xAsg, xPar, xExpr, xRet, xRetN, xIf, xFor, xRaise, eBin, eCall, eNil, eCons, eTup, eLst, eChain, tVal, tCmp', tChain', eIsN, eNotN, tIsN', tNotN', tNot', tAnd', tOr', eAnd, eOr, eNot, eNeg, eIf, pNone, pSome, eSl, eDef, eIm, eIsi, sSeq, sRg1, sRg2, tYes', gNil', gCons', unpk, wipeE, eD0, eD1, sKeys, eQix, List.map_cons, List.map_nil, gv_eq, sv_eq, mkT_0, mkT_1, mkT_2, mkT_3, mkT_4, mkT_5, mkL_0, mkL_1, mkL_2, mkL_3, mkL_4, mkL_5, cst_eq, okb, excb, nx_ok, nxA_ok, nxO_nx, nxO_rt, out_ok, out_exc, seqO_eq, next_nx, next_rt, next_bk, next_ct, next_exc, wp_nx, wp_rt, wp_exc, wp_bk, wp_ct, wp_next, dAdd_ii, dSub_ii, dCmp_ii, asB_bl, asI_int, asInt_int, dInt_int, dInt_bl, dLen_tup, dLen_lst, dLen_frz, dMin2_eq, dMax2_eq, dTuple_lst, dTuple_tup, dTuple_frz, dList_lst, dList_tup, dIter_tup, dIter_lst, dIter_frz, dIx_t0, dIx_t1, dIx_t2, dIx_l0, dIx_l1, dIx_l2, dSl_tup, dSl_lst, dEq_ii, dNe_ii, dEq_bb, dNe_bb, dAll_map, dAny_map, List.getElem?_cons_zero, List.getElem?_cons_succ, List.set_cons_zero, List.set_cons_succ, List.length_cons, List.length_nil, Nat.reduceAdd, Nat.zero_add, Nat.reduceSub, List.replicate_succ, List.replicate_zero, List.cons_append, List.nil_append, List.append_nil, reduceIte, if_true, if_false, Bool.false_eq_true, Bool.not_true, Bool.not_false, moves_eq g, ← prs_map, List.map_map]
  refine wp_for (fun p : Opn × Mv => mvT p.2) (fun p e => ∃ o u, e = [some (algD n l), some (.lst (p.map fun p => .tup [mvT p.2, tN (mvRow n p.1 p.2)])), o, u]) (prs n l) ⟨_, _, rfl⟩ ?_ ?_
  · rintro p x q hp e ⟨o, u, rfl⟩
    have hpl : p.length < 64 := by
      have := congrArg List.length hp
      simp at this
      omega
    have hx : x ∈ prs n l := by rw [hp]; simp
    obtain ⟨x1, x2⟩ := prs_mem hx
    refine ⟨_, rfl, ?_⟩
    simp only [xSet, xAsg, xPar, xExpr, xRet, xRetN, xIf, xFor, xRaise, eBin, eCall, eNil, eCons, eTup, eLst, eChain, tVal, tCmp', tChain', eIsN, eNotN, tIsN', tNotN', tNot', tAnd', tOr', eAnd, eOr, eNot, eNeg, eIf, pNone, pSome, eSl, eDef, eIm, eIsi, sSeq, sRg1, sRg2, tYes', gNil', gCons', unpk, wipeE, eD0, eD1, sKeys, eQix, List.map_cons, List.map_nil, gv_eq, sv_eq, mkT_0, mkT_1, mkT_2, mkT_3, mkT_4, mkT_5, mkL_0, mkL_1, mkL_2, mkL_3, mkL_4, mkL_5, cst_eq, okb, excb, nx_ok, nxA_ok, nxO_nx, nxO_rt, out_ok, out_exc, seqO_eq, next_nx, next_rt, next_bk, next_ct, next_exc, wp_nx, wp_rt, wp_exc, wp_bk, wp_ct, wp_next, dAdd_ii, dSub_ii, dCmp_ii, asB_bl, asI_int, asInt_int, dInt_int, dInt_bl, dLen_tup, dLen_lst, dLen_frz, dMin2_eq, dMax2_eq, dTuple_lst, dTuple_tup, dTuple_frz, dList_lst, dList_tup, dIter_tup, dIter_lst, dIter_frz, dIx_t0, dIx_t1, dIx_t2, dIx_l0, dIx_l1, dIx_l2, dSl_tup, dSl_lst, dEq_ii, dNe_ii, dEq_bb, dNe_bb, dAll_map, dAny_map, List.getElem?_cons_zero, List.getElem?_cons_succ, List.set_cons_zero, List.set_cons_succ, List.length_cons, List.length_nil, Nat.reduceAdd, Nat.zero_add, Nat.reduceSub, List.replicate_succ, List.replicate_zero, List.cons_append, List.nil_append, List.append_nil, reduceIte, if_true, if_false, Bool.false_eq_true, Bool.not_true, Bool.not_false]
    rw [apD_lst (d := .tup [mvT x.2, tN (mvRow n x.1 x.2)]) 1 rfl ?_ (by simp only [List.length_map]; omega)]
    · simp
    · simp only [xSet, xAsg, xPar, xExpr, xRet, xRetN, xIf, xFor, xRaise, eBin, eCall, eNil, eCons, eTup, eLst, eChain, tVal, tCmp', tChain', eIsN, eNotN, tIsN', tNotN', tNot', tAnd', tOr', eAnd, eOr, eNot, eNeg, eIf, pNone, pSome, eSl, eDef, eIm, eIsi, sSeq, sRg1, sRg2, tYes', gNil', gCons', unpk, wipeE, eD0, eD1, sKeys, eQix, List.map_cons, List.map_nil, gv_eq, sv_eq, mkT_0, mkT_1, mkT_2, mkT_3, mkT_4, mkT_5, mkL_0, mkL_1, mkL_2, mkL_3, mkL_4, mkL_5, cst_eq, okb, excb, nx_ok, nxA_ok, nxO_nx, nxO_rt, out_ok, out_exc, seqO_eq, next_nx, next_rt, next_bk, next_ct, next_exc, wp_nx, wp_rt, wp_exc, wp_bk, wp_ct, wp_next, dAdd_ii, dSub_ii, dCmp_ii, asB_bl, asI_int, asInt_int, dInt_int, dInt_bl, dLen_tup, dLen_lst, dLen_frz, dMin2_eq, dMax2_eq, dTuple_lst, dTuple_tup, dTuple_frz, dList_lst, dList_tup, dIter_tup, dIter_lst, dIter_frz, dIx_t0, dIx_t1, dIx_t2, dIx_l0, dIx_l1, dIx_l2, dSl_tup, dSl_lst, dEq_ii, dNe_ii, dEq_bb, dNe_bb, dAll_map, dAny_map, List.getElem?_cons_zero, List.getElem?_cons_succ, List.set_cons_zero, List.set_cons_succ, List.length_cons, List.length_nil, Nat.reduceAdd, Nat.zero_add, Nat.reduceSub, List.replicate_succ, List.replicate_zero, List.cons_append, List.nil_append, List.append_nil, reduceIte, if_true, if_false, Bool.false_eq_true, Bool.not_true, Bool.not_false]
      rw [eLc_map nD (fun t => nD (val n x.1.2.2 (mvArgs x.2 t))) (List.range n) ?_ (by simp; omega) ?_]
      · simp [xSet, xAsg, xPar, xExpr, xRet, xRetN, xIf, xFor, xRaise, eBin, eCall, eNil, eCons, eTup, eLst, eChain, tVal, tCmp', tChain', eIsN, eNotN, tIsN', tNotN', tNot', tAnd', tOr', eAnd, eOr, eNot, eNeg, eIf, pNone, pSome, eSl, eDef, eIm, eIsi, sSeq, sRg1, sRg2, tYes', gNil', gCons', unpk, wipeE, eD0, eD1, sKeys, eQix, List.map_cons, List.map_nil, mvRow, tN]
      · simp [xSet, xAsg, xPar, xExpr, xRet, xRetN, xIf, xFor, xRaise, eBin, eCall, eNil, eCons, eTup, eLst, eChain, tVal, tCmp', tChain', eIsN, eNotN, tIsN', tNotN', tNot', tAnd', tOr', eAnd, eOr, eNot, eNeg, eIf, pNone, pSome, eSl, eDef, eIm, eIsi, sSeq, sRg1, sRg2, tYes', gNil', gCons', unpk, wipeE, eD0, eD1, sKeys, eQix, List.map_cons, List.map_nil, eFld, fld_n, mkRgI_nat (show n ≤ 1000000000 by omega)]
      · intro t ht
        have ht : t < n := by simpa using ht
        refine ⟨_, rfl, rfl, ?_⟩
        simp only [xSet, xAsg, xPar, xExpr, xRet, xRetN, xIf, xFor, xRaise, eBin, eCall, eNil, eCons, eTup, eLst, eChain, tVal, tCmp', tChain', eIsN, eNotN, tIsN', tNotN', tNot', tAnd', tOr', eAnd, eOr, eNot, eNeg, eIf, pNone, pSome, eSl, eDef, eIm, eIsi, sSeq, sRg1, sRg2, tYes', gNil', gCons', unpk, wipeE, eD0, eD1, sKeys, eQix, List.map_cons, List.map_nil, gv_eq, sv_eq, mkT_0, mkT_1, mkT_2, mkT_3, mkT_4, mkT_5, mkL_0, mkL_1, mkL_2, mkL_3, mkL_4, mkL_5, cst_eq, okb, excb, nx_ok, nxA_ok, nxO_nx, nxO_rt, out_ok, out_exc, seqO_eq, next_nx, next_rt, next_bk, next_ct, next_exc, wp_nx, wp_rt, wp_exc, wp_bk, wp_ct, wp_next, dAdd_ii, dSub_ii, dCmp_ii, asB_bl, asI_int, asInt_int, dInt_int, dInt_bl, dLen_tup, dLen_lst, dLen_frz, dMin2_eq, dMax2_eq, dTuple_lst, dTuple_tup, dTuple_frz, dList_lst, dList_tup, dIter_tup, dIter_lst, dIter_frz, dIx_t0, dIx_t1, dIx_t2, dIx_l0, dIx_l1, dIx_l2, dSl_tup, dSl_lst, dEq_ii, dNe_ii, dEq_bb, dNe_bb, dAll_map, dAny_map, List.getElem?_cons_zero, List.getElem?_cons_succ, List.set_cons_zero, List.set_cons_succ, List.length_cons, List.length_nil, Nat.reduceAdd, Nat.zero_add, Nat.reduceSub, List.replicate_succ, List.replicate_zero, List.cons_append, List.nil_append, List.append_nil, reduceIte, if_true, if_false, Bool.false_eq_true, Bool.not_true, Bool.not_false, wipeE]
        simp [moved_eq g x1 x2 ht]
  · rintro e ⟨o, u, rfl⟩
    simp [xSet, xAsg, xPar, xExpr, xRet, xRetN, xIf, xFor, xRaise, eBin, eCall, eNil, eCons, eTup, eLst, eChain, tVal, tCmp', tChain', eIsN, eNotN, tIsN', tNotN', tNot', tAnd', tOr', eAnd, eOr, eNot, eNeg, eIf, pNone, pSome, eSl, eDef, eIm, eIsi, sSeq, sRg1, sRg2, tYes', gNil', gCons', unpk, wipeE, eD0, eD1, sKeys, eQix, List.map_cons, List.map_nil]
end Lw


namespace Lw
open PySem PySem.Spec PyProof.Rows L2 DL
theorem uf_least {n : Nat} {G : Nat → Nat → Prop} {c : List Nat} (hn : n ≤ 1000) (h : Uf n (EqG n G) c) {x : Nat} (hx : x < n) : ∃ r, F_least_of [lN c, nD x] = .ok (nD r) ∧ r ≤ x ∧ nth c r = r ∧ EqG n G x r := by
  obtain ⟨r, a, b, c', k⟩ := least_eq (d := lN c) hn ⟨h.len, h.le⟩ (fun y hy => dIx_lN (by rw [h.len]; exact hy)) hx
  exact ⟨r, a, b, c', k _ (fun _ _ _ => .tr) (fun _ => .rf) h.mem⟩
theorem normal_eq {n : Nat} {G : Nat → Nat → Prop} {c : List Nat} (hn : n ≤ 1000) (h : Uf n (EqG n G) c) : ∃ d, F_normal [lN c] = .ok (tN d) ∧ Can n (EqG n G) d := by
  have H : ∀ x, ∃ r, x < n → F_least_of [lN c, nD x] = .ok (nD r) ∧ r ≤ x ∧ nth c r = r ∧ EqG n G x r := fun x => by
    by_cases hx : x < n
    · obtain ⟨r, k⟩ := uf_least hn h hx; exact ⟨r, fun _ => k⟩
    · exact ⟨0, fun k => absurd k hx⟩
  obtain ⟨f, hf⟩ := Classical.axiomOfChoice H
  have hl := h.len
  refine ⟨(List.range n).map f, ?_, h.can (by simp) fun x hx => ?_⟩
  · refine fn_wp rfl ?_
    simp only [den_normal, xSet, xAsg, xPar, xExpr, xRet, xRetN, xIf, xFor, xRaise, eBin, eCall, eNil, eCons, eTup, eLst, eChain, tVal, tCmp', tChain', eIsN, eNotN, tIsN', tNotN', tNot', tAnd', tOr', eAnd, eOr, eNot, eNeg, eIf, pNone, pSome, eSl, eDef, eIm, eIsi, sSeq, sRg1, sRg2, tYes', gNil', gCons', unpk, wipeE, eD0, eD1, sKeys, eQix, List.map_cons, List.map_nil, gv_eq, sv_eq, mkT_0, mkT_1, mkT_2, mkT_3, mkT_4, mkT_5, mkL_0, mkL_1, mkL_2, mkL_3, mkL_4, mkL_5, cst_eq, okb, excb, nx_ok, nxA_ok, nxO_nx, nxO_rt, out_ok, out_exc, seqO_eq, next_nx, next_rt, next_bk, next_ct, next_exc, wp_nx, wp_rt, wp_exc, wp_bk, wp_ct, wp_next, dAdd_ii, dSub_ii, dCmp_ii, asB_bl, asI_int, asInt_int, dInt_int, dInt_bl, dLen_tup, dLen_lst, dLen_frz, dMin2_eq, dMax2_eq, dTuple_lst, dTuple_tup, dTuple_frz, dList_lst, dList_tup, dIter_tup, dIter_lst, dIter_frz, dIx_t0, dIx_t1, dIx_t2, dIx_l0, dIx_l1, dIx_l2, dSl_tup, dSl_lst, dEq_ii, dNe_ii, dEq_bb, dNe_bb, dAll_map, dAny_map, List.getElem?_cons_zero, List.getElem?_cons_succ, List.set_cons_zero, List.set_cons_succ, List.length_cons, List.length_nil, Nat.reduceAdd, Nat.zero_add, Nat.reduceSub, List.replicate_succ, List.replicate_zero, List.cons_append, List.nil_append, List.append_nil, reduceIte, if_true, if_false, Bool.false_eq_true, Bool.not_true, Bool.not_false]
    rw [eLc_map nD (fun t => nD (f t)) (List.range n) ?_ (by simp; omega) ?_]
    · simp [xSet, xAsg, xPar, xExpr, xRet, xRetN, xIf, xFor, xRaise, eBin, eCall, eNil, eCons, eTup, eLst, eChain, tVal, tCmp', tChain', eIsN, eNotN, tIsN', tNotN', tNot', tAnd', tOr', eAnd, eOr, eNot, eNeg, eIf, pNone, pSome, eSl, eDef, eIm, eIsi, sSeq, sRg1, sRg2, tYes', gNil', gCons', unpk, wipeE, eD0, eD1, sKeys, eQix, List.map_cons, List.map_nil, tN]
    · simp [xSet, xAsg, xPar, xExpr, xRet, xRetN, xIf, xFor, xRaise, eBin, eCall, eNil, eCons, eTup, eLst, eChain, tVal, tCmp', tChain', eIsN, eNotN, tIsN', tNotN', tNot', tAnd', tOr', eAnd, eOr, eNot, eNeg, eIf, pNone, pSome, eSl, eDef, eIm, eIsi, sSeq, sRg1, sRg2, tYes', gNil', gCons', unpk, wipeE, eD0, eD1, sKeys, eQix, List.map_cons, List.map_nil, lN, hl, mkRgI_nat (show n ≤ 1000000000 by omega)]
    · intro t ht
      have ht : t < n := by simpa using ht
      refine ⟨_, rfl, rfl, ?_⟩
      simp only [xSet, xAsg, xPar, xExpr, xRet, xRetN, xIf, xFor, xRaise, eBin, eCall, eNil, eCons, eTup, eLst, eChain, tVal, tCmp', tChain', eIsN, eNotN, tIsN', tNotN', tNot', tAnd', tOr', eAnd, eOr, eNot, eNeg, eIf, pNone, pSome, eSl, eDef, eIm, eIsi, sSeq, sRg1, sRg2, tYes', gNil', gCons', unpk, wipeE, eD0, eD1, sKeys, eQix, List.map_cons, List.map_nil, gv_eq, sv_eq, mkT_0, mkT_1, mkT_2, mkT_3, mkT_4, mkT_5, mkL_0, mkL_1, mkL_2, mkL_3, mkL_4, mkL_5, cst_eq, okb, excb, nx_ok, nxA_ok, nxO_nx, nxO_rt, out_ok, out_exc, seqO_eq, next_nx, next_rt, next_bk, next_ct, next_exc, wp_nx, wp_rt, wp_exc, wp_bk, wp_ct, wp_next, dAdd_ii, dSub_ii, dCmp_ii, asB_bl, asI_int, asInt_int, dInt_int, dInt_bl, dLen_tup, dLen_lst, dLen_frz, dMin2_eq, dMax2_eq, dTuple_lst, dTuple_tup, dTuple_frz, dList_lst, dList_tup, dIter_tup, dIter_lst, dIter_frz, dIx_t0, dIx_t1, dIx_t2, dIx_l0, dIx_l1, dIx_l2, dSl_tup, dSl_lst, dEq_ii, dNe_ii, dEq_bb, dNe_bb, dAll_map, dAny_map, List.getElem?_cons_zero, List.getElem?_cons_succ, List.set_cons_zero, List.set_cons_succ, List.length_cons, List.length_nil, Nat.reduceAdd, Nat.zero_add, Nat.reduceSub, List.replicate_succ, List.replicate_zero, List.cons_append, List.nil_append, List.append_nil, reduceIte, if_true, if_false, Bool.false_eq_true, Bool.not_true, Bool.not_false, wipeE]
      simp [(hf t ht).1]
  · have e : nth ((List.range n).map f) x = f x := by
      unfold nth
      rw [List.getD_eq_getElem?_getD, List.getElem?_map, List.getElem?_range hx]
      rfl
    rw [e]
    exact (hf x hx).2
theorem countP_lt {α : Type} {p q : α → Bool} : ∀ {l : List α}, (∀ x ∈ l, p x = true → q x = true) → (∃ x ∈ l, q x = true ∧ p x = false) → l.countP p < l.countP q
  | [], _, h => by obtain ⟨x, hx, _⟩ := h; simp at hx
  | a :: l, h, k => by
    have le : l.countP p ≤ l.countP q := List.countP_mono_left fun x hx => h x (List.mem_cons_of_mem _ hx)
    rw [List.countP_cons, List.countP_cons]
    obtain ⟨x, hx, q1, p1⟩ := k
    rcases List.mem_cons.mp hx with rfl | hx
    · simp [q1, p1]; omega
    · have lt := countP_lt (fun x hx => h x (List.mem_cons_of_mem _ hx)) ⟨x, hx, q1, p1⟩
      have := h a (by simp)
      cases hp : p a with
      | false => simp; omega
      | true => rw [hp] at this; simp [this rfl]; omega
/-- how many roots -/
def rc (n : Nat) (c : List Nat) : Nat := (List.range n).countP fun x => nth c x == x
theorem rc_le (n : Nat) (c : List Nat) : rc n c ≤ n := by
  have := List.countP_le_length (p := fun x => nth c x == x) (l := List.range n)
  simpa [rc] using this
theorem rc_lt {n lo hi : Nat} {c d : List Nat} (hh : hi < n) (ih : nth c hi = hi) (hne : lo ≠ hi) (hdx : ∀ x, x < n → nth d x = if x = hi then lo else nth c x) : rc n d < rc n c := by
  refine countP_lt (fun x hx h => ?_) ⟨hi, by simpa using hh, by simpa using ih, ?_⟩
  · have hx : x < n := by simpa using hx
    rw [hdx x hx] at h
    split at h
    · rename_i t; simp at h; omega
    · exact h
  · rw [hdx hi hh, if_pos rfl]; simpa using hne
def rowsL (n : Nat) (l : List Opn) : List (List Nat) := (prs n l).map fun p => mvRow n p.1 p.2
abbrev Mr (n : Nat) (l : List Opn) : List Nat → Prop := fun r => r ∈ rowsL n l
theorem rows_ok {n : Nat} {l : List Opn} (g : GA n l) {r : List Nat} (h : Mr n l r) : r.length = n ∧ ∀ x, x < n → nth r x < n := by
  unfold Mr rowsL at h
  rw [List.mem_map] at h
  obtain ⟨p, hp, rfl⟩ := h
  obtain ⟨x1, x2⟩ := prs_mem hp
  refine ⟨by simp [mvRow], fun x hx => ?_⟩
  have e : nth (mvRow n p.1 p.2) x = val n p.1.2.2 (mvArgs p.2 x) := by
    unfold nth mvRow
    rw [List.getD_eq_getElem?_getD, List.getElem?_map, List.getElem?_range hx]
    rfl
  rw [e]
  exact val_lt' g x1 x2 hx
end Lw


namespace Lw
open PySem PySem.Spec PyProof.Rows L2 DL
theorem nth_set {c : List Nat} {i v x : Nat} (hx : x < c.length) : nth (c.set i v) x = if x = i then v else nth c x := by
  unfold nth
  rw [List.getD_eq_getElem?_getD, List.getD_eq_getElem?_getD, List.getElem?_set]
  by_cases h : i = x
  · subst h; simp [hx]
  · rw [if_neg h, if_neg (by omega)]
abbrev prT (p : Nat × Nat) : D := .tup [nD p.1, nD p.2]
abbrev Ps (W : List (Nat × Nat)) : Nat → Nat → Prop := fun a b => (a, b) ∈ W
/-- what the loop keeps -/
structure Jn (n : Nat) (R : List (List Nat)) (W : List (Nat × Nat)) (G : Nat → Nat → Prop) (w : List (Nat × Nat)) (k : Nat) : Prop where
  gc : ∀ a b, G a b → Cg n (· ∈ R) (Ps W) a b
  wc : ∀ p ∈ w, p.1 < n ∧ p.2 < n ∧ Cg n (· ∈ R) (Ps W) p.1 p.2
  dn : ∀ p ∈ w.take k, EqG n G p.1 p.2
  all : ∀ p ∈ W, p ∈ w
  im : ∀ r ∈ R, ∀ a b, G a b → EqG n G (nth r a) (nth r b) ∨ (nth r a, nth r b) ∈ w
theorem Jn.fin {n : Nat} {R : List (List Nat)} {W w : List (Nat × Nat)} {G : Nat → Nat → Prop} {k : Nat} (h : Jn n R W G w k) (hk : w.length ≤ k) (hr : ∀ r ∈ R, ∀ a, a < n → nth r a < n) {a b : Nat} : EqG n G a b ↔ Cg n (· ∈ R) (Ps W) a b := by
  have hd : ∀ p ∈ w, EqG n G p.1 p.2 := fun p hp => h.dn p (by rwa [List.take_of_length_le hk])
  refine ⟨le_cg h.gc, cg_le (fun a b t => hd _ (h.all _ t)) (fun r hr a b t => ?_) hr⟩
  rcases h.im r hr a b t with k | k
  · exact k
  · exact hd _ k
theorem Jn.skip {n : Nat} {R : List (List Nat)} {W w : List (Nat × Nat)} {G : Nat → Nat → Prop} {k : Nat} (h : Jn n R W G w k) {p : Nat × Nat} (hp : w[k]? = some p) (he : EqG n G p.1 p.2) : Jn n R W G w (k + 1) := by
  refine ⟨h.gc, h.wc, fun q hq => ?_, h.all, h.im⟩
  rw [List.take_succ, hp] at hq
  simp at hq
  rcases hq with t | t
  · exact h.dn q t
  · rw [t]; exact he
theorem Jn.join {n : Nat} {R : List (List Nat)} {W w : List (Nat × Nat)} {G : Nat → Nat → Prop} {k : Nat} (h : Jn n R W G w k) (hr : ∀ r ∈ R, ∀ a, a < n → nth r a < n) {p : Nat × Nat} (hp : w[k]? = some p) {u v : Nat} (hu : u < n) (hv : v < n) (eu : EqG n G p.1 u) (ev : EqG n G p.2 v) :
    Jn n R W (Gp G u v) (w ++ R.map fun r => (nth r u, nth r v)) (k + 1) := by
  have hkl : k < w.length := by
    rcases Nat.lt_or_ge k w.length with t | t
    · exact t
    · rw [List.getElem?_eq_none t] at hp; cases hp
  have hpw : p ∈ w := List.mem_of_getElem? hp
  have huv : Cg n (· ∈ R) (Ps W) u v := .tr (.sm (le_cg h.gc eu)) (.tr (h.wc p hpw).2.2 (le_cg h.gc ev))
  refine ⟨?_, ?_, ?_, ?_, ?_⟩
  · rintro a b (t | ⟨rfl, rfl⟩)
    · exact h.gc a b t
    · exact huv
  · intro q hq
    rcases List.mem_append.mp hq with t | t
    · exact h.wc q t
    · rw [List.mem_map] at t
      obtain ⟨r, hr1, rfl⟩ := t
      exact ⟨hr r hr1 u hu, hr r hr1 v hv, .mv hr1 huv⟩
  · intro q hq
    rw [List.take_append_of_le_length (by omega), List.take_succ, hp] at hq
    simp at hq
    rcases hq with t | t
    · exact (h.dn q t).up
    · rw [t]; exact .tr eu.up (.tr (.pr (.inr ⟨rfl, rfl⟩)) (.sm ev.up))
  · intro q hq
    exact List.mem_append_left _ (h.all q hq)
  · rintro r hr1 a b (t | ⟨rfl, rfl⟩)
    · rcases h.im r hr1 a b t with k | k
      · exact .inl k.up
      · exact .inr (List.mem_append_left _ k)
    · exact .inr (List.mem_append_right _ (List.mem_map.mpr ⟨r, hr1, rfl⟩))
end Lw


namespace Lw
open PySem PySem.Spec PyProof.Rows L2 DL
theorem stD_lN {c : List Nat} {v j : Nat} {e : DL.Env} {da db : DL.Env → R D} (i : Nat) (h1 : e[i]? = some (some (lN c))) (h2 : da e = .ok (nD v)) (h3 : db e = .ok (nD j)) (h : j < c.length) : stD i da db e = .nx (e.set i (some (lN (c.set j v)))) := by
  have hx : ixN (c.map nD).length ((j : Nat) : Int) = some j := by
    unfold ixN
    rw [List.length_map]
    rw [if_pos (by omega), if_pos (by omega)]
    simp
  unfold stD
  rw [h1, h2, h3]
  simp only [out_ok, hx, lN, List.map_set]
end Lw


namespace Lw
open PySem PySem.Spec PyProof.Rows L2 DL
theorem Can.congr {n : Nat} {E E' : Nat → Nat → Prop} {c : List Nat} (h : ∀ a b, E a b ↔ E' a b) (k : Can n E c) : Can n E' c := by
  have : E = E' := by funext a b; exact propext (h a b)
  rw [← this]; exact k
/-- no pair yet -/
theorem uf_start (n : Nat) : Uf n (EqG n fun _ _ => False) (List.range n) := by
  have e : ∀ x, x < n → nth (List.range n) x = x := fun x hx => by
    unfold nth
    rw [List.getD_eq_getElem?_getD, List.getElem?_range hx]
    rfl
  have key : ∀ a b, EqG n (fun _ _ => False) a b → a = b := by
    intro a b h
    induction h with
    | pr h => exact h.elim
    | rf _ => rfl
    | sm _ ih => exact ih.symm
    | tr _ _ i1 i2 => exact i1.trans i2
  exact ⟨by simp, fun x hx => by rw [e x hx]; exact Nat.le_refl _, fun x hx => by rw [e x hx]; exact .rf hx, fun x y _ _ _ _ h => key x y h⟩
theorem jn_start {n : Nat} {R : List (List Nat)} {W : List (Nat × Nat)} (hW : ∀ p ∈ W, p.1 < n ∧ p.2 < n) : Jn n R W (fun _ _ => False) W 0 :=
  ⟨fun _ _ h => h.elim, fun p hp => ⟨(hW p hp).1, (hW p hp).2, .pr hp⟩, fun p hp => by simp at hp, fun p hp => hp, fun _ _ _ _ h => h.elim⟩
theorem closed_eq {n : Nat} {l : List Opn} (g : GA n l) (W : List (Nat × Nat)) (hW : ∀ p ∈ W, p.1 < n ∧ p.2 < n) (hlen : W.length ≤ 100000) (d : D) (hd : dList [d] = .ok (.lst (W.map prT))) :
    ∃ c, F_closed_under [algD n l, d] = .ok (tN c) ∧ Can n (Cg n (Mr n l) (Ps W)) c := by
  have h8 := g.n8
  have hR := prs_len g
  have rok : ∀ r ∈ rowsL n l, ∀ a, a < n → nth r a < n := fun r hr => (rows_ok g hr).2
  have rlen : ∀ r ∈ rowsL n l, r.length = n := fun r hr => (rows_ok g hr).1
  refine fn_wpP (fun q => ∃ c, q = .ok (tN c) ∧ Can n (Cg n (Mr n l) (Ps W)) c) rfl ?_
  have e1 : eRg .lst (rg1 (eFld "Algebra" (["n", "operations"] : List Str) "n" (gv 0))) [some (algD n l), some d, none, none, none, none, none, none, none, none] = .ok (lN (List.range n)) := by
    simp only [xSet, xAsg, xPar, xExpr, xRet, xRetN, xIf, xFor, xRaise, eBin, eCall, eNil, eCons, eTup, eLst, eChain, tVal, tCmp', tChain', eIsN, eNotN, tIsN', tNotN', tNot', tAnd', tOr', eAnd, eOr, eNot, eNeg, eIf, pNone, pSome, eSl, eDef, eIm, eIsi, sSeq, sRg1, sRg2, tYes', gNil', gCons', unpk, wipeE, eD0, eD1, sKeys, eQix, List.map_cons, List.map_nil, gv_eq, sv_eq, mkT_0, mkT_1, mkT_2, mkT_3, mkT_4, mkT_5, mkL_0, mkL_1, mkL_2, mkL_3, mkL_4, mkL_5, cst_eq, okb, excb, nx_ok, nxA_ok, nxO_nx, nxO_rt, out_ok, out_exc, seqO_eq, next_nx, next_rt, next_bk, next_ct, next_exc, wp_nx, wp_rt, wp_exc, wp_bk, wp_ct, wp_next, dAdd_ii, dSub_ii, dCmp_ii, asB_bl, asI_int, asInt_int, dInt_int, dInt_bl, dLen_tup, dLen_lst, dLen_frz, dMin2_eq, dMax2_eq, dTuple_lst, dTuple_tup, dTuple_frz, dList_lst, dList_tup, dIter_tup, dIter_lst, dIter_frz, dIx_t0, dIx_t1, dIx_t2, dIx_l0, dIx_l1, dIx_l2, dSl_tup, dSl_lst, dEq_ii, dNe_ii, dEq_bb, dNe_bb, dAll_map, dAny_map, List.getElem?_cons_zero, List.getElem?_cons_succ, List.set_cons_zero, List.set_cons_succ, List.length_cons, List.length_nil, Nat.reduceAdd, Nat.zero_add, Nat.reduceSub, List.replicate_succ, List.replicate_zero, List.cons_append, List.nil_append, List.append_nil, reduceIte, if_true, if_false, Bool.false_eq_true, Bool.not_true, Bool.not_false, eFld, fld_n, eRg, rg1, mkRg]
    rw [if_pos (by unfold rgOk; simp only [Bool.and_eq_true, decide_eq_true_eq]; omega), rgD_rg]
    simp [rg, lN]
  have e2 : ∀ c : D, eLc [8, 9] (sSeq (eDef 1 F_move_rows (eCons (gv 0) eNil))) (unpk 2 (gCons' (sv 8) (gCons' (sv 9) gNil'))) tYes' (gv 9) [some (algD n l), some d, some c, none, none, none, none, none, none, none] = .ok (.lst ((rowsL n l).map tN)) := fun c => by
    rw [eLc_map (fun p : Opn × Mv => D.tup [mvT p.2, tN (mvRow n p.1 p.2)]) (fun p => tN (mvRow n p.1 p.2)) (prs n l) (by simp only [xSet, xAsg, xPar, xExpr, xRet, xRetN, xIf, xFor, xRaise, eBin, eCall, eNil, eCons, eTup, eLst, eChain, tVal, tCmp', tChain', eIsN, eNotN, tIsN', tNotN', tNot', tAnd', tOr', eAnd, eOr, eNot, eNeg, eIf, pNone, pSome, eSl, eDef, eIm, eIsi, sSeq, sRg1, sRg2, tYes', gNil', gCons', unpk, wipeE, eD0, eD1, sKeys, eQix, List.map_cons, List.map_nil, gv_eq, sv_eq, mkT_0, mkT_1, mkT_2, mkT_3, mkT_4, mkT_5, mkL_0, mkL_1, mkL_2, mkL_3, mkL_4, mkL_5, cst_eq, okb, excb, nx_ok, nxA_ok, nxO_nx, nxO_rt, out_ok, out_exc, seqO_eq, next_nx, next_rt, next_bk, next_ct, next_exc, wp_nx, wp_rt, wp_exc, wp_bk, wp_ct, wp_next, dAdd_ii, dSub_ii, dCmp_ii, asB_bl, asI_int, asInt_int, dInt_int, dInt_bl, dLen_tup, dLen_lst, dLen_frz, dMin2_eq, dMax2_eq, dTuple_lst, dTuple_tup, dTuple_frz, dList_lst, dList_tup, dIter_tup, dIter_lst, dIter_frz, dIx_t0, dIx_t1, dIx_t2, dIx_l0, dIx_l1, dIx_l2, dSl_tup, dSl_lst, dEq_ii, dNe_ii, dEq_bb, dNe_bb, dAll_map, dAny_map, List.getElem?_cons_zero, List.getElem?_cons_succ, List.set_cons_zero, List.set_cons_succ, List.length_cons, List.length_nil, Nat.reduceAdd, Nat.zero_add, Nat.reduceSub, List.replicate_succ, List.replicate_zero, List.cons_append, List.nil_append, List.append_nil, reduceIte, if_true, if_false, Bool.false_eq_true, Bool.not_true, Bool.not_false, move_rows_eq g]) (by omega) (fun x hx => ⟨_, rfl, rfl, rfl⟩)]
    simp [rowsL]
  simp only [den_closed_under, xSet, xAsg, xPar, xExpr, xRet, xRetN, xIf, xFor, xRaise, eBin, eCall, eNil, eCons, eTup, eLst, eChain, tVal, tCmp', tChain', eIsN, eNotN, tIsN', tNotN', tNot', tAnd', tOr', eAnd, eOr, eNot, eNeg, eIf, pNone, pSome, eSl, eDef, eIm, eIsi, sSeq, sRg1, sRg2, tYes', gNil', gCons', unpk, wipeE, eD0, eD1, sKeys, eQix, List.map_cons, List.map_nil, gv_eq, sv_eq, mkT_0, mkT_1, mkT_2, mkT_3, mkT_4, mkT_5, mkL_0, mkL_1, mkL_2, mkL_3, mkL_4, mkL_5, cst_eq, okb, excb, nx_ok, nxA_ok, nxO_nx, nxO_rt, out_ok, out_exc, seqO_eq, next_nx, next_rt, next_bk, next_ct, next_exc, wp_nx, wp_rt, wp_exc, wp_bk, wp_ct, wp_next, dAdd_ii, dSub_ii, dCmp_ii, asB_bl, asI_int, asInt_int, dInt_int, dInt_bl, dLen_tup, dLen_lst, dLen_frz, dMin2_eq, dMax2_eq, dTuple_lst, dTuple_tup, dTuple_frz, dList_lst, dList_tup, dIter_tup, dIter_lst, dIter_frz, dIx_t0, dIx_t1, dIx_t2, dIx_l0, dIx_l1, dIx_l2, dSl_tup, dSl_lst, dEq_ii, dNe_ii, dEq_bb, dNe_bb, dAll_map, dAny_map, List.getElem?_cons_zero, List.getElem?_cons_succ, List.set_cons_zero, List.set_cons_succ, List.length_cons, List.length_nil, Nat.reduceAdd, Nat.zero_add, Nat.reduceSub, List.replicate_succ, List.replicate_zero, List.cons_append, List.nil_append, List.append_nil, reduceIte, if_true, if_false, Bool.false_eq_true, Bool.not_true, Bool.not_false, e1, e2, hd]
  refine wp_while (fun m e => ∃ (c : List Nat) (w : List (Nat × Nat)) (k : Nat) (G : Nat → Nat → Prop) (o6 o7 : Option D), e = [some (algD n l), some d, some (lN c), some (.lst ((rowsL n l).map tN)), some (.lst (w.map prT)), some (nD k), o6, o7, none, none] ∧
    Uf n (EqG n G) c ∧ Jn n (rowsL n l) W G w k ∧ k ≤ w.length ∧ w.length + 64 * rc n c ≤ W.length + 512 ∧ m = (w.length - k) + 65 * rc n c) ?_ fuel (W.length + 65 * rc n (List.range n)) _ ⟨List.range n, W, 0, fun _ _ => False, none, none, rfl, uf_start n, jn_start hW, Nat.zero_le _, ?_, rfl⟩ ?_
  · rintro m e ⟨c, w, k, G, o6, o7, rfl, hU, hJ, hk, hb, rfl⟩
    by_cases hlt : k < w.length
    · refine .inr ⟨?_, ?_⟩
      · simp only [xSet, xAsg, xPar, xExpr, xRet, xRetN, xIf, xFor, xRaise, eBin, eCall, eNil, eCons, eTup, eLst, eChain, tVal, tCmp', tChain', eIsN, eNotN, tIsN', tNotN', tNot', tAnd', tOr', eAnd, eOr, eNot, eNeg, eIf, pNone, pSome, eSl, eDef, eIm, eIsi, sSeq, sRg1, sRg2, tYes', gNil', gCons', unpk, wipeE, eD0, eD1, sKeys, eQix, List.map_cons, List.map_nil, gv_eq, sv_eq, mkT_0, mkT_1, mkT_2, mkT_3, mkT_4, mkT_5, mkL_0, mkL_1, mkL_2, mkL_3, mkL_4, mkL_5, cst_eq, okb, excb, nx_ok, nxA_ok, nxO_nx, nxO_rt, out_ok, out_exc, seqO_eq, next_nx, next_rt, next_bk, next_ct, next_exc, wp_nx, wp_rt, wp_exc, wp_bk, wp_ct, wp_next, dAdd_ii, dSub_ii, dCmp_ii, asB_bl, asI_int, asInt_int, dInt_int, dInt_bl, dLen_tup, dLen_lst, dLen_frz, dMin2_eq, dMax2_eq, dTuple_lst, dTuple_tup, dTuple_frz, dList_lst, dList_tup, dIter_tup, dIter_lst, dIter_frz, dIx_t0, dIx_t1, dIx_t2, dIx_l0, dIx_l1, dIx_l2, dSl_tup, dSl_lst, dEq_ii, dNe_ii, dEq_bb, dNe_bb, dAll_map, dAny_map, List.getElem?_cons_zero, List.getElem?_cons_succ, List.set_cons_zero, List.set_cons_succ, List.length_cons, List.length_nil, Nat.reduceAdd, Nat.zero_add, Nat.reduceSub, List.replicate_succ, List.replicate_zero, List.cons_append, List.nil_append, List.append_nil, reduceIte, if_true, if_false, Bool.false_eq_true, Bool.not_true, Bool.not_false, List.length_map]
        simp [hlt]
      · have hp : w[k]? = some w[k] := List.getElem?_eq_getElem hlt
        obtain ⟨p1, p2, p3⟩ := hJ.wc w[k] (List.getElem_mem hlt)
        obtain ⟨u, f1, f2, f3, f4⟩ := uf_least (show n ≤ 1000 by omega) hU p1
        obtain ⟨v, g1, g2, g3, g4⟩ := uf_least (show n ≤ 1000 by omega) hU p2
        have ix : dIx (.lst (w.map prT)) (nD k) = .ok (prT w[k]) := by
          rw [dIx_lm (f := prT) (0, 0) hlt, getD_eq hlt]
        have q1 : gi (R.ok (nD u)) = .ok (nD u) := rfl
        have q2 : gi (R.ok (nD v)) = .ok (nD v) := rfl
        have qa : dAddI (nD k) (.int 1) = .ok (nD (k + 1)) := by
          show R.ok (D.int ((k : Int) + 1)) = _
          simp
        have lt1 : u < n := by omega
        have lt2 : v < n := by omega
        simp only [xSet, xAsg, xPar, xExpr, xRet, xRetN, xIf, xFor, xRaise, eBin, eCall, eNil, eCons, eTup, eLst, eChain, tVal, tCmp', tChain', eIsN, eNotN, tIsN', tNotN', tNot', tAnd', tOr', eAnd, eOr, eNot, eNeg, eIf, pNone, pSome, eSl, eDef, eIm, eIsi, sSeq, sRg1, sRg2, tYes', gNil', gCons', unpk, wipeE, eD0, eD1, sKeys, eQix, List.map_cons, List.map_nil, gv_eq, sv_eq, mkT_0, mkT_1, mkT_2, mkT_3, mkT_4, mkT_5, mkL_0, mkL_1, mkL_2, mkL_3, mkL_4, mkL_5, cst_eq, okb, excb, nx_ok, nxA_ok, nxO_nx, nxO_rt, out_ok, out_exc, seqO_eq, next_nx, next_rt, next_bk, next_ct, next_exc, wp_nx, wp_rt, wp_exc, wp_bk, wp_ct, wp_next, dAdd_ii, dSub_ii, dCmp_ii, asB_bl, asI_int, asInt_int, dInt_int, dInt_bl, dLen_tup, dLen_lst, dLen_frz, dMin2_eq, dMax2_eq, dTuple_lst, dTuple_tup, dTuple_frz, dList_lst, dList_tup, dIter_tup, dIter_lst, dIter_frz, dIx_t0, dIx_t1, dIx_t2, dIx_l0, dIx_l1, dIx_l2, dSl_tup, dSl_lst, dEq_ii, dNe_ii, dEq_bb, dNe_bb, dAll_map, dAny_map, List.getElem?_cons_zero, List.getElem?_cons_succ, List.set_cons_zero, List.set_cons_succ, List.length_cons, List.length_nil, Nat.reduceAdd, Nat.zero_add, Nat.reduceSub, List.replicate_succ, List.replicate_zero, List.cons_append, List.nil_append, List.append_nil, reduceIte, if_true, if_false, Bool.false_eq_true, Bool.not_true, Bool.not_false, ix, f1, g1, q1, q2, agD, qa]
        by_cases huv : u = v
        · have : ¬ (u : Int) ≠ (v : Int) := by omega
          simp only [decide_eq_false this, xSet, xAsg, xPar, xExpr, xRet, xRetN, xIf, xFor, xRaise, eBin, eCall, eNil, eCons, eTup, eLst, eChain, tVal, tCmp', tChain', eIsN, eNotN, tIsN', tNotN', tNot', tAnd', tOr', eAnd, eOr, eNot, eNeg, eIf, pNone, pSome, eSl, eDef, eIm, eIsi, sSeq, sRg1, sRg2, tYes', gNil', gCons', unpk, wipeE, eD0, eD1, sKeys, eQix, List.map_cons, List.map_nil, gv_eq, sv_eq, mkT_0, mkT_1, mkT_2, mkT_3, mkT_4, mkT_5, mkL_0, mkL_1, mkL_2, mkL_3, mkL_4, mkL_5, cst_eq, okb, excb, nx_ok, nxA_ok, nxO_nx, nxO_rt, out_ok, out_exc, seqO_eq, next_nx, next_rt, next_bk, next_ct, next_exc, wp_nx, wp_rt, wp_exc, wp_bk, wp_ct, wp_next, dAdd_ii, dSub_ii, dCmp_ii, asB_bl, asI_int, asInt_int, dInt_int, dInt_bl, dLen_tup, dLen_lst, dLen_frz, dMin2_eq, dMax2_eq, dTuple_lst, dTuple_tup, dTuple_frz, dList_lst, dList_tup, dIter_tup, dIter_lst, dIter_frz, dIx_t0, dIx_t1, dIx_t2, dIx_l0, dIx_l1, dIx_l2, dSl_tup, dSl_lst, dEq_ii, dNe_ii, dEq_bb, dNe_bb, dAll_map, dAny_map, List.getElem?_cons_zero, List.getElem?_cons_succ, List.set_cons_zero, List.set_cons_succ, List.length_cons, List.length_nil, Nat.reduceAdd, Nat.zero_add, Nat.reduceSub, List.replicate_succ, List.replicate_zero, List.cons_append, List.nil_append, List.append_nil, reduceIte, if_true, if_false, Bool.false_eq_true, Bool.not_true, Bool.not_false]
          refine ⟨_, ?_, c, w, k + 1, G, _, _, rfl, hU, hJ.skip hp (.tr f4 (huv ▸ .sm g4)), hlt, hb, rfl⟩
          omega
        · have : (u : Int) ≠ (v : Int) := by omega
          simp only [decide_eq_true this, xSet, xAsg, xPar, xExpr, xRet, xRetN, xIf, xFor, xRaise, eBin, eCall, eNil, eCons, eTup, eLst, eChain, tVal, tCmp', tChain', eIsN, eNotN, tIsN', tNotN', tNot', tAnd', tOr', eAnd, eOr, eNot, eNeg, eIf, pNone, pSome, eSl, eDef, eIm, eIsi, sSeq, sRg1, sRg2, tYes', gNil', gCons', unpk, wipeE, eD0, eD1, sKeys, eQix, List.map_cons, List.map_nil, gv_eq, sv_eq, mkT_0, mkT_1, mkT_2, mkT_3, mkT_4, mkT_5, mkL_0, mkL_1, mkL_2, mkL_3, mkL_4, mkL_5, cst_eq, okb, excb, nx_ok, nxA_ok, nxO_nx, nxO_rt, out_ok, out_exc, seqO_eq, next_nx, next_rt, next_bk, next_ct, next_exc, wp_nx, wp_rt, wp_exc, wp_bk, wp_ct, wp_next, dAdd_ii, dSub_ii, dCmp_ii, asB_bl, asI_int, asInt_int, dInt_int, dInt_bl, dLen_tup, dLen_lst, dLen_frz, dMin2_eq, dMax2_eq, dTuple_lst, dTuple_tup, dTuple_frz, dList_lst, dList_tup, dIter_tup, dIter_lst, dIter_frz, dIx_t0, dIx_t1, dIx_t2, dIx_l0, dIx_l1, dIx_l2, dSl_tup, dSl_lst, dEq_ii, dNe_ii, dEq_bb, dNe_bb, dAll_map, dAny_map, List.getElem?_cons_zero, List.getElem?_cons_succ, List.set_cons_zero, List.set_cons_succ, List.length_cons, List.length_nil, Nat.reduceAdd, Nat.zero_add, Nat.reduceSub, List.replicate_succ, List.replicate_zero, List.cons_append, List.nil_append, List.append_nil, reduceIte, if_true, if_false, Bool.false_eq_true, Bool.not_true, Bool.not_false]
          have emin : (min (u : Int) v) = ((min u v : Nat) : Int) := by omega
          have emax : (max (u : Int) v) = ((max u v : Nat) : Int) := by omega
          have hxl : max u v < c.length := by rw [hU.len]; omega
          rw [stD_lN (c := c) (v := min u v) (j := max u v) 2 rfl (by simp only [xSet, xAsg, xPar, xExpr, xRet, xRetN, xIf, xFor, xRaise, eBin, eCall, eNil, eCons, eTup, eLst, eChain, tVal, tCmp', tChain', eIsN, eNotN, tIsN', tNotN', tNot', tAnd', tOr', eAnd, eOr, eNot, eNeg, eIf, pNone, pSome, eSl, eDef, eIm, eIsi, sSeq, sRg1, sRg2, tYes', gNil', gCons', unpk, wipeE, eD0, eD1, sKeys, eQix, List.map_cons, List.map_nil, gv_eq, sv_eq, mkT_0, mkT_1, mkT_2, mkT_3, mkT_4, mkT_5, mkL_0, mkL_1, mkL_2, mkL_3, mkL_4, mkL_5, cst_eq, okb, excb, nx_ok, nxA_ok, nxO_nx, nxO_rt, out_ok, out_exc, seqO_eq, next_nx, next_rt, next_bk, next_ct, next_exc, wp_nx, wp_rt, wp_exc, wp_bk, wp_ct, wp_next, dAdd_ii, dSub_ii, dCmp_ii, asB_bl, asI_int, asInt_int, dInt_int, dInt_bl, dLen_tup, dLen_lst, dLen_frz, dMin2_eq, dMax2_eq, dTuple_lst, dTuple_tup, dTuple_frz, dList_lst, dList_tup, dIter_tup, dIter_lst, dIter_frz, dIx_t0, dIx_t1, dIx_t2, dIx_l0, dIx_l1, dIx_l2, dSl_tup, dSl_lst, dEq_ii, dNe_ii, dEq_bb, dNe_bb, dAll_map, dAny_map, List.getElem?_cons_zero, List.getElem?_cons_succ, List.set_cons_zero, List.set_cons_succ, List.length_cons, List.length_nil, Nat.reduceAdd, Nat.zero_add, Nat.reduceSub, List.replicate_succ, List.replicate_zero, List.cons_append, List.nil_append, List.append_nil, reduceIte, if_true, if_false, Bool.false_eq_true, Bool.not_true, Bool.not_false, emin]) (by simp only [xSet, xAsg, xPar, xExpr, xRet, xRetN, xIf, xFor, xRaise, eBin, eCall, eNil, eCons, eTup, eLst, eChain, tVal, tCmp', tChain', eIsN, eNotN, tIsN', tNotN', tNot', tAnd', tOr', eAnd, eOr, eNot, eNeg, eIf, pNone, pSome, eSl, eDef, eIm, eIsi, sSeq, sRg1, sRg2, tYes', gNil', gCons', unpk, wipeE, eD0, eD1, sKeys, eQix, List.map_cons, List.map_nil, gv_eq, sv_eq, mkT_0, mkT_1, mkT_2, mkT_3, mkT_4, mkT_5, mkL_0, mkL_1, mkL_2, mkL_3, mkL_4, mkL_5, cst_eq, okb, excb, nx_ok, nxA_ok, nxO_nx, nxO_rt, out_ok, out_exc, seqO_eq, next_nx, next_rt, next_bk, next_ct, next_exc, wp_nx, wp_rt, wp_exc, wp_bk, wp_ct, wp_next, dAdd_ii, dSub_ii, dCmp_ii, asB_bl, asI_int, asInt_int, dInt_int, dInt_bl, dLen_tup, dLen_lst, dLen_frz, dMin2_eq, dMax2_eq, dTuple_lst, dTuple_tup, dTuple_frz, dList_lst, dList_tup, dIter_tup, dIter_lst, dIter_frz, dIx_t0, dIx_t1, dIx_t2, dIx_l0, dIx_l1, dIx_l2, dSl_tup, dSl_lst, dEq_ii, dNe_ii, dEq_bb, dNe_bb, dAll_map, dAny_map, List.getElem?_cons_zero, List.getElem?_cons_succ, List.set_cons_zero, List.set_cons_succ, List.length_cons, List.length_nil, Nat.reduceAdd, Nat.zero_add, Nat.reduceSub, List.replicate_succ, List.replicate_zero, List.cons_append, List.nil_append, List.append_nil, reduceIte, if_true, if_false, Bool.false_eq_true, Bool.not_true, Bool.not_false, emax]) hxl]
          simp only [xSet, xAsg, xPar, xExpr, xRet, xRetN, xIf, xFor, xRaise, eBin, eCall, eNil, eCons, eTup, eLst, eChain, tVal, tCmp', tChain', eIsN, eNotN, tIsN', tNotN', tNot', tAnd', tOr', eAnd, eOr, eNot, eNeg, eIf, pNone, pSome, eSl, eDef, eIm, eIsi, sSeq, sRg1, sRg2, tYes', gNil', gCons', unpk, wipeE, eD0, eD1, sKeys, eQix, List.map_cons, List.map_nil, gv_eq, sv_eq, mkT_0, mkT_1, mkT_2, mkT_3, mkT_4, mkT_5, mkL_0, mkL_1, mkL_2, mkL_3, mkL_4, mkL_5, cst_eq, okb, excb, nx_ok, nxA_ok, nxO_nx, nxO_rt, out_ok, out_exc, seqO_eq, next_nx, next_rt, next_bk, next_ct, next_exc, wp_nx, wp_rt, wp_exc, wp_bk, wp_ct, wp_next, dAdd_ii, dSub_ii, dCmp_ii, asB_bl, asI_int, asInt_int, dInt_int, dInt_bl, dLen_tup, dLen_lst, dLen_frz, dMin2_eq, dMax2_eq, dTuple_lst, dTuple_tup, dTuple_frz, dList_lst, dList_tup, dIter_tup, dIter_lst, dIter_frz, dIx_t0, dIx_t1, dIx_t2, dIx_l0, dIx_l1, dIx_l2, dSl_tup, dSl_lst, dEq_ii, dNe_ii, dEq_bb, dNe_bb, dAll_map, dAny_map, List.getElem?_cons_zero, List.getElem?_cons_succ, List.set_cons_zero, List.set_cons_succ, List.length_cons, List.length_nil, Nat.reduceAdd, Nat.zero_add, Nat.reduceSub, List.replicate_succ, List.replicate_zero, List.cons_append, List.nil_append, List.append_nil, reduceIte, if_true, if_false, Bool.false_eq_true, Bool.not_true, Bool.not_false]
          have hrow : eLc [9] (sSeq (gv 3)) (sv 9) tYes' (eTup (eCons (eBin dIx (gv 9) (gv 6)) (eCons (eBin dIx (gv 9) (gv 7)) eNil))) [some (algD n l), some d, some (lN (c.set (max u v) (min u v))), some (.lst ((rowsL n l).map tN)), some (.lst (w.map prT)), some (nD (k + 1)), some (nD u), some (nD v), none, none] = .ok (.lst (((rowsL n l).map fun r => (nth r u, nth r v)).map prT)) := by
            rw [eLc_map tN (fun r => prT (nth r u, nth r v)) (rowsL n l) (by simp only [xSet, xAsg, xPar, xExpr, xRet, xRetN, xIf, xFor, xRaise, eBin, eCall, eNil, eCons, eTup, eLst, eChain, tVal, tCmp', tChain', eIsN, eNotN, tIsN', tNotN', tNot', tAnd', tOr', eAnd, eOr, eNot, eNeg, eIf, pNone, pSome, eSl, eDef, eIm, eIsi, sSeq, sRg1, sRg2, tYes', gNil', gCons', unpk, wipeE, eD0, eD1, sKeys, eQix, List.map_cons, List.map_nil, gv_eq, sv_eq, mkT_0, mkT_1, mkT_2, mkT_3, mkT_4, mkT_5, mkL_0, mkL_1, mkL_2, mkL_3, mkL_4, mkL_5, cst_eq, okb, excb, nx_ok, nxA_ok, nxO_nx, nxO_rt, out_ok, out_exc, seqO_eq, next_nx, next_rt, next_bk, next_ct, next_exc, wp_nx, wp_rt, wp_exc, wp_bk, wp_ct, wp_next, dAdd_ii, dSub_ii, dCmp_ii, asB_bl, asI_int, asInt_int, dInt_int, dInt_bl, dLen_tup, dLen_lst, dLen_frz, dMin2_eq, dMax2_eq, dTuple_lst, dTuple_tup, dTuple_frz, dList_lst, dList_tup, dIter_tup, dIter_lst, dIter_frz, dIx_t0, dIx_t1, dIx_t2, dIx_l0, dIx_l1, dIx_l2, dSl_tup, dSl_lst, dEq_ii, dNe_ii, dEq_bb, dNe_bb, dAll_map, dAny_map, List.getElem?_cons_zero, List.getElem?_cons_succ, List.set_cons_zero, List.set_cons_succ, List.length_cons, List.length_nil, Nat.reduceAdd, Nat.zero_add, Nat.reduceSub, List.replicate_succ, List.replicate_zero, List.cons_append, List.nil_append, List.append_nil, reduceIte, if_true, if_false, Bool.false_eq_true, Bool.not_true, Bool.not_false]) (by unfold rowsL; rw [List.length_map]; omega) (fun r hr => ⟨_, rfl, rfl, ?_⟩)]
            · simp
            · have := rlen r hr
              simp only [xSet, xAsg, xPar, xExpr, xRet, xRetN, xIf, xFor, xRaise, eBin, eCall, eNil, eCons, eTup, eLst, eChain, tVal, tCmp', tChain', eIsN, eNotN, tIsN', tNotN', tNot', tAnd', tOr', eAnd, eOr, eNot, eNeg, eIf, pNone, pSome, eSl, eDef, eIm, eIsi, sSeq, sRg1, sRg2, tYes', gNil', gCons', unpk, wipeE, eD0, eD1, sKeys, eQix, List.map_cons, List.map_nil, gv_eq, sv_eq, mkT_0, mkT_1, mkT_2, mkT_3, mkT_4, mkT_5, mkL_0, mkL_1, mkL_2, mkL_3, mkL_4, mkL_5, cst_eq, okb, excb, nx_ok, nxA_ok, nxO_nx, nxO_rt, out_ok, out_exc, seqO_eq, next_nx, next_rt, next_bk, next_ct, next_exc, wp_nx, wp_rt, wp_exc, wp_bk, wp_ct, wp_next, dAdd_ii, dSub_ii, dCmp_ii, asB_bl, asI_int, asInt_int, dInt_int, dInt_bl, dLen_tup, dLen_lst, dLen_frz, dMin2_eq, dMax2_eq, dTuple_lst, dTuple_tup, dTuple_frz, dList_lst, dList_tup, dIter_tup, dIter_lst, dIter_frz, dIx_t0, dIx_t1, dIx_t2, dIx_l0, dIx_l1, dIx_l2, dSl_tup, dSl_lst, dEq_ii, dNe_ii, dEq_bb, dNe_bb, dAll_map, dAny_map, List.getElem?_cons_zero, List.getElem?_cons_succ, List.set_cons_zero, List.set_cons_succ, List.length_cons, List.length_nil, Nat.reduceAdd, Nat.zero_add, Nat.reduceSub, List.replicate_succ, List.replicate_zero, List.cons_append, List.nil_append, List.append_nil, reduceIte, if_true, if_false, Bool.false_eq_true, Bool.not_true, Bool.not_false, dIx_tN (show u < r.length by omega), dIx_tN (show v < r.length by omega)]
          have hrl : (rowsL n l).length ≤ 64 := by unfold rowsL; rw [List.length_map]; exact hR
          rw [exD_lst 4 rfl hrow (by simp only [List.length_map, sizeLine_eq]; have := rc_le n c; omega)]
          simp only [xSet, xAsg, xPar, xExpr, xRet, xRetN, xIf, xFor, xRaise, eBin, eCall, eNil, eCons, eTup, eLst, eChain, tVal, tCmp', tChain', eIsN, eNotN, tIsN', tNotN', tNot', tAnd', tOr', eAnd, eOr, eNot, eNeg, eIf, pNone, pSome, eSl, eDef, eIm, eIsi, sSeq, sRg1, sRg2, tYes', gNil', gCons', unpk, wipeE, eD0, eD1, sKeys, eQix, List.map_cons, List.map_nil, gv_eq, sv_eq, mkT_0, mkT_1, mkT_2, mkT_3, mkT_4, mkT_5, mkL_0, mkL_1, mkL_2, mkL_3, mkL_4, mkL_5, cst_eq, okb, excb, nx_ok, nxA_ok, nxO_nx, nxO_rt, out_ok, out_exc, seqO_eq, next_nx, next_rt, next_bk, next_ct, next_exc, wp_nx, wp_rt, wp_exc, wp_bk, wp_ct, wp_next, dAdd_ii, dSub_ii, dCmp_ii, asB_bl, asI_int, asInt_int, dInt_int, dInt_bl, dLen_tup, dLen_lst, dLen_frz, dMin2_eq, dMax2_eq, dTuple_lst, dTuple_tup, dTuple_frz, dList_lst, dList_tup, dIter_tup, dIter_lst, dIter_frz, dIx_t0, dIx_t1, dIx_t2, dIx_l0, dIx_l1, dIx_l2, dSl_tup, dSl_lst, dEq_ii, dNe_ii, dEq_bb, dNe_bb, dAll_map, dAny_map, List.getElem?_cons_zero, List.getElem?_cons_succ, List.set_cons_zero, List.set_cons_succ, List.length_cons, List.length_nil, Nat.reduceAdd, Nat.zero_add, Nat.reduceSub, List.replicate_succ, List.replicate_zero, List.cons_append, List.nil_append, List.append_nil, reduceIte, if_true, if_false, Bool.false_eq_true, Bool.not_true, Bool.not_false]
          have hset : ∀ x, x < n → nth (c.set (max u v) (min u v)) x = if x = max u v then min u v else nth c x := fun x hx => nth_set (by rw [hU.len]; exact hx)
          have hU2 := hU.join lt1 lt2 f3 g3 huv (d := c.set (max u v) (min u v)) (by rw [List.length_set, hU.len]) hset
          have hrc : rc n (c.set (max u v) (min u v)) < rc n c := rc_lt (lo := min u v) (hi := max u v) (by omega) (by rcases Nat.le_total u v with t | t <;> simp [t, f3, g3]) (by omega) hset
          refine ⟨_, ?_, c.set (max u v) (min u v), w ++ (rowsL n l).map fun r => (nth r u, nth r v), k + 1, Gp G u v, some (nD u), some (nD v), by simp, hU2, hJ.join rok hp lt1 lt2 f4 g4, ?_, ?_, rfl⟩
          · simp only [List.length_append, List.length_map]; omega
          · simp only [List.length_append, List.length_map]; omega
          · simp only [List.length_append, List.length_map]; omega
    · refine .inl ⟨?_, ?_⟩
      · simp only [xSet, xAsg, xPar, xExpr, xRet, xRetN, xIf, xFor, xRaise, eBin, eCall, eNil, eCons, eTup, eLst, eChain, tVal, tCmp', tChain', eIsN, eNotN, tIsN', tNotN', tNot', tAnd', tOr', eAnd, eOr, eNot, eNeg, eIf, pNone, pSome, eSl, eDef, eIm, eIsi, sSeq, sRg1, sRg2, tYes', gNil', gCons', unpk, wipeE, eD0, eD1, sKeys, eQix, List.map_cons, List.map_nil, gv_eq, sv_eq, mkT_0, mkT_1, mkT_2, mkT_3, mkT_4, mkT_5, mkL_0, mkL_1, mkL_2, mkL_3, mkL_4, mkL_5, cst_eq, okb, excb, nx_ok, nxA_ok, nxO_nx, nxO_rt, out_ok, out_exc, seqO_eq, next_nx, next_rt, next_bk, next_ct, next_exc, wp_nx, wp_rt, wp_exc, wp_bk, wp_ct, wp_next, dAdd_ii, dSub_ii, dCmp_ii, asB_bl, asI_int, asInt_int, dInt_int, dInt_bl, dLen_tup, dLen_lst, dLen_frz, dMin2_eq, dMax2_eq, dTuple_lst, dTuple_tup, dTuple_frz, dList_lst, dList_tup, dIter_tup, dIter_lst, dIter_frz, dIx_t0, dIx_t1, dIx_t2, dIx_l0, dIx_l1, dIx_l2, dSl_tup, dSl_lst, dEq_ii, dNe_ii, dEq_bb, dNe_bb, dAll_map, dAny_map, List.getElem?_cons_zero, List.getElem?_cons_succ, List.set_cons_zero, List.set_cons_succ, List.length_cons, List.length_nil, Nat.reduceAdd, Nat.zero_add, Nat.reduceSub, List.replicate_succ, List.replicate_zero, List.cons_append, List.nil_append, List.append_nil, reduceIte, if_true, if_false, Bool.false_eq_true, Bool.not_true, Bool.not_false, List.length_map]
        simp
        omega
      · simp only [xSet, xAsg, xPar, xExpr, xRet, xRetN, xIf, xFor, xRaise, eBin, eCall, eNil, eCons, eTup, eLst, eChain, tVal, tCmp', tChain', eIsN, eNotN, tIsN', tNotN', tNot', tAnd', tOr', eAnd, eOr, eNot, eNeg, eIf, pNone, pSome, eSl, eDef, eIm, eIsi, sSeq, sRg1, sRg2, tYes', gNil', gCons', unpk, wipeE, eD0, eD1, sKeys, eQix, List.map_cons, List.map_nil, gv_eq, sv_eq, mkT_0, mkT_1, mkT_2, mkT_3, mkT_4, mkT_5, mkL_0, mkL_1, mkL_2, mkL_3, mkL_4, mkL_5, cst_eq, okb, excb, nx_ok, nxA_ok, nxO_nx, nxO_rt, out_ok, out_exc, seqO_eq, next_nx, next_rt, next_bk, next_ct, next_exc, wp_nx, wp_rt, wp_exc, wp_bk, wp_ct, wp_next, dAdd_ii, dSub_ii, dCmp_ii, asB_bl, asI_int, asInt_int, dInt_int, dInt_bl, dLen_tup, dLen_lst, dLen_frz, dMin2_eq, dMax2_eq, dTuple_lst, dTuple_tup, dTuple_frz, dList_lst, dList_tup, dIter_tup, dIter_lst, dIter_frz, dIx_t0, dIx_t1, dIx_t2, dIx_l0, dIx_l1, dIx_l2, dSl_tup, dSl_lst, dEq_ii, dNe_ii, dEq_bb, dNe_bb, dAll_map, dAny_map, List.getElem?_cons_zero, List.getElem?_cons_succ, List.set_cons_zero, List.set_cons_succ, List.length_cons, List.length_nil, Nat.reduceAdd, Nat.zero_add, Nat.reduceSub, List.replicate_succ, List.replicate_zero, List.cons_append, List.nil_append, List.append_nil, reduceIte, if_true, if_false, Bool.false_eq_true, Bool.not_true, Bool.not_false]
        obtain ⟨dd, e5, cn⟩ := normal_eq (show n ≤ 1000 by omega) hU
        simp only [xSet, xAsg, xPar, xExpr, xRet, xRetN, xIf, xFor, xRaise, eBin, eCall, eNil, eCons, eTup, eLst, eChain, tVal, tCmp', tChain', eIsN, eNotN, tIsN', tNotN', tNot', tAnd', tOr', eAnd, eOr, eNot, eNeg, eIf, pNone, pSome, eSl, eDef, eIm, eIsi, sSeq, sRg1, sRg2, tYes', gNil', gCons', unpk, wipeE, eD0, eD1, sKeys, eQix, List.map_cons, List.map_nil, gv_eq, sv_eq, mkT_0, mkT_1, mkT_2, mkT_3, mkT_4, mkT_5, mkL_0, mkL_1, mkL_2, mkL_3, mkL_4, mkL_5, cst_eq, okb, excb, nx_ok, nxA_ok, nxO_nx, nxO_rt, out_ok, out_exc, seqO_eq, next_nx, next_rt, next_bk, next_ct, next_exc, wp_nx, wp_rt, wp_exc, wp_bk, wp_ct, wp_next, dAdd_ii, dSub_ii, dCmp_ii, asB_bl, asI_int, asInt_int, dInt_int, dInt_bl, dLen_tup, dLen_lst, dLen_frz, dMin2_eq, dMax2_eq, dTuple_lst, dTuple_tup, dTuple_frz, dList_lst, dList_tup, dIter_tup, dIter_lst, dIter_frz, dIx_t0, dIx_t1, dIx_t2, dIx_l0, dIx_l1, dIx_l2, dSl_tup, dSl_lst, dEq_ii, dNe_ii, dEq_bb, dNe_bb, dAll_map, dAny_map, List.getElem?_cons_zero, List.getElem?_cons_succ, List.set_cons_zero, List.set_cons_succ, List.length_cons, List.length_nil, Nat.reduceAdd, Nat.zero_add, Nat.reduceSub, List.replicate_succ, List.replicate_zero, List.cons_append, List.nil_append, List.append_nil, reduceIte, if_true, if_false, Bool.false_eq_true, Bool.not_true, Bool.not_false, e5]
        exact ⟨dd, rfl, cn.congr fun a b => hJ.fin (by omega) rok⟩
  · have := rc_le n (List.range n)
    omega
  · have := rc_le n (List.range n)
    unfold fuel
    omega
end Lw


namespace Lw
open PySem PySem.Spec PyProof.Rows L2 DL
theorem em_prs : EmOk (fun w : List (Nat × Nat) => D.lst (w.map prT)) 2 := em_lst (em_pair em_nat em_nat)
/-- what the moves lead a and b to, as the law tells it -/
def newsO (n a b : Nat) (o : Opn) : List (Nat × Nat) :=
  if o.2.1 = 1 then [(nth o.2.2 a, nth o.2.2 b)] else if o.2.1 = 2 then (List.range n).flatMap fun c => [(nth o.2.2 (a * n + c), nth o.2.2 (b * n + c)), (nth o.2.2 (c * n + a), nth o.2.2 (c * n + b))] else []
def news (n a b : Nat) (l : List Opn) : List (Nat × Nat) := l.flatMap (newsO n a b)
theorem nth_range_map {n : Nat} (f : Nat → Nat) {x : Nat} (hx : x < n) : nth ((List.range n).map f) x = f x := by
  unfold nth
  rw [List.getD_eq_getElem?_getD, List.getElem?_map, List.getElem?_range hx]
  rfl
theorem mvRow_nth {n : Nat} (o : Opn) (m : Mv) {x : Nat} (hx : x < n) : nth (mvRow n o m) x = val n o.2.2 (mvArgs m x) := nth_range_map _ hx
theorem news_iff {n : Nat} {l : List Opn} {a b : Nat} (ha : a < n) (hb : b < n) (p : Nat × Nat) : p ∈ news n a b l ↔ ∃ r ∈ rowsL n l, p = (nth r a, nth r b) := by
  have arg1 : ∀ nm x, mvArgs (nm, 0, []) x = [x] := fun nm x => by simp [mvArgs]
  have arg2 : ∀ nm x c, mvArgs (nm, 0, [c]) x = [x, c] := fun nm x c => by simp [mvArgs]
  have arg3 : ∀ nm x c, mvArgs (nm, 1, [c]) x = [c, x] := fun nm x c => by simp [mvArgs]
  have i1 : ∀ x, idx n [x] = x := fun x => by simp [idx]
  have i2 : ∀ x c, idx n [x, c] = x * n + c := fun x c => by simp [idx]
  unfold news rowsL prs
  rw [List.mem_flatMap]
  constructor
  · rintro ⟨o, ho, h⟩
    unfold newsO at h
    split at h
    · rename_i t
      have h := List.mem_singleton.mp h
      refine ⟨mvRow n o (o.1, 0, []), ?_, by rw [h, mvRow_nth o _ ha, mvRow_nth o _ hb]; simp only [val, arg1, i1]⟩
      refine List.mem_map.mpr ⟨(o, (o.1, 0, [])), List.mem_flatMap.mpr ⟨o, ho, List.mem_map.mpr ⟨_, by simp [mvOf, t], rfl⟩⟩, rfl⟩
    · split at h
      · rename_i t
        obtain ⟨c, hc, h⟩ := List.mem_flatMap.mp h
        have hc := List.mem_range.mp hc
        rcases List.mem_cons.mp h with h | h
        · refine ⟨mvRow n o (o.1, 0, [c]), ?_, by rw [h, mvRow_nth o _ ha, mvRow_nth o _ hb]; simp only [val, arg2, i2]⟩
          refine List.mem_map.mpr ⟨(o, (o.1, 0, [c])), List.mem_flatMap.mpr ⟨o, ho, List.mem_map.mpr ⟨_, by simp [mvOf, t, hc], rfl⟩⟩, rfl⟩
        · have h := List.mem_singleton.mp h
          refine ⟨mvRow n o (o.1, 1, [c]), ?_, by rw [h, mvRow_nth o _ ha, mvRow_nth o _ hb]; simp only [val, arg3, i2]⟩
          refine List.mem_map.mpr ⟨(o, (o.1, 1, [c])), List.mem_flatMap.mpr ⟨o, ho, List.mem_map.mpr ⟨_, by simp [mvOf, t, hc], rfl⟩⟩, rfl⟩
      · simp at h
  · rintro ⟨r, hr, rfl⟩
    obtain ⟨⟨o, m⟩, hp, rfl⟩ := List.mem_map.mp hr
    obtain ⟨o', ho, hp⟩ := List.mem_flatMap.mp hp
    obtain ⟨m', hm, e⟩ := List.mem_map.mp hp
    cases e
    refine ⟨o, ho, ?_⟩
    dsimp only
    rw [mvRow_nth o _ ha, mvRow_nth o _ hb]
    unfold mvOf at hm
    unfold newsO
    split at hm
    · rename_i t
      have hm := List.mem_singleton.mp hm
      subst hm
      rw [if_pos t]
      simp only [val, arg1, i1]
      simp
    · rename_i t0
      split at hm
      · rename_i t
        rw [if_neg t0, if_pos t]
        obtain ⟨q, hq, hm⟩ := List.mem_flatMap.mp hm
        obtain ⟨c, hc, rfl⟩ := List.mem_map.mp hm
        refine List.mem_flatMap.mpr ⟨c, hc, ?_⟩
        have hq : q = 0 ∨ q = 1 := by have := List.mem_range.mp hq; omega
        rcases hq with rfl | rfl
        · simp only [val, arg2, i2]; simp
        · simp only [val, arg3, i2]; simp
      · simp at hm
theorem newsO_len {n a b : Nat} (h : n ≤ 8) (o : Opn) : (newsO n a b o).length ≤ 16 := by
  unfold newsO
  split
  · simp
  · split
    · simp [List.length_flatMap, List.map_const', List.sum_replicate_nat]; omega
    · simp
theorem news_len {n a b : Nat} (h : n ≤ 8) : ∀ l : List Opn, (news n a b l).length ≤ 16 * l.length
  | [] => by simp [news]
  | x :: l => by
    have := news_len (a := a) (b := b) h l
    have := newsO_len (a := a) (b := b) h x
    simp only [news, List.flatMap_cons, List.length_append, List.length_cons] at *
    omega
/-- what the law's loop keeps -/
structure Jl (n : Nat) (R : List (List Nat)) (W : List (Nat × Nat)) (G : Nat → Nat → Prop) (w : List (Nat × Nat)) : Prop where
  gc : ∀ a b, G a b → Cg n (· ∈ R) (Ps W) a b
  wc : ∀ p ∈ w, p.1 < n ∧ p.2 < n ∧ Cg n (· ∈ R) (Ps W) p.1 p.2
  all : ∀ p ∈ W, p ∈ w ∨ EqG n G p.1 p.2
  im : ∀ r ∈ R, ∀ a b, G a b → EqG n G (nth r a) (nth r b) ∨ (nth r a, nth r b) ∈ w
theorem Jl.fin {n : Nat} {R : List (List Nat)} {W : List (Nat × Nat)} {G : Nat → Nat → Prop} (h : Jl n R W G []) (hr : ∀ r ∈ R, ∀ a, a < n → nth r a < n) {a b : Nat} : EqG n G a b ↔ Cg n (· ∈ R) (Ps W) a b := by
  refine ⟨le_cg h.gc, cg_le (fun a b t => ?_) (fun r hr a b t => ?_) hr⟩
  · rcases h.all _ t with k | k
    · simp at k
    · exact k
  · rcases h.im r hr a b t with k | k
    · exact k
    · simp at k
theorem Jl.skip {n : Nat} {R : List (List Nat)} {W w : List (Nat × Nat)} {G : Nat → Nat → Prop} {p : Nat × Nat} (h : Jl n R W G (w ++ [p])) (he : EqG n G p.1 p.2) : Jl n R W G w := by
  refine ⟨h.gc, fun q hq => h.wc q (by simp [hq]), fun q hq => ?_, fun r hr a b t => ?_⟩
  · rcases h.all q hq with k | k
    · rcases List.mem_append.mp k with k | k
      · exact .inl k
      · rw [List.mem_singleton.mp k]; exact .inr he
    · exact .inr k
  · rcases h.im r hr a b t with k | k
    · exact .inl k
    · rcases List.mem_append.mp k with k | k
      · exact .inr k
      · have k := List.mem_singleton.mp k
        rw [← k] at he
        exact .inl he
theorem Jl.join {n : Nat} {R : List (List Nat)} {W w ns : List (Nat × Nat)} {G : Nat → Nat → Prop} {p : Nat × Nat} (h : Jl n R W G (w ++ [p])) (hr : ∀ r ∈ R, ∀ a, a < n → nth r a < n) (hns : ∀ q, q ∈ ns ↔ ∃ r ∈ R, q = (nth r p.1, nth r p.2)) : Jl n R W (Gp G p.1 p.2) (w ++ ns) := by
  obtain ⟨p1, p2, pc⟩ := h.wc p (by simp)
  have pe : EqG n (Gp G p.1 p.2) p.1 p.2 := .pr (.inr ⟨rfl, rfl⟩)
  refine ⟨?_, fun q hq => ?_, fun q hq => ?_, ?_⟩
  · rintro a b (t | ⟨rfl, rfl⟩)
    · exact h.gc a b t
    · exact pc
  · rcases List.mem_append.mp hq with k | k
    · exact h.wc q (by simp [k])
    · obtain ⟨r, hr1, rfl⟩ := (hns q).mp k
      exact ⟨hr r hr1 _ p1, hr r hr1 _ p2, .mv hr1 pc⟩
  · rcases h.all q hq with k | k
    · rcases List.mem_append.mp k with k | k
      · exact .inl (by simp [k])
      · rw [List.mem_singleton.mp k]; exact .inr pe
    · exact .inr k.up
  · rintro r hr1 a b (t | ⟨rfl, rfl⟩)
    · rcases h.im r hr1 a b t with k | k
      · exact .inl k.up
      · rcases List.mem_append.mp k with k | k
        · exact .inr (by simp [k])
        · have k := List.mem_singleton.mp k
          have k1 : nth r a = p.1 := congrArg Prod.fst k
          have k2 : nth r b = p.2 := congrArg Prod.snd k
          rw [k1, k2]
          exact .inl pe
    · exact .inr (List.mem_append_right _ ((hns _).mpr ⟨r, hr1, rfl⟩))
end Lw


namespace Lw
open PySem PySem.Spec PyProof.Rows L2 DL
theorem popD_lst {α : Type} {f : α → D} {w : List α} {p : α} {e e' : DL.Env} {tgt : D → DL.Env → R DL.Env} (i : Nat) (h1 : e[i]? = some (some (.lst ((w ++ [p]).map f)))) (h2 : tgt (f p) (e.set i (some (.lst (w.map f)))) = .ok e') : popD i tgt e = .nx e' := by
  unfold popD
  rw [h1]
  simp only [List.map_append, List.map_cons, List.map_nil, List.getLast?_concat, List.dropLast_concat]
  rw [h2]
  rfl
theorem ga_nil {n : Nat} (h1 : 1 ≤ n) (h8 : n ≤ 8) : GA n [] := ⟨h1, h8, fun x hx => by simp at hx, by simp, by simp⟩
theorem can_start (n : Nat) : Can n (EqG n fun _ _ => False) (List.range n) := by
  have U := uf_start n
  have e : ∀ x, x < n → nth (List.range n) x = x := fun x hx => by
    unfold nth
    rw [List.getD_eq_getElem?_getD, List.getElem?_range hx]
    rfl
  exact ⟨U.len, U.le, U.mem, fun x y hx hy h => by rw [e x hx, e y hy]; exact U.sep x y hx hy (e x hx) (e y hy) h⟩
theorem mkRgI_big {N : Int} {k : Nat} (h : N = (k : Int)) (hk : k ≤ 1000000000) : ∃ L : List Nat, L.length = k ∧ mkRgI 0 N = .ok (L.map nD) := by
  subst h
  exact ⟨List.range k, by simp, mkRgI_nat hk⟩
theorem ljoined_eq {n : Nat} {l : List Opn} (g : GA n l) (W : List (Nat × Nat)) (hW : ∀ p ∈ W, p.1 < n ∧ p.2 < n) (hlen : W.length ≤ 100000) (d : D) (hd : dList [d] = .ok (.lst (W.map prT))) :
    ∃ c, F__law_joined [nD n, opsT l, d] = .ok (tN c) ∧ Can n (Cg n (Mr n l) (Ps W)) c := by
  have h8 := g.n8
  have h4 := g.le
  have rok : ∀ r ∈ rowsL n l, ∀ a, a < n → nth r a < n := fun r hr => (rows_ok g hr).2
  refine fn_wpP (fun q => ∃ c, q = .ok (tN c) ∧ Can n (Cg n (Mr n l) (Ps W)) c) rfl ?_
  have e1 : eLc [9] (sRg1 (gv 0)) (sv 9) tYes' (gv 9) [some (nD n), some (opsT l), some d, none, none, none, none, none, none, none, none, none, none, none] = .ok (lN (List.range n)) := by
    rw [eLc_map nD nD (List.range n) (by simp only [xSet, xAsg, xPar, xExpr, xRet, xRetN, xIf, xFor, xRaise, eBin, eCall, eNil, eCons, eTup, eLst, eChain, tVal, tCmp', tChain', eIsN, eNotN, tIsN', tNotN', tNot', tAnd', tOr', eAnd, eOr, eNot, eNeg, eIf, pNone, pSome, eSl, eDef, eIm, eIsi, sSeq, sRg1, sRg2, tYes', gNil', gCons', unpk, wipeE, eD0, eD1, sKeys, eQix, List.map_cons, List.map_nil, gv_eq, sv_eq, mkT_0, mkT_1, mkT_2, mkT_3, mkT_4, mkT_5, mkL_0, mkL_1, mkL_2, mkL_3, mkL_4, mkL_5, cst_eq, okb, excb, nx_ok, nxA_ok, nxO_nx, nxO_rt, out_ok, out_exc, seqO_eq, next_nx, next_rt, next_bk, next_ct, next_exc, wp_nx, wp_rt, wp_exc, wp_bk, wp_ct, wp_next, dAdd_ii, dSub_ii, dCmp_ii, asB_bl, asI_int, asInt_int, dInt_int, dInt_bl, dLen_tup, dLen_lst, dLen_frz, dMin2_eq, dMax2_eq, dTuple_lst, dTuple_tup, dTuple_frz, dList_lst, dList_tup, dIter_tup, dIter_lst, dIter_frz, dIx_t0, dIx_t1, dIx_t2, dIx_l0, dIx_l1, dIx_l2, dSl_tup, dSl_lst, dEq_ii, dNe_ii, dEq_bb, dNe_bb, dAll_map, dAny_map, List.getElem?_cons_zero, List.getElem?_cons_succ, List.set_cons_zero, List.set_cons_succ, List.length_cons, List.length_nil, Nat.reduceAdd, Nat.zero_add, Nat.reduceSub, List.replicate_succ, List.replicate_zero, List.cons_append, List.nil_append, List.append_nil, reduceIte, if_true, if_false, Bool.false_eq_true, Bool.not_true, Bool.not_false, mkRgI_nat (show n ≤ 1000000000 by omega)]) (by simp; omega) (fun x hx => ⟨_, rfl, rfl, rfl⟩)]
  obtain ⟨L, hL, e2⟩ := mkRgI_big (N := 1000000) (k := 1000000) (by simp) (by omega)
  simp only [den__law_joined, xSet, xAsg, xPar, xExpr, xRet, xRetN, xIf, xFor, xRaise, eBin, eCall, eNil, eCons, eTup, eLst, eChain, tVal, tCmp', tChain', eIsN, eNotN, tIsN', tNotN', tNot', tAnd', tOr', eAnd, eOr, eNot, eNeg, eIf, pNone, pSome, eSl, eDef, eIm, eIsi, sSeq, sRg1, sRg2, tYes', gNil', gCons', unpk, wipeE, eD0, eD1, sKeys, eQix, List.map_cons, List.map_nil, gv_eq, sv_eq, mkT_0, mkT_1, mkT_2, mkT_3, mkT_4, mkT_5, mkL_0, mkL_1, mkL_2, mkL_3, mkL_4, mkL_5, cst_eq, okb, excb, nx_ok, nxA_ok, nxO_nx, nxO_rt, out_ok, out_exc, seqO_eq, next_nx, next_rt, next_bk, next_ct, next_exc, wp_nx, wp_rt, wp_exc, wp_bk, wp_ct, wp_next, dAdd_ii, dSub_ii, dCmp_ii, asB_bl, asI_int, asInt_int, dInt_int, dInt_bl, dLen_tup, dLen_lst, dLen_frz, dMin2_eq, dMax2_eq, dTuple_lst, dTuple_tup, dTuple_frz, dList_lst, dList_tup, dIter_tup, dIter_lst, dIter_frz, dIx_t0, dIx_t1, dIx_t2, dIx_l0, dIx_l1, dIx_l2, dSl_tup, dSl_lst, dEq_ii, dNe_ii, dEq_bb, dNe_bb, dAll_map, dAny_map, List.getElem?_cons_zero, List.getElem?_cons_succ, List.set_cons_zero, List.set_cons_succ, List.length_cons, List.length_nil, Nat.reduceAdd, Nat.zero_add, Nat.reduceSub, List.replicate_succ, List.replicate_zero, List.cons_append, List.nil_append, List.append_nil, reduceIte, if_true, if_false, Bool.false_eq_true, Bool.not_true, Bool.not_false, e1, hd, e2]
  refine wp_for nD (fun p e => ∃ (c : List Nat) (w : List (Nat × Nat)) (G : Nat → Nat → Prop) (o5 o6 o7 o8 o10 o11 o13 : Option D), e = [some (nD n), some (opsT l), some d, some (lN c), some (.lst (w.map prT)), o5, o6, o7, o8, none, o10, o11, none, o13] ∧
    Can n (EqG n G) c ∧ Jl n (rowsL n l) W G w ∧ p.length + w.length + 65 * rc n c ≤ W.length + 65 * n) L ⟨List.range n, W, fun _ _ => False, _, _, _, _, _, _, _, rfl, can_start n, ⟨fun _ _ h => h.elim, fun p hp => ⟨(hW p hp).1, (hW p hp).2, .pr hp⟩, fun p hp => .inl hp, fun _ _ _ _ h => h.elim⟩, ?_⟩ ?_ ?_
  · have := rc_le n (List.range n)
    simp
    omega
  · rintro p x q hp e ⟨c, w, G, o5, o6, o7, o8, o10, o11, o13, rfl, hC, hJ, hb⟩
    refine ⟨_, rfl, ?_⟩
    have ee : dEq (.lst (w.map prT)) (.lst []) = .ok (.bl (decide (w = []))) := em_prs.dEq w []
    simp only [xSet, xAsg, xPar, xExpr, xRet, xRetN, xIf, xFor, xRaise, eBin, eCall, eNil, eCons, eTup, eLst, eChain, tVal, tCmp', tChain', eIsN, eNotN, tIsN', tNotN', tNot', tAnd', tOr', eAnd, eOr, eNot, eNeg, eIf, pNone, pSome, eSl, eDef, eIm, eIsi, sSeq, sRg1, sRg2, tYes', gNil', gCons', unpk, wipeE, eD0, eD1, sKeys, eQix, List.map_cons, List.map_nil, gv_eq, sv_eq, mkT_0, mkT_1, mkT_2, mkT_3, mkT_4, mkT_5, mkL_0, mkL_1, mkL_2, mkL_3, mkL_4, mkL_5, cst_eq, okb, excb, nx_ok, nxA_ok, nxO_nx, nxO_rt, out_ok, out_exc, seqO_eq, next_nx, next_rt, next_bk, next_ct, next_exc, wp_nx, wp_rt, wp_exc, wp_bk, wp_ct, wp_next, dAdd_ii, dSub_ii, dCmp_ii, asB_bl, asI_int, asInt_int, dInt_int, dInt_bl, dLen_tup, dLen_lst, dLen_frz, dMin2_eq, dMax2_eq, dTuple_lst, dTuple_tup, dTuple_frz, dList_lst, dList_tup, dIter_tup, dIter_lst, dIter_frz, dIx_t0, dIx_t1, dIx_t2, dIx_l0, dIx_l1, dIx_l2, dSl_tup, dSl_lst, dEq_ii, dNe_ii, dEq_bb, dNe_bb, dAll_map, dAny_map, List.getElem?_cons_zero, List.getElem?_cons_succ, List.set_cons_zero, List.set_cons_succ, List.length_cons, List.length_nil, Nat.reduceAdd, Nat.zero_add, Nat.reduceSub, List.replicate_succ, List.replicate_zero, List.cons_append, List.nil_append, List.append_nil, reduceIte, if_true, if_false, Bool.false_eq_true, Bool.not_true, Bool.not_false, ee]
    by_cases hw : w = []
    · subst hw
      simp only [decide_true, xSet, xAsg, xPar, xExpr, xRet, xRetN, xIf, xFor, xRaise, eBin, eCall, eNil, eCons, eTup, eLst, eChain, tVal, tCmp', tChain', eIsN, eNotN, tIsN', tNotN', tNot', tAnd', tOr', eAnd, eOr, eNot, eNeg, eIf, pNone, pSome, eSl, eDef, eIm, eIsi, sSeq, sRg1, sRg2, tYes', gNil', gCons', unpk, wipeE, eD0, eD1, sKeys, eQix, List.map_cons, List.map_nil, gv_eq, sv_eq, mkT_0, mkT_1, mkT_2, mkT_3, mkT_4, mkT_5, mkL_0, mkL_1, mkL_2, mkL_3, mkL_4, mkL_5, cst_eq, okb, excb, nx_ok, nxA_ok, nxO_nx, nxO_rt, out_ok, out_exc, seqO_eq, next_nx, next_rt, next_bk, next_ct, next_exc, wp_nx, wp_rt, wp_exc, wp_bk, wp_ct, wp_next, dAdd_ii, dSub_ii, dCmp_ii, asB_bl, asI_int, asInt_int, dInt_int, dInt_bl, dLen_tup, dLen_lst, dLen_frz, dMin2_eq, dMax2_eq, dTuple_lst, dTuple_tup, dTuple_frz, dList_lst, dList_tup, dIter_tup, dIter_lst, dIter_frz, dIx_t0, dIx_t1, dIx_t2, dIx_l0, dIx_l1, dIx_l2, dSl_tup, dSl_lst, dEq_ii, dNe_ii, dEq_bb, dNe_bb, dAll_map, dAny_map, List.getElem?_cons_zero, List.getElem?_cons_succ, List.set_cons_zero, List.set_cons_succ, List.length_cons, List.length_nil, Nat.reduceAdd, Nat.zero_add, Nat.reduceSub, List.replicate_succ, List.replicate_zero, List.cons_append, List.nil_append, List.append_nil, reduceIte, if_true, if_false, Bool.false_eq_true, Bool.not_true, Bool.not_false]
      exact ⟨c, rfl, hC.congr fun a b => hJ.fin rok⟩
    · simp only [decide_eq_false hw, xSet, xAsg, xPar, xExpr, xRet, xRetN, xIf, xFor, xRaise, eBin, eCall, eNil, eCons, eTup, eLst, eChain, tVal, tCmp', tChain', eIsN, eNotN, tIsN', tNotN', tNot', tAnd', tOr', eAnd, eOr, eNot, eNeg, eIf, pNone, pSome, eSl, eDef, eIm, eIsi, sSeq, sRg1, sRg2, tYes', gNil', gCons', unpk, wipeE, eD0, eD1, sKeys, eQix, List.map_cons, List.map_nil, gv_eq, sv_eq, mkT_0, mkT_1, mkT_2, mkT_3, mkT_4, mkT_5, mkL_0, mkL_1, mkL_2, mkL_3, mkL_4, mkL_5, cst_eq, okb, excb, nx_ok, nxA_ok, nxO_nx, nxO_rt, out_ok, out_exc, seqO_eq, next_nx, next_rt, next_bk, next_ct, next_exc, wp_nx, wp_rt, wp_exc, wp_bk, wp_ct, wp_next, dAdd_ii, dSub_ii, dCmp_ii, asB_bl, asI_int, asInt_int, dInt_int, dInt_bl, dLen_tup, dLen_lst, dLen_frz, dMin2_eq, dMax2_eq, dTuple_lst, dTuple_tup, dTuple_frz, dList_lst, dList_tup, dIter_tup, dIter_lst, dIter_frz, dIx_t0, dIx_t1, dIx_t2, dIx_l0, dIx_l1, dIx_l2, dSl_tup, dSl_lst, dEq_ii, dNe_ii, dEq_bb, dNe_bb, dAll_map, dAny_map, List.getElem?_cons_zero, List.getElem?_cons_succ, List.set_cons_zero, List.set_cons_succ, List.length_cons, List.length_nil, Nat.reduceAdd, Nat.zero_add, Nat.reduceSub, List.replicate_succ, List.replicate_zero, List.cons_append, List.nil_append, List.append_nil, reduceIte, if_true, if_false, Bool.false_eq_true, Bool.not_true, Bool.not_false]
      obtain ⟨w', pr, rfl⟩ : ∃ w' pr, w = w' ++ [pr] := ⟨w.dropLast, w.getLast hw, (List.dropLast_concat_getLast hw).symm⟩
      obtain ⟨a, b⟩ := pr
      obtain ⟨ha, hb', hab⟩ := hJ.wc (a, b) (by simp)
      have ha : a < n := ha
      have hb' : b < n := hb'
      rw [popD_lst (f := prT) (w := w') (p := (a, b)) 4 rfl (e' := [some (nD n), some (opsT l), some d, some (lN c), some (.lst (w'.map prT)), some (nD x), o6, o7, o8, none, some (nD a), some (nD b), none, o13]) rfl]
      have cl := hC.len
      have ia : dIx (lN c) (nD a) = .ok (nD (nth c a)) := dIx_lN (by omega)
      have ib : dIx (lN c) (nD b) = .ok (nD (nth c b)) := dIx_lN (by omega)
      have emin : (min (nth c a : Int) (nth c b)) = ((min (nth c a) (nth c b) : Nat) : Int) := by omega
      have emax : (max (nth c a : Int) (nth c b)) = ((max (nth c a) (nth c b) : Nat) : Int) := by omega
      simp only [xSet, xAsg, xPar, xExpr, xRet, xRetN, xIf, xFor, xRaise, eBin, eCall, eNil, eCons, eTup, eLst, eChain, tVal, tCmp', tChain', eIsN, eNotN, tIsN', tNotN', tNot', tAnd', tOr', eAnd, eOr, eNot, eNeg, eIf, pNone, pSome, eSl, eDef, eIm, eIsi, sSeq, sRg1, sRg2, tYes', gNil', gCons', unpk, wipeE, eD0, eD1, sKeys, eQix, List.map_cons, List.map_nil, gv_eq, sv_eq, mkT_0, mkT_1, mkT_2, mkT_3, mkT_4, mkT_5, mkL_0, mkL_1, mkL_2, mkL_3, mkL_4, mkL_5, cst_eq, okb, excb, nx_ok, nxA_ok, nxO_nx, nxO_rt, out_ok, out_exc, seqO_eq, next_nx, next_rt, next_bk, next_ct, next_exc, wp_nx, wp_rt, wp_exc, wp_bk, wp_ct, wp_next, dAdd_ii, dSub_ii, dCmp_ii, asB_bl, asI_int, asInt_int, dInt_int, dInt_bl, dLen_tup, dLen_lst, dLen_frz, dMin2_eq, dMax2_eq, dTuple_lst, dTuple_tup, dTuple_frz, dList_lst, dList_tup, dIter_tup, dIter_lst, dIter_frz, dIx_t0, dIx_t1, dIx_t2, dIx_l0, dIx_l1, dIx_l2, dSl_tup, dSl_lst, dEq_ii, dNe_ii, dEq_bb, dNe_bb, dAll_map, dAny_map, List.getElem?_cons_zero, List.getElem?_cons_succ, List.set_cons_zero, List.set_cons_succ, List.length_cons, List.length_nil, Nat.reduceAdd, Nat.zero_add, Nat.reduceSub, List.replicate_succ, List.replicate_zero, List.cons_append, List.nil_append, List.append_nil, reduceIte, if_true, if_false, Bool.false_eq_true, Bool.not_true, Bool.not_false, ia, ib, emin, emax]
      generalize hlo : min (nth c a) (nth c b) = lo
      generalize hhi : max (nth c a) (nth c b) = hi
      by_cases hlh : lo = hi
      · simp only [decide_eq_true (show (lo : Int) = hi by omega), xSet, xAsg, xPar, xExpr, xRet, xRetN, xIf, xFor, xRaise, eBin, eCall, eNil, eCons, eTup, eLst, eChain, tVal, tCmp', tChain', eIsN, eNotN, tIsN', tNotN', tNot', tAnd', tOr', eAnd, eOr, eNot, eNeg, eIf, pNone, pSome, eSl, eDef, eIm, eIsi, sSeq, sRg1, sRg2, tYes', gNil', gCons', unpk, wipeE, eD0, eD1, sKeys, eQix, List.map_cons, List.map_nil, gv_eq, sv_eq, mkT_0, mkT_1, mkT_2, mkT_3, mkT_4, mkT_5, mkL_0, mkL_1, mkL_2, mkL_3, mkL_4, mkL_5, cst_eq, okb, excb, nx_ok, nxA_ok, nxO_nx, nxO_rt, out_ok, out_exc, seqO_eq, next_nx, next_rt, next_bk, next_ct, next_exc, wp_nx, wp_rt, wp_exc, wp_bk, wp_ct, wp_next, dAdd_ii, dSub_ii, dCmp_ii, asB_bl, asI_int, asInt_int, dInt_int, dInt_bl, dLen_tup, dLen_lst, dLen_frz, dMin2_eq, dMax2_eq, dTuple_lst, dTuple_tup, dTuple_frz, dList_lst, dList_tup, dIter_tup, dIter_lst, dIter_frz, dIx_t0, dIx_t1, dIx_t2, dIx_l0, dIx_l1, dIx_l2, dSl_tup, dSl_lst, dEq_ii, dNe_ii, dEq_bb, dNe_bb, dAll_map, dAny_map, List.getElem?_cons_zero, List.getElem?_cons_succ, List.set_cons_zero, List.set_cons_succ, List.length_cons, List.length_nil, Nat.reduceAdd, Nat.zero_add, Nat.reduceSub, List.replicate_succ, List.replicate_zero, List.cons_append, List.nil_append, List.append_nil, reduceIte, if_true, if_false, Bool.false_eq_true, Bool.not_true, Bool.not_false]
        have hcc : nth c a = nth c b := by omega
        refine ⟨c, w', G, _, _, _, _, _, _, _, rfl, hC, hJ.skip (.tr (hC.mem a ha) (hcc ▸ .sm (hC.mem b hb'))), ?_⟩
        simp at hb ⊢
        omega
      · simp only [decide_eq_false (show ¬ (lo : Int) = hi by omega), xSet, xAsg, xPar, xExpr, xRet, xRetN, xIf, xFor, xRaise, eBin, eCall, eNil, eCons, eTup, eLst, eChain, tVal, tCmp', tChain', eIsN, eNotN, tIsN', tNotN', tNot', tAnd', tOr', eAnd, eOr, eNot, eNeg, eIf, pNone, pSome, eSl, eDef, eIm, eIsi, sSeq, sRg1, sRg2, tYes', gNil', gCons', unpk, wipeE, eD0, eD1, sKeys, eQix, List.map_cons, List.map_nil, gv_eq, sv_eq, mkT_0, mkT_1, mkT_2, mkT_3, mkT_4, mkT_5, mkL_0, mkL_1, mkL_2, mkL_3, mkL_4, mkL_5, cst_eq, okb, excb, nx_ok, nxA_ok, nxO_nx, nxO_rt, out_ok, out_exc, seqO_eq, next_nx, next_rt, next_bk, next_ct, next_exc, wp_nx, wp_rt, wp_exc, wp_bk, wp_ct, wp_next, dAdd_ii, dSub_ii, dCmp_ii, asB_bl, asI_int, asInt_int, dInt_int, dInt_bl, dLen_tup, dLen_lst, dLen_frz, dMin2_eq, dMax2_eq, dTuple_lst, dTuple_tup, dTuple_frz, dList_lst, dList_tup, dIter_tup, dIter_lst, dIter_frz, dIx_t0, dIx_t1, dIx_t2, dIx_l0, dIx_l1, dIx_l2, dSl_tup, dSl_lst, dEq_ii, dNe_ii, dEq_bb, dNe_bb, dAll_map, dAny_map, List.getElem?_cons_zero, List.getElem?_cons_succ, List.set_cons_zero, List.set_cons_succ, List.length_cons, List.length_nil, Nat.reduceAdd, Nat.zero_add, Nat.reduceSub, List.replicate_succ, List.replicate_zero, List.cons_append, List.nil_append, List.append_nil, reduceIte, if_true, if_false, Bool.false_eq_true, Bool.not_true, Bool.not_false]
        have e3 : ∀ o5 o8 o10 o11 o13, eLc [12] (sSeq (gv 3)) (sv 12) tYes' (eBin dIx (eLst (eCons (gv 12) (eCons (gv 6) eNil))) (eCall dInt (eCons (eBin dEq (gv 12) (gv 7)) eNil))) [some (nD n), some (opsT l), some d, some (lN c), some (.lst (w'.map prT)), o5, some (nD lo), some (nD hi), o8, none, o10, o11, none, o13] = .ok (lN (c.map fun t => if t = hi then lo else t)) := fun o5 o8 o10 o11 o13 => by
          rw [eLc_map nD (fun t => nD (if t = hi then lo else t)) c (by simp only [xSet, xAsg, xPar, xExpr, xRet, xRetN, xIf, xFor, xRaise, eBin, eCall, eNil, eCons, eTup, eLst, eChain, tVal, tCmp', tChain', eIsN, eNotN, tIsN', tNotN', tNot', tAnd', tOr', eAnd, eOr, eNot, eNeg, eIf, pNone, pSome, eSl, eDef, eIm, eIsi, sSeq, sRg1, sRg2, tYes', gNil', gCons', unpk, wipeE, eD0, eD1, sKeys, eQix, List.map_cons, List.map_nil, gv_eq, sv_eq, mkT_0, mkT_1, mkT_2, mkT_3, mkT_4, mkT_5, mkL_0, mkL_1, mkL_2, mkL_3, mkL_4, mkL_5, cst_eq, okb, excb, nx_ok, nxA_ok, nxO_nx, nxO_rt, out_ok, out_exc, seqO_eq, next_nx, next_rt, next_bk, next_ct, next_exc, wp_nx, wp_rt, wp_exc, wp_bk, wp_ct, wp_next, dAdd_ii, dSub_ii, dCmp_ii, asB_bl, asI_int, asInt_int, dInt_int, dInt_bl, dLen_tup, dLen_lst, dLen_frz, dMin2_eq, dMax2_eq, dTuple_lst, dTuple_tup, dTuple_frz, dList_lst, dList_tup, dIter_tup, dIter_lst, dIter_frz, dIx_t0, dIx_t1, dIx_t2, dIx_l0, dIx_l1, dIx_l2, dSl_tup, dSl_lst, dEq_ii, dNe_ii, dEq_bb, dNe_bb, dAll_map, dAny_map, List.getElem?_cons_zero, List.getElem?_cons_succ, List.set_cons_zero, List.set_cons_succ, List.length_cons, List.length_nil, Nat.reduceAdd, Nat.zero_add, Nat.reduceSub, List.replicate_succ, List.replicate_zero, List.cons_append, List.nil_append, List.append_nil, reduceIte, if_true, if_false, Bool.false_eq_true, Bool.not_true, Bool.not_false]) (by omega) (fun t ht => ⟨_, rfl, rfl, ?_⟩)]
          · simp [lN]
          · simp only [xSet, xAsg, xPar, xExpr, xRet, xRetN, xIf, xFor, xRaise, eBin, eCall, eNil, eCons, eTup, eLst, eChain, tVal, tCmp', tChain', eIsN, eNotN, tIsN', tNotN', tNot', tAnd', tOr', eAnd, eOr, eNot, eNeg, eIf, pNone, pSome, eSl, eDef, eIm, eIsi, sSeq, sRg1, sRg2, tYes', gNil', gCons', unpk, wipeE, eD0, eD1, sKeys, eQix, List.map_cons, List.map_nil, gv_eq, sv_eq, mkT_0, mkT_1, mkT_2, mkT_3, mkT_4, mkT_5, mkL_0, mkL_1, mkL_2, mkL_3, mkL_4, mkL_5, cst_eq, okb, excb, nx_ok, nxA_ok, nxO_nx, nxO_rt, out_ok, out_exc, seqO_eq, next_nx, next_rt, next_bk, next_ct, next_exc, wp_nx, wp_rt, wp_exc, wp_bk, wp_ct, wp_next, dAdd_ii, dSub_ii, dCmp_ii, asB_bl, asI_int, asInt_int, dInt_int, dInt_bl, dLen_tup, dLen_lst, dLen_frz, dMin2_eq, dMax2_eq, dTuple_lst, dTuple_tup, dTuple_frz, dList_lst, dList_tup, dIter_tup, dIter_lst, dIter_frz, dIx_t0, dIx_t1, dIx_t2, dIx_l0, dIx_l1, dIx_l2, dSl_tup, dSl_lst, dEq_ii, dNe_ii, dEq_bb, dNe_bb, dAll_map, dAny_map, List.getElem?_cons_zero, List.getElem?_cons_succ, List.set_cons_zero, List.set_cons_succ, List.length_cons, List.length_nil, Nat.reduceAdd, Nat.zero_add, Nat.reduceSub, List.replicate_succ, List.replicate_zero, List.cons_append, List.nil_append, List.append_nil, reduceIte, if_true, if_false, Bool.false_eq_true, Bool.not_true, Bool.not_false]
            by_cases hth : t = hi
            · simp [hth]
            · have : ¬ ((t : Int) = hi) := by omega
              simp [hth, this]
        simp only [xSet, xAsg, xPar, xExpr, xRet, xRetN, xIf, xFor, xRaise, eBin, eCall, eNil, eCons, eTup, eLst, eChain, tVal, tCmp', tChain', eIsN, eNotN, tIsN', tNotN', tNot', tAnd', tOr', eAnd, eOr, eNot, eNeg, eIf, pNone, pSome, eSl, eDef, eIm, eIsi, sSeq, sRg1, sRg2, tYes', gNil', gCons', unpk, wipeE, eD0, eD1, sKeys, eQix, List.map_cons, List.map_nil, gv_eq, sv_eq, mkT_0, mkT_1, mkT_2, mkT_3, mkT_4, mkT_5, mkL_0, mkL_1, mkL_2, mkL_3, mkL_4, mkL_5, cst_eq, okb, excb, nx_ok, nxA_ok, nxO_nx, nxO_rt, out_ok, out_exc, seqO_eq, next_nx, next_rt, next_bk, next_ct, next_exc, wp_nx, wp_rt, wp_exc, wp_bk, wp_ct, wp_next, dAdd_ii, dSub_ii, dCmp_ii, asB_bl, asI_int, asInt_int, dInt_int, dInt_bl, dLen_tup, dLen_lst, dLen_frz, dMin2_eq, dMax2_eq, dTuple_lst, dTuple_tup, dTuple_frz, dList_lst, dList_tup, dIter_tup, dIter_lst, dIter_frz, dIx_t0, dIx_t1, dIx_t2, dIx_l0, dIx_l1, dIx_l2, dSl_tup, dSl_lst, dEq_ii, dNe_ii, dEq_bb, dNe_bb, dAll_map, dAny_map, List.getElem?_cons_zero, List.getElem?_cons_succ, List.set_cons_zero, List.set_cons_succ, List.length_cons, List.length_nil, Nat.reduceAdd, Nat.zero_add, Nat.reduceSub, List.replicate_succ, List.replicate_zero, List.cons_append, List.nil_append, List.append_nil, reduceIte, if_true, if_false, Bool.false_eq_true, Bool.not_true, Bool.not_false, e3]
        have hdx : ∀ x, x < n → nth (c.map fun t => if t = hi then lo else t) x = if nth c x = hi then lo else nth c x := fun x hx => by
          unfold nth
          rw [List.getD_eq_getElem?_getD, List.getD_eq_getElem?_getD, List.getElem?_map, List.getElem?_eq_getElem (show x < c.length by omega)]
          rfl
        have hC2 : Can n (EqG n (Gp G a b)) (c.map fun t => if t = hi then lo else t) := hC.join ha hb' hlo.symm hhi.symm hlh (by rw [List.length_map, cl]) hdx
        have hhn : hi < n := by
          have := hC.le a ha
          have := hC.le b hb'
          omega
        have ihi : nth c hi = hi := by
          rcases Nat.le_total (nth c a) (nth c b) with t | t
          · rw [Nat.max_eq_right t] at hhi; rw [← hhi]; exact hC.idem hb'
          · rw [Nat.max_eq_left t] at hhi; rw [← hhi]; exact hC.idem ha
        have ilo : nth c lo = lo := by
          rcases Nat.le_total (nth c a) (nth c b) with t | t
          · rw [Nat.min_eq_left t] at hlo; rw [← hlo]; exact hC.idem ha
          · rw [Nat.min_eq_right t] at hlo; rw [← hlo]; exact hC.idem hb'
        have hrc : rc n (c.map fun t => if t = hi then lo else t) < rc n c := by
          refine countP_lt (fun x hx h => ?_) ⟨hi, by simpa using hhn, by simpa using ihi, ?_⟩
          · have hx : x < n := by simpa using hx
            rw [hdx x hx] at h
            split at h
            · rename_i t
              have h : lo = x := by simpa using h
              subst h
              simp [ilo]
            · exact h
          · rw [hdx hi hhn, ihi, if_pos rfl]
            simpa using hlh
        have hJ2 := hJ.join (ns := news n a b l) rok (fun q => news_iff (l := l) ha hb' q)
        refine wp_for opT (fun p2 e => ∃ (o8 o13 : Option D), e = [some (nD n), some (opsT l), some d, some (lN (c.map fun t => if t = hi then lo else t)), some (.lst ((w' ++ news n a b p2).map prT)), some (nD x), some (nD lo), some (nD hi), o8, none, some (nD a), some (nD b), none, o13]) l ⟨o8, o13, by simp [news]⟩ ?_ ?_
        · rintro p2 o q2 hp2 e ⟨o8, o13, rfl⟩
          have ho : o ∈ l := by rw [hp2]; simp
          obtain ⟨_, to⟩ := g.op o ho
          have tl := to.len
          have r2 := to.r2
          have hnl := news_len (a := a) (b := b) h8 p2
          have hp2l : p2.length < 4 := by have := congrArg List.length hp2; simp at this; omega
          have hwl : w'.length < 200000 := by
            simp at hb
            omega
          refine ⟨_, rfl, ?_⟩
          simp only [xSet, xAsg, xPar, xExpr, xRet, xRetN, xIf, xFor, xRaise, eBin, eCall, eNil, eCons, eTup, eLst, eChain, tVal, tCmp', tChain', eIsN, eNotN, tIsN', tNotN', tNot', tAnd', tOr', eAnd, eOr, eNot, eNeg, eIf, pNone, pSome, eSl, eDef, eIm, eIsi, sSeq, sRg1, sRg2, tYes', gNil', gCons', unpk, wipeE, eD0, eD1, sKeys, eQix, List.map_cons, List.map_nil, gv_eq, sv_eq, mkT_0, mkT_1, mkT_2, mkT_3, mkT_4, mkT_5, mkL_0, mkL_1, mkL_2, mkL_3, mkL_4, mkL_5, cst_eq, okb, excb, nx_ok, nxA_ok, nxO_nx, nxO_rt, out_ok, out_exc, seqO_eq, next_nx, next_rt, next_bk, next_ct, next_exc, wp_nx, wp_rt, wp_exc, wp_bk, wp_ct, wp_next, dAdd_ii, dSub_ii, dCmp_ii, asB_bl, asI_int, asInt_int, dInt_int, dInt_bl, dLen_tup, dLen_lst, dLen_frz, dMin2_eq, dMax2_eq, dTuple_lst, dTuple_tup, dTuple_frz, dList_lst, dList_tup, dIter_tup, dIter_lst, dIter_frz, dIx_t0, dIx_t1, dIx_t2, dIx_l0, dIx_l1, dIx_l2, dSl_tup, dSl_lst, dEq_ii, dNe_ii, dEq_bb, dNe_bb, dAll_map, dAny_map, List.getElem?_cons_zero, List.getElem?_cons_succ, List.set_cons_zero, List.set_cons_succ, List.length_cons, List.length_nil, Nat.reduceAdd, Nat.zero_add, Nat.reduceSub, List.replicate_succ, List.replicate_zero, List.cons_append, List.nil_append, List.append_nil, reduceIte, if_true, if_false, Bool.false_eq_true, Bool.not_true, Bool.not_false]
          have nx1 : news n a b (p2 ++ [o]) = news n a b p2 ++ newsO n a b o := by simp [news]
          by_cases c1 : o.2.1 = 1
          · have tl1 : o.2.2.length = n := by rw [tl, c1]; simp
            have na : newsO n a b o = [(nth o.2.2 a, nth o.2.2 b)] := by unfold newsO; rw [if_pos c1]
            have k1 : decide ((o.2.1 : Int) = 1) = true := by simp [c1]
            have k2 : decide ((o.2.1 : Int) = 2) = false := by simp [c1]
            simp only [k1, xSet, xAsg, xPar, xExpr, xRet, xRetN, xIf, xFor, xRaise, eBin, eCall, eNil, eCons, eTup, eLst, eChain, tVal, tCmp', tChain', eIsN, eNotN, tIsN', tNotN', tNot', tAnd', tOr', eAnd, eOr, eNot, eNeg, eIf, pNone, pSome, eSl, eDef, eIm, eIsi, sSeq, sRg1, sRg2, tYes', gNil', gCons', unpk, wipeE, eD0, eD1, sKeys, eQix, List.map_cons, List.map_nil, gv_eq, sv_eq, mkT_0, mkT_1, mkT_2, mkT_3, mkT_4, mkT_5, mkL_0, mkL_1, mkL_2, mkL_3, mkL_4, mkL_5, cst_eq, okb, excb, nx_ok, nxA_ok, nxO_nx, nxO_rt, out_ok, out_exc, seqO_eq, next_nx, next_rt, next_bk, next_ct, next_exc, wp_nx, wp_rt, wp_exc, wp_bk, wp_ct, wp_next, dAdd_ii, dSub_ii, dCmp_ii, asB_bl, asI_int, asInt_int, dInt_int, dInt_bl, dLen_tup, dLen_lst, dLen_frz, dMin2_eq, dMax2_eq, dTuple_lst, dTuple_tup, dTuple_frz, dList_lst, dList_tup, dIter_tup, dIter_lst, dIter_frz, dIx_t0, dIx_t1, dIx_t2, dIx_l0, dIx_l1, dIx_l2, dSl_tup, dSl_lst, dEq_ii, dNe_ii, dEq_bb, dNe_bb, dAll_map, dAny_map, List.getElem?_cons_zero, List.getElem?_cons_succ, List.set_cons_zero, List.set_cons_succ, List.length_cons, List.length_nil, Nat.reduceAdd, Nat.zero_add, Nat.reduceSub, List.replicate_succ, List.replicate_zero, List.cons_append, List.nil_append, List.append_nil, reduceIte, if_true, if_false, Bool.false_eq_true, Bool.not_true, Bool.not_false]
            rw [apD_lst 4 rfl (d := prT (nth o.2.2 a, nth o.2.2 b)) (by simp only [xSet, xAsg, xPar, xExpr, xRet, xRetN, xIf, xFor, xRaise, eBin, eCall, eNil, eCons, eTup, eLst, eChain, tVal, tCmp', tChain', eIsN, eNotN, tIsN', tNotN', tNot', tAnd', tOr', eAnd, eOr, eNot, eNeg, eIf, pNone, pSome, eSl, eDef, eIm, eIsi, sSeq, sRg1, sRg2, tYes', gNil', gCons', unpk, wipeE, eD0, eD1, sKeys, eQix, List.map_cons, List.map_nil, gv_eq, sv_eq, mkT_0, mkT_1, mkT_2, mkT_3, mkT_4, mkT_5, mkL_0, mkL_1, mkL_2, mkL_3, mkL_4, mkL_5, cst_eq, okb, excb, nx_ok, nxA_ok, nxO_nx, nxO_rt, out_ok, out_exc, seqO_eq, next_nx, next_rt, next_bk, next_ct, next_exc, wp_nx, wp_rt, wp_exc, wp_bk, wp_ct, wp_next, dAdd_ii, dSub_ii, dCmp_ii, asB_bl, asI_int, asInt_int, dInt_int, dInt_bl, dLen_tup, dLen_lst, dLen_frz, dMin2_eq, dMax2_eq, dTuple_lst, dTuple_tup, dTuple_frz, dList_lst, dList_tup, dIter_tup, dIter_lst, dIter_frz, dIx_t0, dIx_t1, dIx_t2, dIx_l0, dIx_l1, dIx_l2, dSl_tup, dSl_lst, dEq_ii, dNe_ii, dEq_bb, dNe_bb, dAll_map, dAny_map, List.getElem?_cons_zero, List.getElem?_cons_succ, List.set_cons_zero, List.set_cons_succ, List.length_cons, List.length_nil, Nat.reduceAdd, Nat.zero_add, Nat.reduceSub, List.replicate_succ, List.replicate_zero, List.cons_append, List.nil_append, List.append_nil, reduceIte, if_true, if_false, Bool.false_eq_true, Bool.not_true, Bool.not_false, dIx_tN (show a < o.2.2.length by omega), dIx_tN (show b < o.2.2.length by omega)]) (by simp only [List.length_map, List.length_append]; omega)]
            simp only [xSet, xAsg, xPar, xExpr, xRet, xRetN, xIf, xFor, xRaise, eBin, eCall, eNil, eCons, eTup, eLst, eChain, tVal, tCmp', tChain', eIsN, eNotN, tIsN', tNotN', tNot', tAnd', tOr', eAnd, eOr, eNot, eNeg, eIf, pNone, pSome, eSl, eDef, eIm, eIsi, sSeq, sRg1, sRg2, tYes', gNil', gCons', unpk, wipeE, eD0, eD1, sKeys, eQix, List.map_cons, List.map_nil, gv_eq, sv_eq, mkT_0, mkT_1, mkT_2, mkT_3, mkT_4, mkT_5, mkL_0, mkL_1, mkL_2, mkL_3, mkL_4, mkL_5, cst_eq, okb, excb, nx_ok, nxA_ok, nxO_nx, nxO_rt, out_ok, out_exc, seqO_eq, next_nx, next_rt, next_bk, next_ct, next_exc, wp_nx, wp_rt, wp_exc, wp_bk, wp_ct, wp_next, dAdd_ii, dSub_ii, dCmp_ii, asB_bl, asI_int, asInt_int, dInt_int, dInt_bl, dLen_tup, dLen_lst, dLen_frz, dMin2_eq, dMax2_eq, dTuple_lst, dTuple_tup, dTuple_frz, dList_lst, dList_tup, dIter_tup, dIter_lst, dIter_frz, dIx_t0, dIx_t1, dIx_t2, dIx_l0, dIx_l1, dIx_l2, dSl_tup, dSl_lst, dEq_ii, dNe_ii, dEq_bb, dNe_bb, dAll_map, dAny_map, List.getElem?_cons_zero, List.getElem?_cons_succ, List.set_cons_zero, List.set_cons_succ, List.length_cons, List.length_nil, Nat.reduceAdd, Nat.zero_add, Nat.reduceSub, List.replicate_succ, List.replicate_zero, List.cons_append, List.nil_append, List.append_nil, reduceIte, if_true, if_false, Bool.false_eq_true, Bool.not_true, Bool.not_false, map_snoc, k2]
            exact ⟨some (opT o), o13, by rw [nx1, na]; simp⟩
          · by_cases c2 : o.2.1 = 2
            · have tl2 : o.2.2.length = n * n := by rw [tl, c2, Nat.pow_two]
              have na : newsO n a b o = (List.range n).flatMap fun c => [(nth o.2.2 (a * n + c), nth o.2.2 (b * n + c)), (nth o.2.2 (c * n + a), nth o.2.2 (c * n + b))] := by unfold newsO; rw [if_neg c1, if_pos c2]
              have ix : ∀ x y, x < n → y < n → x * n + y < o.2.2.length := fun x y hx hy => by
                rw [tl2]
                have := Nat.mul_le_mul_right n (show x + 1 ≤ n from hx)
                rw [Nat.add_mul, Nat.one_mul] at this
                omega
              have mu : ∀ x, dMul (nD x) (nD n) = .ok (nD (x * n)) := fun x => dMul_nn (by omega)
              have ad : ∀ x y : Nat, dAdd (nD x) (nD y) = .ok (nD (x + y)) := fun x y => dAdd_nn x y
              have k1 : decide ((o.2.1 : Int) = 1) = false := by simp [c2]
              have k2 : decide ((o.2.1 : Int) = 2) = true := by simp [c2]
              simp only [k1, k2, xSet, xAsg, xPar, xExpr, xRet, xRetN, xIf, xFor, xRaise, eBin, eCall, eNil, eCons, eTup, eLst, eChain, tVal, tCmp', tChain', eIsN, eNotN, tIsN', tNotN', tNot', tAnd', tOr', eAnd, eOr, eNot, eNeg, eIf, pNone, pSome, eSl, eDef, eIm, eIsi, sSeq, sRg1, sRg2, tYes', gNil', gCons', unpk, wipeE, eD0, eD1, sKeys, eQix, List.map_cons, List.map_nil, gv_eq, sv_eq, mkT_0, mkT_1, mkT_2, mkT_3, mkT_4, mkT_5, mkL_0, mkL_1, mkL_2, mkL_3, mkL_4, mkL_5, cst_eq, okb, excb, nx_ok, nxA_ok, nxO_nx, nxO_rt, out_ok, out_exc, seqO_eq, next_nx, next_rt, next_bk, next_ct, next_exc, wp_nx, wp_rt, wp_exc, wp_bk, wp_ct, wp_next, dAdd_ii, dSub_ii, dCmp_ii, asB_bl, asI_int, asInt_int, dInt_int, dInt_bl, dLen_tup, dLen_lst, dLen_frz, dMin2_eq, dMax2_eq, dTuple_lst, dTuple_tup, dTuple_frz, dList_lst, dList_tup, dIter_tup, dIter_lst, dIter_frz, dIx_t0, dIx_t1, dIx_t2, dIx_l0, dIx_l1, dIx_l2, dSl_tup, dSl_lst, dEq_ii, dNe_ii, dEq_bb, dNe_bb, dAll_map, dAny_map, List.getElem?_cons_zero, List.getElem?_cons_succ, List.set_cons_zero, List.set_cons_succ, List.length_cons, List.length_nil, Nat.reduceAdd, Nat.zero_add, Nat.reduceSub, List.replicate_succ, List.replicate_zero, List.cons_append, List.nil_append, List.append_nil, reduceIte, if_true, if_false, Bool.false_eq_true, Bool.not_true, Bool.not_false, mkRgI_nat (show n ≤ 1000000000 by omega)]
              refine wp_for nD (fun p3 e => ∃ (o13 : Option D), e = [some (nD n), some (opsT l), some d, some (lN (c.map fun t => if t = hi then lo else t)), some (.lst ((w' ++ news n a b p2 ++ p3.flatMap fun c => [(nth o.2.2 (a * n + c), nth o.2.2 (b * n + c)), (nth o.2.2 (c * n + a), nth o.2.2 (c * n + b))]).map prT)), some (nD x), some (nD lo), some (nD hi), some (opT o), none, some (nD a), some (nD b), none, o13]) (List.range n) ⟨o13, by simp⟩ ?_ ?_
              · rintro p3 y q3 hp3 e ⟨o13, rfl⟩
                obtain ⟨rfl, hy⟩ := range_split hp3
                have hfl : (p3.flatMap fun c => [(nth o.2.2 (a * n + c), nth o.2.2 (b * n + c)), (nth o.2.2 (c * n + a), nth o.2.2 (c * n + b))]).length = 2 * p3.length := by
                  rw [List.length_flatMap]
                  simp [List.map_const', List.sum_replicate_nat]
                  omega
                refine ⟨_, rfl, ?_⟩
                rw [seqO_eq, wp_next, apD_lst 4 rfl (d := prT (nth o.2.2 (a * n + p3.length), nth o.2.2 (b * n + p3.length))) (by simp only [eTup, eCons, eNil, eBin, gv_eq, cst_eq, List.set_cons_succ, List.set_cons_zero, List.getElem?_cons_succ, List.getElem?_cons_zero, okb, dIx_t2, nx_ok, mu, ad, dIx_tN (ix a p3.length ha hy), dIx_tN (ix b p3.length hb' hy), mkT_2]) (by simp only [List.length_map, List.length_append, hfl]; omega)]
                simp only [wp_nx, List.set_cons_succ, List.set_cons_zero, map_snoc]
                rw [seqO_eq, wp_next, apD_lst 4 rfl (d := prT (nth o.2.2 (p3.length * n + a), nth o.2.2 (p3.length * n + b))) (by simp only [eTup, eCons, eNil, eBin, gv_eq, cst_eq, List.set_cons_succ, List.set_cons_zero, List.getElem?_cons_succ, List.getElem?_cons_zero, okb, dIx_t2, nx_ok, mu, ad, dIx_tN (ix p3.length a hy ha), dIx_tN (ix p3.length b hy hb'), mkT_2]) (by simp only [List.length_map, List.length_append, hfl, List.length_singleton]; omega)]
                simp only [wp_nx, List.set_cons_succ, List.set_cons_zero, map_snoc]
                exact ⟨some (nD p3.length), by simp⟩
              · rintro e ⟨o13, rfl⟩
                simp only [xSet, xAsg, xPar, xExpr, xRet, xRetN, xIf, xFor, xRaise, eBin, eCall, eNil, eCons, eTup, eLst, eChain, tVal, tCmp', tChain', eIsN, eNotN, tIsN', tNotN', tNot', tAnd', tOr', eAnd, eOr, eNot, eNeg, eIf, pNone, pSome, eSl, eDef, eIm, eIsi, sSeq, sRg1, sRg2, tYes', gNil', gCons', unpk, wipeE, eD0, eD1, sKeys, eQix, List.map_cons, List.map_nil, gv_eq, sv_eq, mkT_0, mkT_1, mkT_2, mkT_3, mkT_4, mkT_5, mkL_0, mkL_1, mkL_2, mkL_3, mkL_4, mkL_5, cst_eq, okb, excb, nx_ok, nxA_ok, nxO_nx, nxO_rt, out_ok, out_exc, seqO_eq, next_nx, next_rt, next_bk, next_ct, next_exc, wp_nx, wp_rt, wp_exc, wp_bk, wp_ct, wp_next, dAdd_ii, dSub_ii, dCmp_ii, asB_bl, asI_int, asInt_int, dInt_int, dInt_bl, dLen_tup, dLen_lst, dLen_frz, dMin2_eq, dMax2_eq, dTuple_lst, dTuple_tup, dTuple_frz, dList_lst, dList_tup, dIter_tup, dIter_lst, dIter_frz, dIx_t0, dIx_t1, dIx_t2, dIx_l0, dIx_l1, dIx_l2, dSl_tup, dSl_lst, dEq_ii, dNe_ii, dEq_bb, dNe_bb, dAll_map, dAny_map, List.getElem?_cons_zero, List.getElem?_cons_succ, List.set_cons_zero, List.set_cons_succ, List.length_cons, List.length_nil, Nat.reduceAdd, Nat.zero_add, Nat.reduceSub, List.replicate_succ, List.replicate_zero, List.cons_append, List.nil_append, List.append_nil, reduceIte, if_true, if_false, Bool.false_eq_true, Bool.not_true, Bool.not_false]
                exact ⟨some (opT o), o13, by rw [nx1, na]; simp⟩
            · have c0 : o.2.1 = 0 := by omega
              have na : newsO n a b o = [] := by unfold newsO; rw [if_neg c1, if_neg c2]
              have k1 : decide ((o.2.1 : Int) = 1) = false := by simp [c0]
              have k2 : decide ((o.2.1 : Int) = 2) = false := by simp [c0]
              simp only [k1, k2, xSet, xAsg, xPar, xExpr, xRet, xRetN, xIf, xFor, xRaise, eBin, eCall, eNil, eCons, eTup, eLst, eChain, tVal, tCmp', tChain', eIsN, eNotN, tIsN', tNotN', tNot', tAnd', tOr', eAnd, eOr, eNot, eNeg, eIf, pNone, pSome, eSl, eDef, eIm, eIsi, sSeq, sRg1, sRg2, tYes', gNil', gCons', unpk, wipeE, eD0, eD1, sKeys, eQix, List.map_cons, List.map_nil, gv_eq, sv_eq, mkT_0, mkT_1, mkT_2, mkT_3, mkT_4, mkT_5, mkL_0, mkL_1, mkL_2, mkL_3, mkL_4, mkL_5, cst_eq, okb, excb, nx_ok, nxA_ok, nxO_nx, nxO_rt, out_ok, out_exc, seqO_eq, next_nx, next_rt, next_bk, next_ct, next_exc, wp_nx, wp_rt, wp_exc, wp_bk, wp_ct, wp_next, dAdd_ii, dSub_ii, dCmp_ii, asB_bl, asI_int, asInt_int, dInt_int, dInt_bl, dLen_tup, dLen_lst, dLen_frz, dMin2_eq, dMax2_eq, dTuple_lst, dTuple_tup, dTuple_frz, dList_lst, dList_tup, dIter_tup, dIter_lst, dIter_frz, dIx_t0, dIx_t1, dIx_t2, dIx_l0, dIx_l1, dIx_l2, dSl_tup, dSl_lst, dEq_ii, dNe_ii, dEq_bb, dNe_bb, dAll_map, dAny_map, List.getElem?_cons_zero, List.getElem?_cons_succ, List.set_cons_zero, List.set_cons_succ, List.length_cons, List.length_nil, Nat.reduceAdd, Nat.zero_add, Nat.reduceSub, List.replicate_succ, List.replicate_zero, List.cons_append, List.nil_append, List.append_nil, reduceIte, if_true, if_false, Bool.false_eq_true, Bool.not_true, Bool.not_false]
              exact ⟨some (opT o), o13, by rw [nx1, na]; simp⟩
        · rintro e ⟨o8, o13, rfl⟩
          simp only [xSet, xAsg, xPar, xExpr, xRet, xRetN, xIf, xFor, xRaise, eBin, eCall, eNil, eCons, eTup, eLst, eChain, tVal, tCmp', tChain', eIsN, eNotN, tIsN', tNotN', tNot', tAnd', tOr', eAnd, eOr, eNot, eNeg, eIf, pNone, pSome, eSl, eDef, eIm, eIsi, sSeq, sRg1, sRg2, tYes', gNil', gCons', unpk, wipeE, eD0, eD1, sKeys, eQix, List.map_cons, List.map_nil, gv_eq, sv_eq, mkT_0, mkT_1, mkT_2, mkT_3, mkT_4, mkT_5, mkL_0, mkL_1, mkL_2, mkL_3, mkL_4, mkL_5, cst_eq, okb, excb, nx_ok, nxA_ok, nxO_nx, nxO_rt, out_ok, out_exc, seqO_eq, next_nx, next_rt, next_bk, next_ct, next_exc, wp_nx, wp_rt, wp_exc, wp_bk, wp_ct, wp_next, dAdd_ii, dSub_ii, dCmp_ii, asB_bl, asI_int, asInt_int, dInt_int, dInt_bl, dLen_tup, dLen_lst, dLen_frz, dMin2_eq, dMax2_eq, dTuple_lst, dTuple_tup, dTuple_frz, dList_lst, dList_tup, dIter_tup, dIter_lst, dIter_frz, dIx_t0, dIx_t1, dIx_t2, dIx_l0, dIx_l1, dIx_l2, dSl_tup, dSl_lst, dEq_ii, dNe_ii, dEq_bb, dNe_bb, dAll_map, dAny_map, List.getElem?_cons_zero, List.getElem?_cons_succ, List.set_cons_zero, List.set_cons_succ, List.length_cons, List.length_nil, Nat.reduceAdd, Nat.zero_add, Nat.reduceSub, List.replicate_succ, List.replicate_zero, List.cons_append, List.nil_append, List.append_nil, reduceIte, if_true, if_false, Bool.false_eq_true, Bool.not_true, Bool.not_false]
          refine ⟨_, _, Gp G a b, _, _, _, _, _, _, _, rfl, hC2, hJ2, ?_⟩
          have := news_len (a := a) (b := b) h8 l
          simp at hb ⊢
          omega
  · rintro e ⟨c, w, G, o5, o6, o7, o8, o10, o11, o13, rfl, hC, hJ, hb⟩
    rw [hL] at hb
    omega
end Lw

/-! Joinings, the plain law: rows of classes, their order, all of them. -/
namespace Lw
open DL
/-- a row of classes in form -/
structure Form (n : Nat) (c : List Nat) : Prop where
  len : c.length = n
  le : ∀ x, x < n → nth c x ≤ x
  idem : ∀ x, x < n → nth c (nth c x) = nth c x
/-- .. that the moves go along with -/
def JJ (n : Nat) (R : List (List Nat)) (c : List Nat) : Prop := Form n c ∧ ∀ r ∈ R, ∀ a b, a < n → b < n → nth c a = nth c b → nth c (nth r a) = nth c (nth r b)
/-- what the one joins, the other joins -/
def Bel (n : Nat) (c d : List Nat) : Prop := ∀ x, x < n → nth d x = nth d (nth c x)
theorem Form.lt {n : Nat} {c : List Nat} (h : Form n c) {x : Nat} (hx : x < n) : nth c x < n := by have := h.le x hx; omega
theorem bel_iff {n : Nat} {c d : List Nat} (h : Form n c) : Bel n c d ↔ ∀ a b, a < n → b < n → nth c a = nth c b → nth d a = nth d b := by
  constructor
  · intro k a b ha hb e
    rw [k a ha, k b hb, e]
  · intro k x hx
    exact k x _ hx (h.lt hx) (h.idem x hx).symm
theorem Bel.refl {n : Nat} {c : List Nat} (h : Form n c) : Bel n c c := fun x hx => (h.idem x hx).symm
theorem Bel.trans {n : Nat} {c d e : List Nat} (h : Form n c) (h' : Form n d) (h1 : Bel n c d) (h2 : Bel n d e) : Bel n c e := by
  rw [bel_iff h] at h1 ⊢
  rw [bel_iff h'] at h2
  exact fun a b ha hb q => h2 a b ha hb (h1 a b ha hb q)
theorem Bel.antisymm {n : Nat} {c d : List Nat} (h : Form n c) (h' : Form n d) (h1 : Bel n c d) (h2 : Bel n d c) : c = d := by
  refine nth_ext (by rw [h.len, h'.len]) fun x hx => ?_
  rw [h.len] at hx
  have a1 := h1 x hx
  have a2 := h2 x hx
  have b1 := h'.le _ (h.lt hx)
  have b2 := h.le _ (h'.lt hx)
  omega
/-- the least joining that holds pairs -/
theorem Can.form {n : Nat} {E : Nat → Nat → Prop} {c : List Nat} (h : Can n E c) : Form n c := ⟨h.len, h.le, fun _ hx => h.idem hx⟩
theorem can_rel {n : Nat} {R : List (List Nat)} {W : Nat → Nat → Prop} {c : List Nat} (h : Can n (Cg n (· ∈ R) W) c) {a b : Nat} (ha : a < n) (hb : b < n) : nth c a = nth c b ↔ Cg n (· ∈ R) W a b := by
  constructor
  · intro e
    have h1 := h.mem a ha
    have h2 := h.mem b hb
    rw [e] at h1
    exact .tr h1 (.sm h2)
  · exact h.least a b ha hb
theorem can_jj {n : Nat} {R : List (List Nat)} {W : Nat → Nat → Prop} {c : List Nat} (hr : ∀ r ∈ R, ∀ a, a < n → nth r a < n) (h : Can n (Cg n (· ∈ R) W) c) : JJ n R c :=
  ⟨h.form, fun r hr1 a b ha hb e => (can_rel h (hr r hr1 a ha) (hr r hr1 b hb)).mpr (.mv hr1 ((can_rel h ha hb).mp e))⟩
theorem jj_cg {n : Nat} {R : List (List Nat)} {W : Nat → Nat → Prop} {d : List Nat} (hr : ∀ r ∈ R, ∀ a, a < n → nth r a < n) (h : JJ n R d) (hW : ∀ a b, W a b → a < n ∧ b < n ∧ nth d a = nth d b) {a b : Nat} (e : Cg n (· ∈ R) W a b) : a < n ∧ b < n ∧ nth d a = nth d b := by
  induction e with
  | pr h1 => exact hW _ _ h1
  | rf h1 => exact ⟨h1, h1, rfl⟩
  | sm _ ih => exact ⟨ih.2.1, ih.1, ih.2.2.symm⟩
  | tr _ _ i1 i2 => exact ⟨i1.1, i2.2.1, i1.2.2.trans i2.2.2⟩
  | mv hm _ ih => exact ⟨hr _ hm _ ih.1, hr _ hm _ ih.2.1, h.2 _ hm _ _ ih.1 ih.2.1 ih.2.2⟩
/-- .. is below all that hold them -/
theorem can_bel {n : Nat} {R : List (List Nat)} {W : Nat → Nat → Prop} {c d : List Nat} (hr : ∀ r ∈ R, ∀ a, a < n → nth r a < n) (h : Can n (Cg n (· ∈ R) W) c) (k : JJ n R d) (hW : ∀ a b, W a b → a < n ∧ b < n ∧ nth d a = nth d b) : Bel n c d := by
  rw [bel_iff h.form]
  exact fun a b ha hb e => (jj_cg hr k hW ((can_rel h ha hb).mp e)).2.2
/-- one that joins nothing -/
theorem form_id (n : Nat) : Form n (List.range n) := by
  have e : ∀ x, x < n → nth (List.range n) x = x := fun x hx => by
    unfold nth
    rw [List.getD_eq_getElem?_getD, List.getElem?_range hx]
    rfl
  exact ⟨by simp, fun x hx => by rw [e x hx]; exact Nat.le_refl _, fun x hx => by rw [e x hx, e x hx]⟩
theorem nth_id {n x : Nat} (hx : x < n) : nth (List.range n) x = x := by
  unfold nth
  rw [List.getD_eq_getElem?_getD, List.getElem?_range hx]
  rfl
theorem bel_id {n : Nat} {c : List Nat} : Bel n (List.range n) c := fun x hx => by rw [nth_id hx]
/-- what joins something joins two different things -/
theorem form_ne {n : Nat} {c : List Nat} (h : Form n c) (k : c ≠ List.range n) : ∃ a b, a < b ∧ b < n ∧ nth c a = nth c b := by
  refine Classical.byContradiction fun no => k (nth_ext (by rw [h.len]; simp) fun x hx => ?_)
  rw [h.len] at hx
  rw [nth_id hx]
  have h1 := h.le x hx
  refine Classical.byContradiction fun ne => no ⟨nth c x, x, by omega, hx, h.idem x hx⟩
/-! ### all rows of classes -/
def leastsF (row : List Nat) (k : Nat) : List Nat := (List.range k).filter fun m => nth row m == m
def allF : Nat → List (List Nat)
  | 0 => [[]]
  | k + 1 => (allF k).flatMap fun row => (leastsF row k ++ [k]).map fun t => row ++ [t]
theorem nth_app {a : List Nat} {t x : Nat} (h : x < a.length) : nth (a ++ [t]) x = nth a x := by
  unfold nth
  rw [List.getD_eq_getElem?_getD, List.getD_eq_getElem?_getD, List.getElem?_append_left h]
theorem nth_take {c : List Nat} {k x : Nat} (h : x < k) : nth (c.take k) x = nth c x := by
  unfold nth
  rw [List.getD_eq_getElem?_getD, List.getD_eq_getElem?_getD, List.getElem?_take_of_lt h]
theorem nth_last {a : List Nat} {t : Nat} : nth (a ++ [t]) a.length = t := by
  unfold nth
  rw [List.getD_eq_getElem?_getD, List.getElem?_append_right (Nat.le_refl _)]
  simp
theorem allF_mem : ∀ {k : Nat} {c : List Nat}, c ∈ allF k ↔ Form k c
  | 0, c => by
    unfold allF
    constructor
    · intro h
      have : c = [] := by simpa using h
      subst this
      exact ⟨rfl, fun x hx => absurd hx (by omega), fun x hx => absurd hx (by omega)⟩
    · intro h
      have : c = [] := List.eq_nil_of_length_eq_zero h.len
      simp [this]
  | k + 1, c => by
    unfold allF
    rw [List.mem_flatMap]
    constructor
    · rintro ⟨row, hr, h⟩
      obtain ⟨t, ht, rfl⟩ := List.mem_map.mp h
      have F := allF_mem.mp hr
      have ht' : (t < k ∧ nth row t = t) ∨ t = k := by
        rcases List.mem_append.mp ht with h | h
        · unfold leastsF at h
          rw [List.mem_filter] at h
          exact .inl ⟨List.mem_range.mp h.1, by simpa using h.2⟩
        · exact .inr (by simpa using h)
      have last : nth (row ++ [t]) k = t := by rw [← F.len]; exact nth_last
      refine ⟨by simp [F.len], fun x hx => ?_, fun x hx => ?_⟩
      · by_cases e : x = k
        · subst e; rw [last]; omega
        · rw [nth_app (by rw [F.len]; omega)]; exact F.le x (by omega)
      · by_cases e : x = k
        · subst e
          rw [last]
          rcases ht' with ⟨h1, h2⟩ | h1
          · rw [nth_app (by rw [F.len]; omega)]; exact h2
          · subst h1; exact last
        · have hx' : x < k := by omega
          have := F.le x hx'
          have e1 : nth (row ++ [t]) x = nth row x := nth_app (by rw [F.len]; exact hx')
          rw [e1, nth_app (by rw [F.len]; omega)]
          exact F.idem x hx'
    · intro h
      have hl := h.len
      refine ⟨c.take k, allF_mem.mpr ⟨by simp [hl], fun x hx => ?_, fun x hx => ?_⟩, ?_⟩
      · have e : nth (c.take k) x = nth c x := nth_take hx
        rw [e]; exact h.le x (by omega)
      · have e : ∀ x, x < k → nth (c.take k) x = nth c x := fun x hx => nth_take hx
        have := h.le x (by omega)
        rw [e x hx, e _ (by omega)]
        exact h.idem x (by omega)
      · refine List.mem_map.mpr ⟨nth c k, ?_, ?_⟩
        · by_cases e : nth c k = k
          · rw [e]; simp
          · refine List.mem_append_left _ ?_
            have h1 := h.le k (by omega)
            unfold leastsF
            rw [List.mem_filter]
            refine ⟨List.mem_range.mpr (by omega), ?_⟩
            have e2 : nth (c.take k) (nth c k) = nth c (nth c k) := nth_take (by omega)
            rw [e2, h.idem k (by omega)]
            simp
        · have : c = c.take k ++ c.drop k := (List.take_append_drop k c).symm
          have e3 : c.drop k = [nth c k] := by
            rw [List.drop_eq_getElem_cons (by omega), List.drop_of_length_le (by omega)]
            unfold nth
            rw [List.getD_eq_getElem?_getD, List.getElem?_eq_getElem (by omega)]
            rfl
          rw [← e3]
          exact this.symm
theorem leastsF_nd (row : List Nat) (k : Nat) : (leastsF row k ++ [k]).Nodup := by
  rw [List.nodup_append]
  refine ⟨List.Nodup.sublist List.filter_sublist List.nodup_range, by simp, fun a ha b hb => ?_⟩
  unfold leastsF at ha
  rw [List.mem_filter] at ha
  have := List.mem_range.mp ha.1
  have : b = k := by simpa using hb
  omega
theorem nodup_flat {α β : Type} {l : List α} {f : α → List β} (h : l.Nodup) (h1 : ∀ a ∈ l, (f a).Nodup) (h2 : ∀ a ∈ l, ∀ b ∈ l, a ≠ b → ∀ x, x ∈ f a → x ∈ f b → False) : (l.flatMap f).Nodup := by
  induction l with
  | nil => simp
  | cons a l ih =>
    rw [List.nodup_cons] at h
    rw [List.flatMap_cons, List.nodup_append]
    refine ⟨h1 a (by simp), ih h.2 (fun b hb => h1 b (by simp [hb])) (fun b hb c hc => h2 b (by simp [hb]) c (by simp [hc])), fun x hx y hy e => ?_⟩
    subst e
    obtain ⟨b, hb, hy⟩ := List.mem_flatMap.mp hy
    exact h2 a (by simp) b (by simp [hb]) (fun e => h.1 (e ▸ hb)) x hx hy
theorem allF_nd : ∀ k, (allF k).Nodup
  | 0 => by simp [allF]
  | k + 1 => by
    unfold allF
    refine nodup_flat (allF_nd k) (fun row hr => ?_) (fun a ha b hb ne x hx hy => ?_)
    · rw [List.nodup_iff_pairwise_ne, List.pairwise_map]
      exact (List.nodup_iff_pairwise_ne.mp (leastsF_nd row k)).imp fun h e => h (by simpa using e)
    · obtain ⟨t, _, rfl⟩ := List.mem_map.mp hx
      obtain ⟨u, _, e⟩ := List.mem_map.mp hy
      have l1 := (allF_mem.mp ha).len
      have l2 := (allF_mem.mp hb).len
      exact ne (List.append_inj_left e (by omega)).symm
theorem allF_len : ∀ k, (allF (k + 1)).length ≤ (k + 1) * (allF k).length := fun k => by
  rw [show allF (k + 1) = (allF k).flatMap fun row => (leastsF row k ++ [k]).map fun t => row ++ [t] from rfl, List.length_flatMap]
  have : ∀ l : List (List Nat), (l.map fun row => ((leastsF row k ++ [k]).map fun t => row ++ [t]).length).sum ≤ (k + 1) * l.length := by
    intro l
    induction l with
    | nil => simp
    | cons a l ih =>
      rw [List.map_cons, List.sum_cons, List.length_cons, Nat.mul_succ]
      have h1 : (leastsF a k).length ≤ k := by
        have := List.length_filter_le (fun m => nth a m == m) (List.range k)
        simpa [leastsF] using this
      simp only [List.length_map, List.length_append, List.length_singleton] at ih ⊢
      omega
  exact this _
theorem allF_small {n : Nat} (hn : n ≤ 8) {k : Nat} (hk : k ≤ n) : (allF k).length ≤ 40320 := by
  have l0 : (allF 0).length = 1 := rfl
  have l1 : (allF 1).length ≤ 1 * (allF 0).length := allF_len 0
  have l2 : (allF 2).length ≤ 2 * (allF 1).length := allF_len 1
  have l3 : (allF 3).length ≤ 3 * (allF 2).length := allF_len 2
  have l4 : (allF 4).length ≤ 4 * (allF 3).length := allF_len 3
  have l5 : (allF 5).length ≤ 5 * (allF 4).length := allF_len 4
  have l6 : (allF 6).length ≤ 6 * (allF 5).length := allF_len 5
  have l7 : (allF 7).length ≤ 7 * (allF 6).length := allF_len 6
  have l8 : (allF 8).length ≤ 8 * (allF 7).length := allF_len 7
  have : k = 0 ∨ k = 1 ∨ k = 2 ∨ k = 3 ∨ k = 4 ∨ k = 5 ∨ k = 6 ∨ k = 7 ∨ k = 8 := by omega
  rcases this with rfl | rfl | rfl | rfl | rfl | rfl | rfl | rfl | rfl <;> omega
end Lw

/-! Stepping through a block, one statement after the other. -/
namespace DL
theorem wp_set {i : Nat} {a : Env → R D} {rest : Env → Out} {e : Env} {Q : Po} {d : D} (h : a e = .ok d) (k : (rest (e.set i (some d))).wp Q) : (seqO (xSet i a) rest e).wp Q := by
  rw [seqO_eq]
  simp only [xSet, h, out_ok, next_nx]
  exact k
theorem wp_expr {a : Env → R D} {rest : Env → Out} {e : Env} {Q : Po} {d : D} (h : a e = .ok d) (k : (rest e).wp Q) : (seqO (xExpr a) rest e).wp Q := by
  rw [seqO_eq]
  simp only [xExpr, h, out_ok, next_nx]
  exact k
theorem wp_asg {a : Env → R D} {tgt : D → Env → R Env} {rest : Env → Out} {e e' : Env} {Q : Po} {d : D} (h : a e = .ok d) (h2 : tgt d e = .ok e') (k : (rest e').wp Q) : (seqO (xAsg a tgt) rest e).wp Q := by
  rw [seqO_eq]
  simp only [xAsg, h, out_ok, h2, nxA_ok, next_nx]
  exact k
theorem wp_ret {a : Env → R D} {rest : Env → Out} {e : Env} {Q : Po} {d : D} (h : a e = .ok d) (k : Q.rt d) : (seqO (xRet a) rest e).wp Q := by
  rw [seqO_eq]
  simp only [xRet, h, out_ok, next_rt]
  exact k
theorem wp_retE {a : Env → R D} {rest : Env → Out} {e : Env} {Q : Po} {c : PySem.Str} (h : a e = .exc c) (k : Q.exc c) : (seqO (xRet a) rest e).wp Q := by
  rw [seqO_eq]
  simp only [xRet, h, out_exc, next_exc]
  exact k
theorem wp_setE {i : Nat} {a : Env → R D} {rest : Env → Out} {e : Env} {Q : Po} {c : PySem.Str} (h : a e = .exc c) (k : Q.exc c) : (seqO (xSet i a) rest e).wp Q := by
  rw [seqO_eq]
  simp only [xSet, h, out_exc, next_exc]
  exact k
theorem wp_exprE {a : Env → R D} {rest : Env → Out} {e : Env} {Q : Po} {c : PySem.Str} (h : a e = .exc c) (k : Q.exc c) : (seqO (xExpr a) rest e).wp Q := by
  rw [seqO_eq]
  simp only [xExpr, h, out_exc, next_exc]
  exact k
theorem wp_no {t : Env → R Bool} {d1 rest : Env → Out} {e : Env} {Q : Po} (h : t e = .ok false) (k : (rest e).wp Q) : (seqO (xIf t d1 Out.nx) rest e).wp Q := by
  rw [seqO_eq]
  simp only [xIf, h, out_ok, if_false, Bool.false_eq_true, next_nx]
  exact k
/-- a branch that is taken, and goes on -/
theorem wp_yes {t : Env → R Bool} {d1 d2 rest : Env → Out} {e : Env} {Q : Po} (h : t e = .ok true) (k : (d1 e).wp ⟨fun e' => (rest e').wp Q, Q.rt, Q.exc, Q.bk, Q.ct⟩) : (seqO (xIf t d1 d2) rest e).wp Q := by
  rw [seqO_eq, wp_next]
  simp only [xIf, h, out_ok, if_true]
  exact k
theorem wp_els {t : Env → R Bool} {d1 d2 rest : Env → Out} {e : Env} {Q : Po} (h : t e = .ok false) (k : (d2 e).wp ⟨fun e' => (rest e').wp Q, Q.rt, Q.exc, Q.bk, Q.ct⟩) : (seqO (xIf t d1 d2) rest e).wp Q := by
  rw [seqO_eq, wp_next]
  simp only [xIf, h, out_ok, if_false, Bool.false_eq_true]
  exact k
theorem wp_loop {src : Env → R (List D)} {tgt : D → Env → R Env} {body rest : Env → Out} {e : Env} {Q : Po} {l : List D} (h : src e = .ok l) (k : (forD tgt body l e).wp ⟨fun e' => (rest e').wp Q, Q.rt, Q.exc, Q.bk, Q.ct⟩) : (seqO (xFor src tgt body) rest e).wp Q := by
  rw [seqO_eq, wp_next]
  simp only [xFor, h, out_ok]
  exact k
theorem wp_seq {a rest : Env → Out} {e : Env} {Q : Po} (k : (a e).wp ⟨fun e' => (rest e').wp Q, Q.rt, Q.exc, Q.bk, Q.ct⟩) : (seqO a rest e).wp Q := by
  rw [seqO_eq, wp_next]
  exact k
theorem wp_end {e : Env} {Q : Po} (k : Q.nx e) : (Out.nx e).wp Q := k
theorem wp_mono {o : Out} {Q Q' : Po} (h : o.wp Q) (h1 : ∀ e, Q.nx e → Q'.nx e) (h2 : ∀ d, Q.rt d → Q'.rt d) (h3 : ∀ c, Q.exc c → Q'.exc c) (h4 : ∀ e, Q.bk e → Q'.bk e) (h5 : ∀ e, Q.ct e → Q'.ct e) : o.wp Q' := by
  cases o with
  | nx e => exact h1 e h
  | rt d => exact h2 d h
  | exc c e => exact h3 c h
  | bk e => exact h4 e h
  | ct e => exact h5 e h
  | bad => exact h.elim
theorem mkL_6 (x0 x1 x2 x3 x4 x5 : D) : mkL [x0, x1, x2, x3, x4, x5] = .ok (.lst [x0, x1, x2, x3, x4, x5]) := mkL_eq (by simp)
theorem mkL_7 (x0 x1 x2 x3 x4 x5 x6 : D) : mkL [x0, x1, x2, x3, x4, x5, x6] = .ok (.lst [x0, x1, x2, x3, x4, x5, x6]) := mkL_eq (by simp)
theorem mkL_8 (x0 x1 x2 x3 x4 x5 x6 x7 : D) : mkL [x0, x1, x2, x3, x4, x5, x6, x7] = .ok (.lst [x0, x1, x2, x3, x4, x5, x6, x7]) := mkL_eq (by simp)
theorem mkL_9 (x0 x1 x2 x3 x4 x5 x6 x7 x8 : D) : mkL [x0, x1, x2, x3, x4, x5, x6, x7, x8] = .ok (.lst [x0, x1, x2, x3, x4, x5, x6, x7, x8]) := mkL_eq (by simp)
end DL


namespace Lw
open PySem PySem.Spec PyProof.Rows L2 DL
abbrev tI (r : List Int) : D := .tup (r.map D.int)
abbrev cI (c : List Nat) : List Int := c.map fun (x : Nat) => (x : Int)
theorem tI_c (c : List Nat) : tI (cI c) = tN c := by
  show D.tup _ = D.tup _
  rw [List.map_map]
  rfl
theorem cI_inj {a b : List Nat} (h : cI a = cI b) : a = b := by
  have e : ∀ c : List Nat, (cI c).map Int.toNat = c := fun c => by
    rw [cI, List.map_map]
    exact List.map_id'' (fun x => by simp) c
  rw [← e a, ← e b, h]
/-- the form of a row of classes -/
def shL (n : Nat) (r : List Int) : Bool := (List.range n).all fun (k : Nat) => decide (0 ≤ at0 r k) && decide (at0 r k ≤ k)
def shI (n : Nat) (r : List Int) : Bool := (List.range n).all fun (k : Nat) => decide (at0 r (at0 r k) = at0 r k)
def sh (n : Nat) (r : List Int) : Bool := decide (r.length = n) && shL n r && shI n r
theorem shL_at {n : Nat} {r : List Int} (h : shL n r = true) {k : Nat} (hk : k < n) : 0 ≤ at0 r k ∧ at0 r k ≤ k := by
  have := List.all_eq_true.mp h k (List.mem_range.mpr hk)
  simpa using this
theorem is_eq_eq {n : Nat} {r : List Int} (hn : n ≤ 1000) : F_is_equivalence [nD n, tI r] = .ok (.bl (sh n r)) := by
  refine fn_wp rfl ?_
  simp only [den_is_equivalence, xSet, xAsg, xPar, xExpr, xRet, xRetN, xIf, xFor, xRaise, eBin, eCall, eNil, eCons, eTup, eLst, eChain, tVal, tCmp', tChain', eIsN, eNotN, tIsN', tNotN', tNot', tAnd', tOr', eAnd, eOr, eNot, eNeg, eIf, pNone, pSome, eSl, eDef, eIm, eIsi, sSeq, sRg1, sRg2, tYes', gNil', gCons', unpk, wipeE, eD0, eD1, sKeys, eQix, List.map_cons, List.map_nil, gv_eq, sv_eq, mkT_0, mkT_1, mkT_2, mkT_3, mkT_4, mkT_5, mkL_0, mkL_1, mkL_2, mkL_3, mkL_4, mkL_5, cst_eq, okb, excb, nx_ok, nxA_ok, nxO_nx, nxO_rt, out_ok, out_exc, seqO_eq, next_nx, next_rt, next_bk, next_ct, next_exc, wp_nx, wp_rt, wp_exc, wp_bk, wp_ct, wp_next, dAdd_ii, dSub_ii, dCmp_ii, asB_bl, asI_int, asInt_int, dInt_int, dInt_bl, dLen_tup, dLen_lst, dLen_frz, dMin2_eq, dMax2_eq, dTuple_lst, dTuple_tup, dTuple_frz, dList_lst, dList_tup, dIter_tup, dIter_lst, dIter_frz, dIx_t0, dIx_t1, dIx_t2, dIx_l0, dIx_l1, dIx_l2, dSl_tup, dSl_lst, dEq_ii, dNe_ii, dEq_bb, dNe_bb, dAll_map, dAny_map, List.getElem?_cons_zero, List.getElem?_cons_succ, List.set_cons_zero, List.set_cons_succ, List.length_cons, List.length_nil, Nat.reduceAdd, Nat.zero_add, Nat.reduceSub, List.replicate_succ, List.replicate_zero, List.cons_append, List.nil_append, List.append_nil, reduceIte, if_true, if_false, Bool.false_eq_true, Bool.not_true, Bool.not_false, List.length_map]
  by_cases hl : r.length = n
  · have hl' : ¬ ((r.length : Int) ≠ (n : Int)) := by omega
    simp only [decide_eq_false hl', xSet, xAsg, xPar, xExpr, xRet, xRetN, xIf, xFor, xRaise, eBin, eCall, eNil, eCons, eTup, eLst, eChain, tVal, tCmp', tChain', eIsN, eNotN, tIsN', tNotN', tNot', tAnd', tOr', eAnd, eOr, eNot, eNeg, eIf, pNone, pSome, eSl, eDef, eIm, eIsi, sSeq, sRg1, sRg2, tYes', gNil', gCons', unpk, wipeE, eD0, eD1, sKeys, eQix, List.map_cons, List.map_nil, gv_eq, sv_eq, mkT_0, mkT_1, mkT_2, mkT_3, mkT_4, mkT_5, mkL_0, mkL_1, mkL_2, mkL_3, mkL_4, mkL_5, cst_eq, okb, excb, nx_ok, nxA_ok, nxO_nx, nxO_rt, out_ok, out_exc, seqO_eq, next_nx, next_rt, next_bk, next_ct, next_exc, wp_nx, wp_rt, wp_exc, wp_bk, wp_ct, wp_next, dAdd_ii, dSub_ii, dCmp_ii, asB_bl, asI_int, asInt_int, dInt_int, dInt_bl, dLen_tup, dLen_lst, dLen_frz, dMin2_eq, dMax2_eq, dTuple_lst, dTuple_tup, dTuple_frz, dList_lst, dList_tup, dIter_tup, dIter_lst, dIter_frz, dIx_t0, dIx_t1, dIx_t2, dIx_l0, dIx_l1, dIx_l2, dSl_tup, dSl_lst, dEq_ii, dNe_ii, dEq_bb, dNe_bb, dAll_map, dAny_map, List.getElem?_cons_zero, List.getElem?_cons_succ, List.set_cons_zero, List.set_cons_succ, List.length_cons, List.length_nil, Nat.reduceAdd, Nat.zero_add, Nat.reduceSub, List.replicate_succ, List.replicate_zero, List.cons_append, List.nil_append, List.append_nil, reduceIte, if_true, if_false, Bool.false_eq_true, Bool.not_true, Bool.not_false]
    have e1 : eLc [2] (sRg1 (gv 0)) (sv 2) tYes' (eChain (dCmp fun i j => decide (i ≤ j)) (dCmp fun i j => decide (i ≤ j)) (cst (.int 0)) (eBin dIx (gv 1) (gv 2)) (gv 2)) [some (nD n), some (tI r), none] = .ok (.lst ((List.range n).map fun (k : Nat) => D.bl (decide (0 ≤ at0 r k) && decide (at0 r k ≤ k)))) := by
      rw [eLc_map nD (fun (k : Nat) => D.bl (decide (0 ≤ at0 r k) && decide (at0 r k ≤ k))) (List.range n) (by simp only [xSet, xAsg, xPar, xExpr, xRet, xRetN, xIf, xFor, xRaise, eBin, eCall, eNil, eCons, eTup, eLst, eChain, tVal, tCmp', tChain', eIsN, eNotN, tIsN', tNotN', tNot', tAnd', tOr', eAnd, eOr, eNot, eNeg, eIf, pNone, pSome, eSl, eDef, eIm, eIsi, sSeq, sRg1, sRg2, tYes', gNil', gCons', unpk, wipeE, eD0, eD1, sKeys, eQix, List.map_cons, List.map_nil, gv_eq, sv_eq, mkT_0, mkT_1, mkT_2, mkT_3, mkT_4, mkT_5, mkL_0, mkL_1, mkL_2, mkL_3, mkL_4, mkL_5, cst_eq, okb, excb, nx_ok, nxA_ok, nxO_nx, nxO_rt, out_ok, out_exc, seqO_eq, next_nx, next_rt, next_bk, next_ct, next_exc, wp_nx, wp_rt, wp_exc, wp_bk, wp_ct, wp_next, dAdd_ii, dSub_ii, dCmp_ii, asB_bl, asI_int, asInt_int, dInt_int, dInt_bl, dLen_tup, dLen_lst, dLen_frz, dMin2_eq, dMax2_eq, dTuple_lst, dTuple_tup, dTuple_frz, dList_lst, dList_tup, dIter_tup, dIter_lst, dIter_frz, dIx_t0, dIx_t1, dIx_t2, dIx_l0, dIx_l1, dIx_l2, dSl_tup, dSl_lst, dEq_ii, dNe_ii, dEq_bb, dNe_bb, dAll_map, dAny_map, List.getElem?_cons_zero, List.getElem?_cons_succ, List.set_cons_zero, List.set_cons_succ, List.length_cons, List.length_nil, Nat.reduceAdd, Nat.zero_add, Nat.reduceSub, List.replicate_succ, List.replicate_zero, List.cons_append, List.nil_append, List.append_nil, reduceIte, if_true, if_false, Bool.false_eq_true, Bool.not_true, Bool.not_false, mkRgI_nat (show n ≤ 1000000000 by omega)]) (by simp; omega) (fun k hk => ⟨_, rfl, rfl, ?_⟩)]
      have hk := List.mem_range.mp hk
      simp only [xSet, xAsg, xPar, xExpr, xRet, xRetN, xIf, xFor, xRaise, eBin, eCall, eNil, eCons, eTup, eLst, eChain, tVal, tCmp', tChain', eIsN, eNotN, tIsN', tNotN', tNot', tAnd', tOr', eAnd, eOr, eNot, eNeg, eIf, pNone, pSome, eSl, eDef, eIm, eIsi, sSeq, sRg1, sRg2, tYes', gNil', gCons', unpk, wipeE, eD0, eD1, sKeys, eQix, List.map_cons, List.map_nil, gv_eq, sv_eq, mkT_0, mkT_1, mkT_2, mkT_3, mkT_4, mkT_5, mkL_0, mkL_1, mkL_2, mkL_3, mkL_4, mkL_5, cst_eq, okb, excb, nx_ok, nxA_ok, nxO_nx, nxO_rt, out_ok, out_exc, seqO_eq, next_nx, next_rt, next_bk, next_ct, next_exc, wp_nx, wp_rt, wp_exc, wp_bk, wp_ct, wp_next, dAdd_ii, dSub_ii, dCmp_ii, asB_bl, asI_int, asInt_int, dInt_int, dInt_bl, dLen_tup, dLen_lst, dLen_frz, dMin2_eq, dMax2_eq, dTuple_lst, dTuple_tup, dTuple_frz, dList_lst, dList_tup, dIter_tup, dIter_lst, dIter_frz, dIx_t0, dIx_t1, dIx_t2, dIx_l0, dIx_l1, dIx_l2, dSl_tup, dSl_lst, dEq_ii, dNe_ii, dEq_bb, dNe_bb, dAll_map, dAny_map, List.getElem?_cons_zero, List.getElem?_cons_succ, List.set_cons_zero, List.set_cons_succ, List.length_cons, List.length_nil, Nat.reduceAdd, Nat.zero_add, Nat.reduceSub, List.replicate_succ, List.replicate_zero, List.cons_append, List.nil_append, List.append_nil, reduceIte, if_true, if_false, Bool.false_eq_true, Bool.not_true, Bool.not_false, dIx_tI (show (0 : Int) ≤ k by omega) (show (k : Int) < r.length by omega)]
      by_cases h0 : 0 ≤ at0 r k
      · simp only [decide_eq_true h0, xSet, xAsg, xPar, xExpr, xRet, xRetN, xIf, xFor, xRaise, eBin, eCall, eNil, eCons, eTup, eLst, eChain, tVal, tCmp', tChain', eIsN, eNotN, tIsN', tNotN', tNot', tAnd', tOr', eAnd, eOr, eNot, eNeg, eIf, pNone, pSome, eSl, eDef, eIm, eIsi, sSeq, sRg1, sRg2, tYes', gNil', gCons', unpk, wipeE, eD0, eD1, sKeys, eQix, List.map_cons, List.map_nil, gv_eq, sv_eq, mkT_0, mkT_1, mkT_2, mkT_3, mkT_4, mkT_5, mkL_0, mkL_1, mkL_2, mkL_3, mkL_4, mkL_5, cst_eq, okb, excb, nx_ok, nxA_ok, nxO_nx, nxO_rt, out_ok, out_exc, seqO_eq, next_nx, next_rt, next_bk, next_ct, next_exc, wp_nx, wp_rt, wp_exc, wp_bk, wp_ct, wp_next, dAdd_ii, dSub_ii, dCmp_ii, asB_bl, asI_int, asInt_int, dInt_int, dInt_bl, dLen_tup, dLen_lst, dLen_frz, dMin2_eq, dMax2_eq, dTuple_lst, dTuple_tup, dTuple_frz, dList_lst, dList_tup, dIter_tup, dIter_lst, dIter_frz, dIx_t0, dIx_t1, dIx_t2, dIx_l0, dIx_l1, dIx_l2, dSl_tup, dSl_lst, dEq_ii, dNe_ii, dEq_bb, dNe_bb, dAll_map, dAny_map, List.getElem?_cons_zero, List.getElem?_cons_succ, List.set_cons_zero, List.set_cons_succ, List.length_cons, List.length_nil, Nat.reduceAdd, Nat.zero_add, Nat.reduceSub, List.replicate_succ, List.replicate_zero, List.cons_append, List.nil_append, List.append_nil, reduceIte, if_true, if_false, Bool.false_eq_true, Bool.not_true, Bool.not_false]; simp
      · simp only [decide_eq_false h0, xSet, xAsg, xPar, xExpr, xRet, xRetN, xIf, xFor, xRaise, eBin, eCall, eNil, eCons, eTup, eLst, eChain, tVal, tCmp', tChain', eIsN, eNotN, tIsN', tNotN', tNot', tAnd', tOr', eAnd, eOr, eNot, eNeg, eIf, pNone, pSome, eSl, eDef, eIm, eIsi, sSeq, sRg1, sRg2, tYes', gNil', gCons', unpk, wipeE, eD0, eD1, sKeys, eQix, List.map_cons, List.map_nil, gv_eq, sv_eq, mkT_0, mkT_1, mkT_2, mkT_3, mkT_4, mkT_5, mkL_0, mkL_1, mkL_2, mkL_3, mkL_4, mkL_5, cst_eq, okb, excb, nx_ok, nxA_ok, nxO_nx, nxO_rt, out_ok, out_exc, seqO_eq, next_nx, next_rt, next_bk, next_ct, next_exc, wp_nx, wp_rt, wp_exc, wp_bk, wp_ct, wp_next, dAdd_ii, dSub_ii, dCmp_ii, asB_bl, asI_int, asInt_int, dInt_int, dInt_bl, dLen_tup, dLen_lst, dLen_frz, dMin2_eq, dMax2_eq, dTuple_lst, dTuple_tup, dTuple_frz, dList_lst, dList_tup, dIter_tup, dIter_lst, dIter_frz, dIx_t0, dIx_t1, dIx_t2, dIx_l0, dIx_l1, dIx_l2, dSl_tup, dSl_lst, dEq_ii, dNe_ii, dEq_bb, dNe_bb, dAll_map, dAny_map, List.getElem?_cons_zero, List.getElem?_cons_succ, List.set_cons_zero, List.set_cons_succ, List.length_cons, List.length_nil, Nat.reduceAdd, Nat.zero_add, Nat.reduceSub, List.replicate_succ, List.replicate_zero, List.cons_append, List.nil_append, List.append_nil, reduceIte, if_true, if_false, Bool.false_eq_true, Bool.not_true, Bool.not_false]; simp
    simp only [xSet, xAsg, xPar, xExpr, xRet, xRetN, xIf, xFor, xRaise, eBin, eCall, eNil, eCons, eTup, eLst, eChain, tVal, tCmp', tChain', eIsN, eNotN, tIsN', tNotN', tNot', tAnd', tOr', eAnd, eOr, eNot, eNeg, eIf, pNone, pSome, eSl, eDef, eIm, eIsi, sSeq, sRg1, sRg2, tYes', gNil', gCons', unpk, wipeE, eD0, eD1, sKeys, eQix, List.map_cons, List.map_nil, gv_eq, sv_eq, mkT_0, mkT_1, mkT_2, mkT_3, mkT_4, mkT_5, mkL_0, mkL_1, mkL_2, mkL_3, mkL_4, mkL_5, cst_eq, okb, excb, nx_ok, nxA_ok, nxO_nx, nxO_rt, out_ok, out_exc, seqO_eq, next_nx, next_rt, next_bk, next_ct, next_exc, wp_nx, wp_rt, wp_exc, wp_bk, wp_ct, wp_next, dAdd_ii, dSub_ii, dCmp_ii, asB_bl, asI_int, asInt_int, dInt_int, dInt_bl, dLen_tup, dLen_lst, dLen_frz, dMin2_eq, dMax2_eq, dTuple_lst, dTuple_tup, dTuple_frz, dList_lst, dList_tup, dIter_tup, dIter_lst, dIter_frz, dIx_t0, dIx_t1, dIx_t2, dIx_l0, dIx_l1, dIx_l2, dSl_tup, dSl_lst, dEq_ii, dNe_ii, dEq_bb, dNe_bb, dAll_map, dAny_map, List.getElem?_cons_zero, List.getElem?_cons_succ, List.set_cons_zero, List.set_cons_succ, List.length_cons, List.length_nil, Nat.reduceAdd, Nat.zero_add, Nat.reduceSub, List.replicate_succ, List.replicate_zero, List.cons_append, List.nil_append, List.append_nil, reduceIte, if_true, if_false, Bool.false_eq_true, Bool.not_true, Bool.not_false, e1]
    have e2 : ((List.range n).all fun (k : Nat) => decide (0 ≤ at0 r k) && decide (at0 r k ≤ k)) = shL n r := rfl
    rw [e2]
    by_cases h1 : shL n r = true
    · simp only [h1, xSet, xAsg, xPar, xExpr, xRet, xRetN, xIf, xFor, xRaise, eBin, eCall, eNil, eCons, eTup, eLst, eChain, tVal, tCmp', tChain', eIsN, eNotN, tIsN', tNotN', tNot', tAnd', tOr', eAnd, eOr, eNot, eNeg, eIf, pNone, pSome, eSl, eDef, eIm, eIsi, sSeq, sRg1, sRg2, tYes', gNil', gCons', unpk, wipeE, eD0, eD1, sKeys, eQix, List.map_cons, List.map_nil, gv_eq, sv_eq, mkT_0, mkT_1, mkT_2, mkT_3, mkT_4, mkT_5, mkL_0, mkL_1, mkL_2, mkL_3, mkL_4, mkL_5, cst_eq, okb, excb, nx_ok, nxA_ok, nxO_nx, nxO_rt, out_ok, out_exc, seqO_eq, next_nx, next_rt, next_bk, next_ct, next_exc, wp_nx, wp_rt, wp_exc, wp_bk, wp_ct, wp_next, dAdd_ii, dSub_ii, dCmp_ii, asB_bl, asI_int, asInt_int, dInt_int, dInt_bl, dLen_tup, dLen_lst, dLen_frz, dMin2_eq, dMax2_eq, dTuple_lst, dTuple_tup, dTuple_frz, dList_lst, dList_tup, dIter_tup, dIter_lst, dIter_frz, dIx_t0, dIx_t1, dIx_t2, dIx_l0, dIx_l1, dIx_l2, dSl_tup, dSl_lst, dEq_ii, dNe_ii, dEq_bb, dNe_bb, dAll_map, dAny_map, List.getElem?_cons_zero, List.getElem?_cons_succ, List.set_cons_zero, List.set_cons_succ, List.length_cons, List.length_nil, Nat.reduceAdd, Nat.zero_add, Nat.reduceSub, List.replicate_succ, List.replicate_zero, List.cons_append, List.nil_append, List.append_nil, reduceIte, if_true, if_false, Bool.false_eq_true, Bool.not_true, Bool.not_false]
      have e3 : eLc [2] (sRg1 (gv 0)) (sv 2) tYes' (eBin dEq (eBin dIx (gv 1) (eBin dIx (gv 1) (gv 2))) (eBin dIx (gv 1) (gv 2))) [some (nD n), some (tI r), none] = .ok (.lst ((List.range n).map fun (k : Nat) => D.bl (decide (at0 r (at0 r k) = at0 r k)))) := by
        rw [eLc_map nD (fun (k : Nat) => D.bl (decide (at0 r (at0 r k) = at0 r k))) (List.range n) (by simp only [xSet, xAsg, xPar, xExpr, xRet, xRetN, xIf, xFor, xRaise, eBin, eCall, eNil, eCons, eTup, eLst, eChain, tVal, tCmp', tChain', eIsN, eNotN, tIsN', tNotN', tNot', tAnd', tOr', eAnd, eOr, eNot, eNeg, eIf, pNone, pSome, eSl, eDef, eIm, eIsi, sSeq, sRg1, sRg2, tYes', gNil', gCons', unpk, wipeE, eD0, eD1, sKeys, eQix, List.map_cons, List.map_nil, gv_eq, sv_eq, mkT_0, mkT_1, mkT_2, mkT_3, mkT_4, mkT_5, mkL_0, mkL_1, mkL_2, mkL_3, mkL_4, mkL_5, cst_eq, okb, excb, nx_ok, nxA_ok, nxO_nx, nxO_rt, out_ok, out_exc, seqO_eq, next_nx, next_rt, next_bk, next_ct, next_exc, wp_nx, wp_rt, wp_exc, wp_bk, wp_ct, wp_next, dAdd_ii, dSub_ii, dCmp_ii, asB_bl, asI_int, asInt_int, dInt_int, dInt_bl, dLen_tup, dLen_lst, dLen_frz, dMin2_eq, dMax2_eq, dTuple_lst, dTuple_tup, dTuple_frz, dList_lst, dList_tup, dIter_tup, dIter_lst, dIter_frz, dIx_t0, dIx_t1, dIx_t2, dIx_l0, dIx_l1, dIx_l2, dSl_tup, dSl_lst, dEq_ii, dNe_ii, dEq_bb, dNe_bb, dAll_map, dAny_map, List.getElem?_cons_zero, List.getElem?_cons_succ, List.set_cons_zero, List.set_cons_succ, List.length_cons, List.length_nil, Nat.reduceAdd, Nat.zero_add, Nat.reduceSub, List.replicate_succ, List.replicate_zero, List.cons_append, List.nil_append, List.append_nil, reduceIte, if_true, if_false, Bool.false_eq_true, Bool.not_true, Bool.not_false, mkRgI_nat (show n ≤ 1000000000 by omega)]) (by simp; omega) (fun k hk => ⟨_, rfl, rfl, ?_⟩)]
        have hk := List.mem_range.mp hk
        obtain ⟨z1, z2⟩ := shL_at h1 hk
        simp only [xSet, xAsg, xPar, xExpr, xRet, xRetN, xIf, xFor, xRaise, eBin, eCall, eNil, eCons, eTup, eLst, eChain, tVal, tCmp', tChain', eIsN, eNotN, tIsN', tNotN', tNot', tAnd', tOr', eAnd, eOr, eNot, eNeg, eIf, pNone, pSome, eSl, eDef, eIm, eIsi, sSeq, sRg1, sRg2, tYes', gNil', gCons', unpk, wipeE, eD0, eD1, sKeys, eQix, List.map_cons, List.map_nil, gv_eq, sv_eq, mkT_0, mkT_1, mkT_2, mkT_3, mkT_4, mkT_5, mkL_0, mkL_1, mkL_2, mkL_3, mkL_4, mkL_5, cst_eq, okb, excb, nx_ok, nxA_ok, nxO_nx, nxO_rt, out_ok, out_exc, seqO_eq, next_nx, next_rt, next_bk, next_ct, next_exc, wp_nx, wp_rt, wp_exc, wp_bk, wp_ct, wp_next, dAdd_ii, dSub_ii, dCmp_ii, asB_bl, asI_int, asInt_int, dInt_int, dInt_bl, dLen_tup, dLen_lst, dLen_frz, dMin2_eq, dMax2_eq, dTuple_lst, dTuple_tup, dTuple_frz, dList_lst, dList_tup, dIter_tup, dIter_lst, dIter_frz, dIx_t0, dIx_t1, dIx_t2, dIx_l0, dIx_l1, dIx_l2, dSl_tup, dSl_lst, dEq_ii, dNe_ii, dEq_bb, dNe_bb, dAll_map, dAny_map, List.getElem?_cons_zero, List.getElem?_cons_succ, List.set_cons_zero, List.set_cons_succ, List.length_cons, List.length_nil, Nat.reduceAdd, Nat.zero_add, Nat.reduceSub, List.replicate_succ, List.replicate_zero, List.cons_append, List.nil_append, List.append_nil, reduceIte, if_true, if_false, Bool.false_eq_true, Bool.not_true, Bool.not_false, dIx_tI (show (0 : Int) ≤ k by omega) (show (k : Int) < r.length by omega), dIx_tI z1 (show at0 r k < r.length by omega)]
      simp only [xSet, xAsg, xPar, xExpr, xRet, xRetN, xIf, xFor, xRaise, eBin, eCall, eNil, eCons, eTup, eLst, eChain, tVal, tCmp', tChain', eIsN, eNotN, tIsN', tNotN', tNot', tAnd', tOr', eAnd, eOr, eNot, eNeg, eIf, pNone, pSome, eSl, eDef, eIm, eIsi, sSeq, sRg1, sRg2, tYes', gNil', gCons', unpk, wipeE, eD0, eD1, sKeys, eQix, List.map_cons, List.map_nil, gv_eq, sv_eq, mkT_0, mkT_1, mkT_2, mkT_3, mkT_4, mkT_5, mkL_0, mkL_1, mkL_2, mkL_3, mkL_4, mkL_5, cst_eq, okb, excb, nx_ok, nxA_ok, nxO_nx, nxO_rt, out_ok, out_exc, seqO_eq, next_nx, next_rt, next_bk, next_ct, next_exc, wp_nx, wp_rt, wp_exc, wp_bk, wp_ct, wp_next, dAdd_ii, dSub_ii, dCmp_ii, asB_bl, asI_int, asInt_int, dInt_int, dInt_bl, dLen_tup, dLen_lst, dLen_frz, dMin2_eq, dMax2_eq, dTuple_lst, dTuple_tup, dTuple_frz, dList_lst, dList_tup, dIter_tup, dIter_lst, dIter_frz, dIx_t0, dIx_t1, dIx_t2, dIx_l0, dIx_l1, dIx_l2, dSl_tup, dSl_lst, dEq_ii, dNe_ii, dEq_bb, dNe_bb, dAll_map, dAny_map, List.getElem?_cons_zero, List.getElem?_cons_succ, List.set_cons_zero, List.set_cons_succ, List.length_cons, List.length_nil, Nat.reduceAdd, Nat.zero_add, Nat.reduceSub, List.replicate_succ, List.replicate_zero, List.cons_append, List.nil_append, List.append_nil, reduceIte, if_true, if_false, Bool.false_eq_true, Bool.not_true, Bool.not_false, e3]
      simp [sh, hl, h1, shI]
    · have h1 : shL n r = false := by simpa using h1
      simp only [h1, xSet, xAsg, xPar, xExpr, xRet, xRetN, xIf, xFor, xRaise, eBin, eCall, eNil, eCons, eTup, eLst, eChain, tVal, tCmp', tChain', eIsN, eNotN, tIsN', tNotN', tNot', tAnd', tOr', eAnd, eOr, eNot, eNeg, eIf, pNone, pSome, eSl, eDef, eIm, eIsi, sSeq, sRg1, sRg2, tYes', gNil', gCons', unpk, wipeE, eD0, eD1, sKeys, eQix, List.map_cons, List.map_nil, gv_eq, sv_eq, mkT_0, mkT_1, mkT_2, mkT_3, mkT_4, mkT_5, mkL_0, mkL_1, mkL_2, mkL_3, mkL_4, mkL_5, cst_eq, okb, excb, nx_ok, nxA_ok, nxO_nx, nxO_rt, out_ok, out_exc, seqO_eq, next_nx, next_rt, next_bk, next_ct, next_exc, wp_nx, wp_rt, wp_exc, wp_bk, wp_ct, wp_next, dAdd_ii, dSub_ii, dCmp_ii, asB_bl, asI_int, asInt_int, dInt_int, dInt_bl, dLen_tup, dLen_lst, dLen_frz, dMin2_eq, dMax2_eq, dTuple_lst, dTuple_tup, dTuple_frz, dList_lst, dList_tup, dIter_tup, dIter_lst, dIter_frz, dIx_t0, dIx_t1, dIx_t2, dIx_l0, dIx_l1, dIx_l2, dSl_tup, dSl_lst, dEq_ii, dNe_ii, dEq_bb, dNe_bb, dAll_map, dAny_map, List.getElem?_cons_zero, List.getElem?_cons_succ, List.set_cons_zero, List.set_cons_succ, List.length_cons, List.length_nil, Nat.reduceAdd, Nat.zero_add, Nat.reduceSub, List.replicate_succ, List.replicate_zero, List.cons_append, List.nil_append, List.append_nil, reduceIte, if_true, if_false, Bool.false_eq_true, Bool.not_true, Bool.not_false]
      simp [sh, h1]
  · have hl' : ((r.length : Int) ≠ (n : Int)) := by omega
    simp only [decide_eq_true hl', xSet, xAsg, xPar, xExpr, xRet, xRetN, xIf, xFor, xRaise, eBin, eCall, eNil, eCons, eTup, eLst, eChain, tVal, tCmp', tChain', eIsN, eNotN, tIsN', tNotN', tNot', tAnd', tOr', eAnd, eOr, eNot, eNeg, eIf, pNone, pSome, eSl, eDef, eIm, eIsi, sSeq, sRg1, sRg2, tYes', gNil', gCons', unpk, wipeE, eD0, eD1, sKeys, eQix, List.map_cons, List.map_nil, gv_eq, sv_eq, mkT_0, mkT_1, mkT_2, mkT_3, mkT_4, mkT_5, mkL_0, mkL_1, mkL_2, mkL_3, mkL_4, mkL_5, cst_eq, okb, excb, nx_ok, nxA_ok, nxO_nx, nxO_rt, out_ok, out_exc, seqO_eq, next_nx, next_rt, next_bk, next_ct, next_exc, wp_nx, wp_rt, wp_exc, wp_bk, wp_ct, wp_next, dAdd_ii, dSub_ii, dCmp_ii, asB_bl, asI_int, asInt_int, dInt_int, dInt_bl, dLen_tup, dLen_lst, dLen_frz, dMin2_eq, dMax2_eq, dTuple_lst, dTuple_tup, dTuple_frz, dList_lst, dList_tup, dIter_tup, dIter_lst, dIter_frz, dIx_t0, dIx_t1, dIx_t2, dIx_l0, dIx_l1, dIx_l2, dSl_tup, dSl_lst, dEq_ii, dNe_ii, dEq_bb, dNe_bb, dAll_map, dAny_map, List.getElem?_cons_zero, List.getElem?_cons_succ, List.set_cons_zero, List.set_cons_succ, List.length_cons, List.length_nil, Nat.reduceAdd, Nat.zero_add, Nat.reduceSub, List.replicate_succ, List.replicate_zero, List.cons_append, List.nil_append, List.append_nil, reduceIte, if_true, if_false, Bool.false_eq_true, Bool.not_true, Bool.not_false]
    simp [sh, hl]
theorem at0_c {c : List Nat} {k : Nat} (h : k < c.length) : at0 (cI c) k = nth c k := by
  unfold at0 nth
  rw [List.getD_eq_getElem?_getD, List.getD_eq_getElem?_getD, Int.toNat_natCast, List.getElem?_map, List.getElem?_eq_getElem h]
  rfl
theorem sh_form {n : Nat} {r : List Int} (h : sh n r = true) : ∃ c, r = cI c ∧ Form n c := by
  unfold sh at h
  rw [Bool.and_eq_true, Bool.and_eq_true, decide_eq_true_eq] at h
  obtain ⟨⟨hl, h1⟩, h2⟩ := h
  have e : r = cI (r.map Int.toNat) := by
    rw [cI, List.map_map]
    refine List.ext_getElem (by simp) fun i a b => ?_
    have hi : i < n := by omega
    have := (shL_at h1 hi).1
    unfold at0 at this
    rw [Int.toNat_natCast, List.getD_eq_getElem?_getD, List.getElem?_eq_getElem a] at this
    simp at this ⊢
    omega
  generalize r.map Int.toNat = c at e
  subst e
  have hl : c.length = n := by simpa using hl
  refine ⟨c, rfl, hl, fun x hx => ?_, fun x hx => ?_⟩
  · have := (shL_at h1 hx).2
    rw [at0_c (by omega)] at this
    omega
  · have hle := (shL_at h1 hx).2
    rw [at0_c (by omega)] at hle
    have := List.all_eq_true.mp h2 x (List.mem_range.mpr hx)
    rw [decide_eq_true_eq, at0_c (by omega), at0_c (by omega)] at this
    omega
theorem form_sh {n : Nat} {c : List Nat} (h : Form n c) : sh n (cI c) = true := by
  unfold sh
  rw [Bool.and_eq_true, Bool.and_eq_true, decide_eq_true_eq]
  refine ⟨⟨by simp [h.len], List.all_eq_true.mpr fun k hk => ?_⟩, List.all_eq_true.mpr fun k hk => ?_⟩
  · have hk := List.mem_range.mp hk
    have := h.le k hk
    rw [at0_c (by rw [h.len]; exact hk)]
    simp
    omega
  · have hk := List.mem_range.mp hk
    have := h.le k hk
    rw [at0_c (by rw [h.len]; exact hk), at0_c (by rw [h.len]; omega), h.idem k hk]
    simp
/-- the pairs of a row: each thing with the one that stands for its class -/
def Wc (n : Nat) (c : List Nat) : List (Nat × Nat) := (List.range n).map fun k => (nth c k, k)
theorem wc_lt {n : Nat} {c : List Nat} (h : Form n c) : ∀ p ∈ Wc n c, p.1 < n ∧ p.2 < n := fun p hp => by
  obtain ⟨k, hk, rfl⟩ := List.mem_map.mp hp
  have hk := List.mem_range.mp hk
  have := h.le k hk
  exact ⟨by show nth c k < n; omega, hk⟩
/-- a joining -/
def IsJ (n : Nat) (l : List Opn) (c : List Nat) : Prop := Form n c ∧ Can n (Cg n (Mr n l) (Ps (Wc n c))) c
theorem can_uniq {n : Nat} {l : List Opn} {W : List (Nat × Nat)} {c d : List Nat} (h : Can n (Cg n (Mr n l) (Ps W)) c) (k : Can n (Cg n (Mr n l) (Ps W)) d) : c = d := h.uniq (fun _ _ => .sm) k
theorem check_joining_eq {n : Nat} {l : List Opn} (g : GA n l) (r : List Int) : (∃ c, r = cI c ∧ IsJ n l c ∧ F_check_joining [algD n l, tI r] = .ok (tI r)) ∨ ((¬ ∃ c, r = cI c ∧ IsJ n l c) ∧ F_check_joining [algD n l, tI r] = .exc "InvalidJoining") := by
  have h8 := g.n8
  suffices H : ∀ q, F_check_joining [algD n l, tI r] = q → (∃ c, r = cI c ∧ IsJ n l c ∧ q = .ok (tI r)) ∨ ((¬ ∃ c, r = cI c ∧ IsJ n l c) ∧ q = .exc "InvalidJoining") from H _ rfl
  rintro q rfl
  refine fn_wpP (fun q => (∃ c, r = cI c ∧ IsJ n l c ∧ q = .ok (tI r)) ∨ ((¬ ∃ c, r = cI c ∧ IsJ n l c) ∧ q = .exc "InvalidJoining")) rfl ?_
  simp only [den_check_joining, xSet, xAsg, xPar, xExpr, xRet, xRetN, xIf, xFor, xRaise, eBin, eCall, eNil, eCons, eTup, eLst, eChain, tVal, tCmp', tChain', eIsN, eNotN, tIsN', tNotN', tNot', tAnd', tOr', eAnd, eOr, eNot, eNeg, eIf, pNone, pSome, eSl, eDef, eIm, eIsi, sSeq, sRg1, sRg2, tYes', gNil', gCons', unpk, wipeE, eD0, eD1, sKeys, eQix, List.map_cons, List.map_nil, gv_eq, sv_eq, mkT_0, mkT_1, mkT_2, mkT_3, mkT_4, mkT_5, mkL_0, mkL_1, mkL_2, mkL_3, mkL_4, mkL_5, cst_eq, okb, excb, nx_ok, nxA_ok, nxO_nx, nxO_rt, out_ok, out_exc, seqO_eq, next_nx, next_rt, next_bk, next_ct, next_exc, wp_nx, wp_rt, wp_exc, wp_bk, wp_ct, wp_next, dAdd_ii, dSub_ii, dCmp_ii, asB_bl, asI_int, asInt_int, dInt_int, dInt_bl, dLen_tup, dLen_lst, dLen_frz, dMin2_eq, dMax2_eq, dTuple_lst, dTuple_tup, dTuple_frz, dList_lst, dList_tup, dIter_tup, dIter_lst, dIter_frz, dIx_t0, dIx_t1, dIx_t2, dIx_l0, dIx_l1, dIx_l2, dSl_tup, dSl_lst, dEq_ii, dNe_ii, dEq_bb, dNe_bb, dAll_map, dAny_map, List.getElem?_cons_zero, List.getElem?_cons_succ, List.set_cons_zero, List.set_cons_succ, List.length_cons, List.length_nil, Nat.reduceAdd, Nat.zero_add, Nat.reduceSub, List.replicate_succ, List.replicate_zero, List.cons_append, List.nil_append, List.append_nil, reduceIte, if_true, if_false, Bool.false_eq_true, Bool.not_true, Bool.not_false, eFld, fld_n, is_eq_eq (r := r) (show n ≤ 1000 by omega)]
  by_cases hs : sh n r = true
  · simp only [hs, xSet, xAsg, xPar, xExpr, xRet, xRetN, xIf, xFor, xRaise, eBin, eCall, eNil, eCons, eTup, eLst, eChain, tVal, tCmp', tChain', eIsN, eNotN, tIsN', tNotN', tNot', tAnd', tOr', eAnd, eOr, eNot, eNeg, eIf, pNone, pSome, eSl, eDef, eIm, eIsi, sSeq, sRg1, sRg2, tYes', gNil', gCons', unpk, wipeE, eD0, eD1, sKeys, eQix, List.map_cons, List.map_nil, gv_eq, sv_eq, mkT_0, mkT_1, mkT_2, mkT_3, mkT_4, mkT_5, mkL_0, mkL_1, mkL_2, mkL_3, mkL_4, mkL_5, cst_eq, okb, excb, nx_ok, nxA_ok, nxO_nx, nxO_rt, out_ok, out_exc, seqO_eq, next_nx, next_rt, next_bk, next_ct, next_exc, wp_nx, wp_rt, wp_exc, wp_bk, wp_ct, wp_next, dAdd_ii, dSub_ii, dCmp_ii, asB_bl, asI_int, asInt_int, dInt_int, dInt_bl, dLen_tup, dLen_lst, dLen_frz, dMin2_eq, dMax2_eq, dTuple_lst, dTuple_tup, dTuple_frz, dList_lst, dList_tup, dIter_tup, dIter_lst, dIter_frz, dIx_t0, dIx_t1, dIx_t2, dIx_l0, dIx_l1, dIx_l2, dSl_tup, dSl_lst, dEq_ii, dNe_ii, dEq_bb, dNe_bb, dAll_map, dAny_map, List.getElem?_cons_zero, List.getElem?_cons_succ, List.set_cons_zero, List.set_cons_succ, List.length_cons, List.length_nil, Nat.reduceAdd, Nat.zero_add, Nat.reduceSub, List.replicate_succ, List.replicate_zero, List.cons_append, List.nil_append, List.append_nil, reduceIte, if_true, if_false, Bool.false_eq_true, Bool.not_true, Bool.not_false, xRaise]
    obtain ⟨c, rfl, F⟩ := sh_form hs
    rw [tI_c]
    have e1 : eLc [3] (sRg1 (eFld "Algebra" (["n", "operations"] : List Str) "n" (gv 0))) (sv 3) tYes' (eTup (eCons (eBin dIx (gv 1) (gv 3)) (eCons (gv 3) eNil))) [some (algD n l), some (tN c), none, none] = .ok (.lst ((Wc n c).map prT)) := by
      rw [eLc_map nD (fun k => prT (nth c k, k)) (List.range n) (by simp only [xSet, xAsg, xPar, xExpr, xRet, xRetN, xIf, xFor, xRaise, eBin, eCall, eNil, eCons, eTup, eLst, eChain, tVal, tCmp', tChain', eIsN, eNotN, tIsN', tNotN', tNot', tAnd', tOr', eAnd, eOr, eNot, eNeg, eIf, pNone, pSome, eSl, eDef, eIm, eIsi, sSeq, sRg1, sRg2, tYes', gNil', gCons', unpk, wipeE, eD0, eD1, sKeys, eQix, List.map_cons, List.map_nil, gv_eq, sv_eq, mkT_0, mkT_1, mkT_2, mkT_3, mkT_4, mkT_5, mkL_0, mkL_1, mkL_2, mkL_3, mkL_4, mkL_5, cst_eq, okb, excb, nx_ok, nxA_ok, nxO_nx, nxO_rt, out_ok, out_exc, seqO_eq, next_nx, next_rt, next_bk, next_ct, next_exc, wp_nx, wp_rt, wp_exc, wp_bk, wp_ct, wp_next, dAdd_ii, dSub_ii, dCmp_ii, asB_bl, asI_int, asInt_int, dInt_int, dInt_bl, dLen_tup, dLen_lst, dLen_frz, dMin2_eq, dMax2_eq, dTuple_lst, dTuple_tup, dTuple_frz, dList_lst, dList_tup, dIter_tup, dIter_lst, dIter_frz, dIx_t0, dIx_t1, dIx_t2, dIx_l0, dIx_l1, dIx_l2, dSl_tup, dSl_lst, dEq_ii, dNe_ii, dEq_bb, dNe_bb, dAll_map, dAny_map, List.getElem?_cons_zero, List.getElem?_cons_succ, List.set_cons_zero, List.set_cons_succ, List.length_cons, List.length_nil, Nat.reduceAdd, Nat.zero_add, Nat.reduceSub, List.replicate_succ, List.replicate_zero, List.cons_append, List.nil_append, List.append_nil, reduceIte, if_true, if_false, Bool.false_eq_true, Bool.not_true, Bool.not_false, eFld, fld_n, mkRgI_nat (show n ≤ 1000000000 by omega)]) (by simp; omega) (fun k hk => ⟨_, rfl, rfl, ?_⟩)]
      · simp [Wc]
      · have hk := List.mem_range.mp hk
        simp only [xSet, xAsg, xPar, xExpr, xRet, xRetN, xIf, xFor, xRaise, eBin, eCall, eNil, eCons, eTup, eLst, eChain, tVal, tCmp', tChain', eIsN, eNotN, tIsN', tNotN', tNot', tAnd', tOr', eAnd, eOr, eNot, eNeg, eIf, pNone, pSome, eSl, eDef, eIm, eIsi, sSeq, sRg1, sRg2, tYes', gNil', gCons', unpk, wipeE, eD0, eD1, sKeys, eQix, List.map_cons, List.map_nil, gv_eq, sv_eq, mkT_0, mkT_1, mkT_2, mkT_3, mkT_4, mkT_5, mkL_0, mkL_1, mkL_2, mkL_3, mkL_4, mkL_5, cst_eq, okb, excb, nx_ok, nxA_ok, nxO_nx, nxO_rt, out_ok, out_exc, seqO_eq, next_nx, next_rt, next_bk, next_ct, next_exc, wp_nx, wp_rt, wp_exc, wp_bk, wp_ct, wp_next, dAdd_ii, dSub_ii, dCmp_ii, asB_bl, asI_int, asInt_int, dInt_int, dInt_bl, dLen_tup, dLen_lst, dLen_frz, dMin2_eq, dMax2_eq, dTuple_lst, dTuple_tup, dTuple_frz, dList_lst, dList_tup, dIter_tup, dIter_lst, dIter_frz, dIx_t0, dIx_t1, dIx_t2, dIx_l0, dIx_l1, dIx_l2, dSl_tup, dSl_lst, dEq_ii, dNe_ii, dEq_bb, dNe_bb, dAll_map, dAny_map, List.getElem?_cons_zero, List.getElem?_cons_succ, List.set_cons_zero, List.set_cons_succ, List.length_cons, List.length_nil, Nat.reduceAdd, Nat.zero_add, Nat.reduceSub, List.replicate_succ, List.replicate_zero, List.cons_append, List.nil_append, List.append_nil, reduceIte, if_true, if_false, Bool.false_eq_true, Bool.not_true, Bool.not_false, dIx_tN (show k < c.length by rw [F.len]; exact hk)]
    obtain ⟨d, e2, cn⟩ := closed_eq g (Wc n c) (wc_lt F) (by simp [Wc]; omega) (.lst ((Wc n c).map prT)) rfl
    have e3 : dNe (tN d) (tN c) = .ok (.bl (decide (d ≠ c))) := (em_tup em_nat).dNe d c
    simp only [xSet, xAsg, xPar, xExpr, xRet, xRetN, xIf, xFor, xRaise, eBin, eCall, eNil, eCons, eTup, eLst, eChain, tVal, tCmp', tChain', eIsN, eNotN, tIsN', tNotN', tNot', tAnd', tOr', eAnd, eOr, eNot, eNeg, eIf, pNone, pSome, eSl, eDef, eIm, eIsi, sSeq, sRg1, sRg2, tYes', gNil', gCons', unpk, wipeE, eD0, eD1, sKeys, eQix, List.map_cons, List.map_nil, gv_eq, sv_eq, mkT_0, mkT_1, mkT_2, mkT_3, mkT_4, mkT_5, mkL_0, mkL_1, mkL_2, mkL_3, mkL_4, mkL_5, cst_eq, okb, excb, nx_ok, nxA_ok, nxO_nx, nxO_rt, out_ok, out_exc, seqO_eq, next_nx, next_rt, next_bk, next_ct, next_exc, wp_nx, wp_rt, wp_exc, wp_bk, wp_ct, wp_next, dAdd_ii, dSub_ii, dCmp_ii, asB_bl, asI_int, asInt_int, dInt_int, dInt_bl, dLen_tup, dLen_lst, dLen_frz, dMin2_eq, dMax2_eq, dTuple_lst, dTuple_tup, dTuple_frz, dList_lst, dList_tup, dIter_tup, dIter_lst, dIter_frz, dIx_t0, dIx_t1, dIx_t2, dIx_l0, dIx_l1, dIx_l2, dSl_tup, dSl_lst, dEq_ii, dNe_ii, dEq_bb, dNe_bb, dAll_map, dAny_map, List.getElem?_cons_zero, List.getElem?_cons_succ, List.set_cons_zero, List.set_cons_succ, List.length_cons, List.length_nil, Nat.reduceAdd, Nat.zero_add, Nat.reduceSub, List.replicate_succ, List.replicate_zero, List.cons_append, List.nil_append, List.append_nil, reduceIte, if_true, if_false, Bool.false_eq_true, Bool.not_true, Bool.not_false, e1, e2, e3]
    by_cases hdc : d = c
    · subst hdc
      simp
      exact ⟨d, rfl, F, cn⟩
    · simp [hdc]
      intro c' hc' hj
      have : c = c' := cI_inj hc'
      subst this
      exact hdc (can_uniq cn hj.2)
  · have hs : sh n r = false := by simpa using hs
    simp only [hs, xSet, xAsg, xPar, xExpr, xRet, xRetN, xIf, xFor, xRaise, eBin, eCall, eNil, eCons, eTup, eLst, eChain, tVal, tCmp', tChain', eIsN, eNotN, tIsN', tNotN', tNot', tAnd', tOr', eAnd, eOr, eNot, eNeg, eIf, pNone, pSome, eSl, eDef, eIm, eIsi, sSeq, sRg1, sRg2, tYes', gNil', gCons', unpk, wipeE, eD0, eD1, sKeys, eQix, List.map_cons, List.map_nil, gv_eq, sv_eq, mkT_0, mkT_1, mkT_2, mkT_3, mkT_4, mkT_5, mkL_0, mkL_1, mkL_2, mkL_3, mkL_4, mkL_5, cst_eq, okb, excb, nx_ok, nxA_ok, nxO_nx, nxO_rt, out_ok, out_exc, seqO_eq, next_nx, next_rt, next_bk, next_ct, next_exc, wp_nx, wp_rt, wp_exc, wp_bk, wp_ct, wp_next, dAdd_ii, dSub_ii, dCmp_ii, asB_bl, asI_int, asInt_int, dInt_int, dInt_bl, dLen_tup, dLen_lst, dLen_frz, dMin2_eq, dMax2_eq, dTuple_lst, dTuple_tup, dTuple_frz, dList_lst, dList_tup, dIter_tup, dIter_lst, dIter_frz, dIx_t0, dIx_t1, dIx_t2, dIx_l0, dIx_l1, dIx_l2, dSl_tup, dSl_lst, dEq_ii, dNe_ii, dEq_bb, dNe_bb, dAll_map, dAny_map, List.getElem?_cons_zero, List.getElem?_cons_succ, List.set_cons_zero, List.set_cons_succ, List.length_cons, List.length_nil, Nat.reduceAdd, Nat.zero_add, Nat.reduceSub, List.replicate_succ, List.replicate_zero, List.cons_append, List.nil_append, List.append_nil, reduceIte, if_true, if_false, Bool.false_eq_true, Bool.not_true, Bool.not_false, xRaise]
    refine .inr ⟨?_, by trivial⟩
    rintro ⟨c, rfl, j⟩
    rw [form_sh j.1] at hs
    cases hs
end Lw


namespace Lw
open PySem PySem.Spec PyProof.Rows L2 DL
/-- a pair of things -/
def goodP (n : Nat) (r : List Int) : Bool := match r with
  | [x, y] => decide (0 ≤ x) && decide (0 ≤ y) && decide (x < n) && decide (y < n)
  | _ => false
theorem min2_eq (x y : Int) : dMinS [tI [x, y]] = .ok (.int (min x y)) := by
  show R.ok (D.int (PySem.W.minOf x [y])) = _
  have : PySem.W.minOf x [y] = if decide (y < x) = true then y else x := rfl
  rw [this]
  congr 2
  by_cases h : y < x
  · rw [decide_eq_true h, if_pos rfl]; omega
  · rw [decide_eq_false h, if_neg (by simp)]; omega
theorem max2_eq (x y : Int) : dMaxS [tI [x, y]] = .ok (.int (max x y)) := by
  show R.ok (D.int (PySem.W.maxOf x [y])) = _
  have : PySem.W.maxOf x [y] = if decide (x < y) = true then y else x := rfl
  rw [this]
  congr 2
  by_cases h : x < y
  · rw [decide_eq_true h, if_pos rfl]; omega
  · rw [decide_eq_false h, if_neg (by simp)]; omega
abbrev prI (p : Nat × Nat) : List Int := [(p.1 : Int), (p.2 : Int)]
theorem tI_pr (p : Nat × Nat) : tI (prI p) = prT p := rfl
theorem prs_tI (W : List (Nat × Nat)) : (W.map prI).map tI = W.map prT := by
  rw [List.map_map]
  rfl
theorem dMulT_zero {n : Nat} (hn : n ≤ 8) : dMulT (.tup [.int 0]) (nD n) = .ok (tN (List.replicate n 0)) := by
  show (if _ then _ else _) = _
  rw [if_pos (by simp; omega)]
  have : ∀ n : Nat, (List.replicate n [D.int 0]).flatten = (List.replicate n 0).map nD := fun n => by
    induction n with
    | zero => rfl
    | succ n ih => rw [List.replicate_succ, List.flatten_cons, ih]; rfl
  simp [this, tN]
end Lw

/-! sorted of rows of numbers, plain. -/
namespace DL
open PySem PySem.Spec PyProof.Rows L2
/-- rows by the tuples' order -/
def srt (L : List (List Nat)) : List (List Nat) := L.mergeSort fun a b => decide (a ≤ b)
def cZ (c : List Nat) : List Int := c.map fun (x : Nat) => (x : Int)
theorem cZ_lt : ∀ a b : List Nat, cZ a < cZ b ↔ a < b
  | [], [] => by simp [cZ]
  | [], y :: b => by simp [cZ]
  | x :: a, [] => by simp [cZ]
  | x :: a, y :: b => by
    have ih := cZ_lt a b
    unfold cZ at ih ⊢
    rw [List.map_cons, List.map_cons, List.cons_lt_cons_iff, List.cons_lt_cons_iff, ih]
    simp only [Int.ofNat_lt, Int.natCast_inj]
theorem py_tN (c : List Nat) : py (tN c) = .tuple ((cZ c).map PyData.int) := by
  show py (.tup _) = _
  rw [py]
  congr 1
  induction c with
  | nil => rfl
  | cons x c ih => rw [List.map_cons, pyAll, ih]; rfl
theorem le_tN (a b : List Nat) : PySem.W.dataLe false py (tN a) (tN b) = decide (a ≤ b) := by
  show (!PySem.W.dataLt (py (tN b)) (py (tN a))) = _
  rw [py_tN, py_tN]
  show (!PySem.W.rowLt ((cZ b).map PyData.int) ((cZ a).map PyData.int)) = _
  rw [PySem.W.dataLt_ints]
  by_cases h : cZ b < cZ a
  · have h' : ¬ a ≤ b := fun r => List.not_lt.mpr r ((cZ_lt b a).mp h)
    simp [h, h']
  · have h' : a ≤ b := List.not_lt.mp fun z => h ((cZ_lt b a).mpr z)
    simp [h, h']
theorem alike_tN (a b : List Nat) : PySem.W.alike (py (tN a)) (py (tN b)) = true := by
  rw [py_tN, py_tN]
  rw [PySem.W.alike]
  exact PySem.W.alike_ints _ _
theorem srtOk_tN {L : List (List Nat)} (h : ∀ c ∈ L, c ≠ []) : srtOk (L.map tN) = true := by
  unfold srtOk
  rw [Bool.and_eq_true, Bool.and_eq_true, Bool.or_eq_true]
  refine ⟨⟨List.all_eq_true.mpr fun a ha => List.all_eq_true.mpr fun b hb => ?_, .inl (List.all_eq_true.mpr fun a ha => ?_)⟩, List.all_eq_true.mpr fun a ha => ?_⟩
  · obtain ⟨c, _, rfl⟩ := List.mem_map.mp ha
    obtain ⟨d, _, rfl⟩ := List.mem_map.mp hb
    exact alike_tN c d
  · obtain ⟨c, hc, rfl⟩ := List.mem_map.mp ha
    rw [py_tN]
    cases c with
    | nil => exact absurd rfl (h _ hc)
    | cons x c => rfl
  · obtain ⟨c, hc, rfl⟩ := List.mem_map.mp ha
    rw [Bool.and_eq_true, decide_eq_true_eq]
    exact ⟨Nat.le_trans ((em_tup em_nat).dep c) (by omega), (em_tup em_nat).lay c⟩
theorem srtD_tN (L : List (List Nat)) : srtD (L.map tN) = (srt L).map tN := by
  unfold srtD srt
  exact (List.map_mergeSort (f := tN) (s := PySem.W.dataLe false py) (r := fun a b => decide (a ≤ b)) (l := L) (fun a _ b _ => by rw [le_tN])).symm
theorem dSorted_tN {L : List (List Nat)} (h : ∀ c ∈ L, c ≠ []) {d : D} (hd : keysD d = some (L.map tN)) : dSorted [d] = .ok (.lst ((srt L).map tN)) := by
  unfold dSorted
  simp only [hd, srtOk_tN h, if_true, srtD_tN]
theorem srt_perm (L : List (List Nat)) : (srt L).Perm L := List.mergeSort_perm _ _
theorem srt_mem {L : List (List Nat)} {c : List Nat} : c ∈ srt L ↔ c ∈ L := (srt_perm L).mem_iff
theorem srt_sorted (L : List (List Nat)) : (srt L).Pairwise (· ≤ ·) := by
  have := List.pairwise_mergeSort (le := fun a b : List Nat => decide (a ≤ b)) (fun a b c h1 h2 => by simp at h1 h2 ⊢; exact List.le_trans h1 h2) (fun a b => by simp; exact List.le_total a b) L
  exact this.imp fun h => by simpa using h
/-- ascending lists with the same members are the same -/
theorem asc_uniq : ∀ {A B : List (List Nat)}, A.Pairwise (· ≤ ·) → B.Pairwise (· ≤ ·) → A.Nodup → B.Nodup → (∀ x, x ∈ A ↔ x ∈ B) → A = B
  | [], [], _, _, _, _, _ => rfl
  | [], y :: B, _, _, _, _, h => by have := (h y).mpr (by simp); simp at this
  | x :: A, [], _, _, _, _, h => by have := (h x).mp (by simp); simp at this
  | x :: A, y :: B, sa, sb, na, nb, h => by
    rw [List.pairwise_cons] at sa sb
    rw [List.nodup_cons] at na nb
    have e : x = y := by
      have h1 : x ∈ y :: B := (h x).mp (by simp)
      have h2 : y ∈ x :: A := (h y).mpr (by simp)
      rcases List.mem_cons.mp h1 with e | h1
      · exact e
      · rcases List.mem_cons.mp h2 with e | h2
        · exact e.symm
        · exact List.le_antisymm (sa.1 y h2) (sb.1 x h1)
    subst e
    rw [asc_uniq sa.2 sb.2 na.2 nb.2 fun z => ?_]
    constructor
    · intro hz
      rcases List.mem_cons.mp ((h z).mp (by simp [hz])) with e | hz'
      · subst e; exact absurd hz na.1
      · exact hz'
    · intro hz
      rcases List.mem_cons.mp ((h z).mpr (by simp [hz])) with e | hz'
      · subst e; exact absurd hz nb.1
      · exact hz'
theorem srt_uniq {A B : List (List Nat)} (na : A.Nodup) (nb : B.Nodup) (h : ∀ x, x ∈ A ↔ x ∈ B) : srt A = srt B :=
  asc_uniq (srt_sorted A) (srt_sorted B) ((srt_perm A).nodup_iff.mpr na) ((srt_perm B).nodup_iff.mpr nb) fun x => by rw [srt_mem, srt_mem]; exact h x
end DL


namespace Lw
open PySem PySem.Spec PyProof.Rows L2 DL
theorem rok {n : Nat} {l : List Opn} (g : GA n l) : ∀ r ∈ rowsL n l, ∀ a, a < n → nth r a < n := fun r hr => (rows_ok g hr).2
theorem isJ_iff {n : Nat} {l : List Opn} (g : GA n l) {c : List Nat} : IsJ n l c ↔ JJ n (rowsL n l) c := by
  have hr := rok g
  constructor
  · rintro ⟨F, C⟩
    exact ⟨F, (can_jj hr C).2⟩
  · intro J
    have F := J.1
    have key : ∀ a b, Cg n (Mr n l) (Ps (Wc n c)) a b → a < n ∧ b < n ∧ nth c a = nth c b := fun a b e => jj_cg hr J (fun a b h => by
      obtain ⟨k, hk, e⟩ := List.mem_map.mp h
      have hk := List.mem_range.mp hk
      have e1 : nth c k = a := congrArg Prod.fst e
      have e2 : k = b := congrArg Prod.snd e
      subst e1 e2
      exact ⟨F.lt hk, hk, F.idem k hk⟩) e
    refine ⟨F, F.len, F.le, fun x hx => .sm (.pr ?_), fun x y _ _ e => (key x y e).2.2⟩
    exact List.mem_map.mpr ⟨x, List.mem_range.mpr hx, rfl⟩
/-- c is the least joining of a and b -/
def Sg (n : Nat) (l : List Opn) (a b : Nat) (c : List Nat) : Prop := Can n (Cg n (Mr n l) (Ps [(a, b)])) c
theorem sg_jj {n : Nat} {l : List Opn} (g : GA n l) {a b : Nat} {c : List Nat} (h : Sg n l a b c) : JJ n (rowsL n l) c := can_jj (rok g) h
theorem sg_at {n : Nat} {l : List Opn} {a b : Nat} {c : List Nat} (ha : a < n) (hb : b < n) (h : Sg n l a b c) : nth c a = nth c b := (can_rel h ha hb).mpr (.pr (by simp [Ps]))
theorem sg_bel {n : Nat} {l : List Opn} (g : GA n l) {a b : Nat} {c d : List Nat} (ha : a < n) (hb : b < n) (h : Sg n l a b c) (k : JJ n (rowsL n l) d) (e : nth d a = nth d b) : Bel n c d := by
  refine can_bel (rok g) h k fun x y q => ?_
  have q : (x, y) = (a, b) := by simpa [Ps] using q
  cases q
  exact ⟨ha, hb, e⟩
/-- what the one joins, the other joins: told -/
def belB (n : Nat) (c d : List Nat) : Bool := (List.range n).all fun x => decide (nth d x = nth d (nth c x))
theorem belB_iff {n : Nat} {c d : List Nat} : belB n c d = true ↔ Bel n c d := by
  unfold belB Bel
  rw [List.all_eq_true]
  exact ⟨fun h x hx => by simpa using h x (List.mem_range.mpr hx), fun h x hx => by simpa using h x (List.mem_range.mp hx)⟩
/-! ### all joinings, as the law tells them -/
noncomputable def isJb (n : Nat) (l : List Opn) (c : List Nat) : Bool := @decide (IsJ n l c) (Classical.propDecidable _)
theorem isJb_iff {n : Nat} {l : List Opn} {c : List Nat} : isJb n l c = true ↔ IsJ n l c := by
  unfold isJb
  exact @decide_eq_true_iff _ (Classical.propDecidable _)
theorem isJb_no {n : Nat} {l : List Opn} {c : List Nat} (h : ¬ IsJ n l c) : isJb n l c = false := by
  cases e : isJb n l c with
  | false => rfl
  | true => exact absurd (isJb_iff.mp e) h
noncomputable def allJ (n : Nat) (l : List Opn) : List (List Nat) := srt ((allF n).filter (isJb n l))
theorem allJ_mem {n : Nat} {l : List Opn} {c : List Nat} : c ∈ allJ n l ↔ IsJ n l c := by
  unfold allJ
  rw [srt_mem, List.mem_filter, isJb_iff, allF_mem]
  exact ⟨fun h => h.2, fun h => ⟨h.1, h⟩⟩
theorem allJ_nd (n : Nat) (l : List Opn) : (allJ n l).Nodup := by
  unfold allJ
  exact (srt_perm _).nodup_iff.mpr (List.Nodup.sublist List.filter_sublist (allF_nd n))
theorem allJ_len {n : Nat} {l : List Opn} (hn : n ≤ 8) : (allJ n l).length ≤ 40320 := by
  unfold allJ
  rw [(srt_perm _).length_eq]
  exact Nat.le_trans (List.length_filter_le _ _) (allF_small hn (Nat.le_refl n))
end Lw

/-! Dicts by their keys' meaning: plain. -/
namespace DL
open PySem PySem.Spec PyProof.Rows L2
/-- what may be a key: a tuple, told apart by its data -/
structure KOk {α : Type} (em : α → D) : Prop where
  key : ∀ a, ∃ k, nk (em a) = some k ∧ nkOkB k = true
  tup : ∀ a, tupD (em a) = true
  inj : ∀ a b k, nk (em a) = some k → nk (em b) = some k → a = b
section
variable {α : Type} [DecidableEq α] {em : α → D}
/-- a dict: its pairs in their order -/
def getP (L : List (α × D)) (a : α) : Option D := (L.find? fun p => decide (p.1 = a)).map (·.2)
def putP (L : List (α × D)) (a : α) (v : D) : List (α × D) := if (getP L a).isSome then L.map fun p => if p.1 = a then (p.1, v) else p else L ++ [(a, v)]
def dG (em : α → D) (L : List (α × D)) : D := .dct (L.map fun p => em p.1) (L.map (·.2))
/-- the same, frozen -/
def dGl (em : α → D) (L : List (α × D)) : D := .dcl (L.map fun p => em p.1) (L.map (·.2))
theorem get_p (h : KOk em) : ∀ (L : List (α × D)) (a : α) (k : NestedKey), nk (em a) = some k → dGet (L.map fun p => em p.1) (L.map (·.2)) k = getP L a
  | [], a, k, e => rfl
  | p :: L, a, k, e => by
    rw [List.map_cons, List.map_cons, dGet, get_p h L a k e]
    unfold getP
    by_cases c : p.1 = a
    · have : nk (em p.1) = some k := by rw [c]; exact e
      rw [if_pos this, List.find?_cons_of_pos (by simpa using c)]
      rfl
    · have : ¬ nk (em p.1) = some k := fun z => c (h.inj _ _ _ z e)
      rw [if_neg this, List.find?_cons_of_neg (by simpa using c)]
theorem put_p (h : KOk em) (v : D) : ∀ (L : List (α × D)) (a : α) (k : NestedKey), nk (em a) = some k → dPutV (L.map fun p => em p.1) (L.map (·.2)) k v = L.map fun p => if p.1 = a then v else p.2
  | [], a, k, e => rfl
  | p :: L, a, k, e => by
    rw [List.map_cons, List.map_cons, dPutV, put_p h v L a k e, List.map_cons]
    congr 1
    by_cases c : p.1 = a
    · have : nk (em p.1) = some k := by rw [c]; exact e
      rw [if_pos this, if_pos c]
    · have : ¬ nk (em p.1) = some k := fun z => c (h.inj _ _ _ z e)
      rw [if_neg this, if_neg c]
theorem kd_ok (h : KOk em) (L : List (α × D)) (a : α) : kdOk (L.map fun p => em p.1) (em a) = true := by
  obtain ⟨k, ek, ok⟩ := h.key a
  have ht := h.tup a
  cases ed : em a with
  | tup l =>
    rw [ed] at ek
    unfold kdOk
    rw [ek]
    simp only [ok, Bool.and_true, List.all_eq_true]
    intro d hd
    obtain ⟨p, _, rfl⟩ := List.mem_map.mp hd
    exact h.tup _
  | _ => rw [ed] at ht; cases ht
theorem find_g (h : KOk em) (L : List (α × D)) (a : α) : dFind (dG em L) (em a) = some (getP L a) := by
  obtain ⟨k, ek, ok⟩ := h.key a
  unfold dFind dG dkv
  simp only [kd_ok h L a, if_true, ek, Option.map_some, get_p h L a k ek]
theorem find_gl (h : KOk em) (L : List (α × D)) (a : α) : dFind (dGl em L) (em a) = some (getP L a) := by
  obtain ⟨k, ek, ok⟩ := h.key a
  unfold dFind dGl dkv
  simp only [kd_ok h L a, if_true, ek, Option.map_some, get_p h L a k ek]
theorem in_g (h : KOk em) (L : List (α × D)) (a : α) : dQIn false (em a) (dG em L) = .ok (.bl (getP L a).isSome) := by
  unfold dQIn; rw [find_g h]; rfl
theorem in_gl (h : KOk em) (L : List (α × D)) (a : α) : dQIn false (em a) (dGl em L) = .ok (.bl (getP L a).isSome) := by
  unfold dQIn; rw [find_gl h]; rfl
theorem notin_g (h : KOk em) (L : List (α × D)) (a : α) : dQIn true (em a) (dG em L) = .ok (.bl (!(getP L a).isSome)) := by
  unfold dQIn; rw [find_g h]; rfl
theorem ix_g (h : KOk em) (L : List (α × D)) (a : α) {v : D} (e : getP L a = some v) : dQIx (dG em L) (em a) = .ok v := by
  unfold dQIx; rw [find_g h, e]
theorem ix_gl (h : KOk em) (L : List (α × D)) (a : α) {v : D} (e : getP L a = some v) : dQIx (dGl em L) (em a) = .ok v := by
  unfold dQIx; rw [find_gl h, e]
theorem put_g (h : KOk em) (L : List (α × D)) (a : α) (v : D) {k : NestedKey} (ek : nk (em a) = some k) : dPut (L.map fun p => em p.1) (L.map (·.2)) (em a) k v = dG em (putP L a v) := by
  unfold dPut putP
  rw [get_p h L a k ek, put_p h v L a k ek]
  split
  · unfold dG
    rw [List.map_map, List.map_map]
    congr 1
    · exact List.map_congr_left fun p _ => by show em p.1 = em (if p.1 = a then (p.1, v) else p).1; split <;> rfl
    · exact List.map_congr_left fun p _ => by show (if p.1 = a then v else p.2) = (if p.1 = a then (p.1, v) else p).2; split <;> rfl
  · unfold dG
    simp
theorem stQ_g (h : KOk em) {L : List (α × D)} {a : α} {v : D} {e : Env} {da db : Env → R D} (i : Nat) (h1 : e[i]? = some (some (dG em L))) (h2 : da e = .ok v) (h3 : db e = .ok (em a)) (hl : L.length < sizeLine) :
    stQ i da db e = .nx (e.set i (some (dG em (putP L a v)))) := by
  obtain ⟨k, ek, ok⟩ := h.key a
  unfold stQ
  rw [h1]
  have : kdOk (L.map fun p => em p.1) (em a) = true := kd_ok h L a
  simp only [dG, h2, h3, out_ok, this, Bool.true_and, List.length_map, hl, decide_true, if_true, ek]
  rw [put_g h L a v ek]
  rfl
theorem keys_g (L : List (α × D)) : dKeys (dGl em L) = .ok (L.map fun p => em p.1) := rfl
theorem frz_g {i : Nat} {L : List (α × D)} {e : Env} {d1 : Env → Out} (h : e[i]? = some (some (dG em L))) : frzO i d1 e = d1 (e.set i (some (dGl em L))) := by
  unfold frzO
  rw [h]
  rfl
theorem frz_gl {i : Nat} {L : List (α × D)} {e : Env} {d1 : Env → Out} (h : e[i]? = some (some (dGl em L))) : frzO i d1 e = d1 e := by
  unfold frzO
  rw [h]
  rfl
theorem gvL_g {i : Nat} {L : List (α × D)} {e : Env} (h : e[i]? = some (some (dGl em L))) : gvL i e = .ok (dGl em L) := by
  unfold gvL
  rw [h]
  rfl
theorem wp_frz {i : Nat} {L : List (α × D)} {e : Env} {d1 rest : Env → Out} {Q : Po} (h : e[i]? = some (some (dG em L))) (k : (seqO d1 rest (e.set i (some (dGl em L)))).wp Q) : (seqO (frzO i d1) rest e).wp Q := by
  rw [seqO_eq, frz_g h]
  rw [seqO_eq] at k
  exact k
theorem wp_frz2 {i : Nat} {L : List (α × D)} {e : Env} {d1 rest : Env → Out} {Q : Po} (h : e[i]? = some (some (dGl em L))) (k : (seqO d1 rest e).wp Q) : (seqO (frzO i d1) rest e).wp Q := by
  rw [seqO_eq, frz_gl h]
  rw [seqO_eq] at k
  exact k
theorem wp_stQ (h : KOk em) {L : List (α × D)} {a : α} {v : D} {e : Env} {da db : Env → R D} {rest : Env → Out} {Q : Po} (i : Nat) (h1 : e[i]? = some (some (dG em L))) (h2 : da e = .ok v) (h3 : db e = .ok (em a)) (hl : L.length < sizeLine)
    (k : (rest (e.set i (some (dG em (putP L a v))))).wp Q) : (seqO (stQ i da db) rest e).wp Q := by
  rw [seqO_eq, stQ_g h i h1 h2 h3 hl]
  exact k
/-! ### as sets -/
/-- all values alike -/
def setP (S : List α) : List (α × D) := S.map fun a => (a, .bl true)
def insS (S : List α) (a : α) : List α := if a ∈ S then S else S ++ [a]
theorem getP_set (S : List α) (a : α) : getP (setP S) a = if a ∈ S then some (.bl true) else none := by
  unfold getP setP
  induction S with
  | nil => rfl
  | cons b S ih =>
    rw [List.map_cons]
    by_cases c : b = a
    · rw [List.find?_cons_of_pos (by simpa using c), if_pos (by simp [c])]
      rfl
    · rw [List.find?_cons_of_neg (by simpa using c), ih]
      have : (a ∈ b :: S) ↔ a ∈ S := by simp [Ne.symm c]
      simp only [this]
theorem putP_set (S : List α) (a : α) : putP (setP S) a (.bl true) = setP (insS S a) := by
  unfold putP insS
  rw [getP_set]
  by_cases c : a ∈ S
  · rw [if_pos c, if_pos c]
    unfold setP
    rw [Option.isSome_some, if_pos rfl, List.map_map]
    exact List.map_congr_left fun b _ => by
      show (if b = a then (b, D.bl true) else (b, .bl true)) = _
      split <;> rfl
  · rw [if_neg c, if_neg c]
    unfold setP
    simp
theorem keys_set (S : List α) : (setP S).map (fun p => em p.1) = S.map em := by
  unfold setP
  rw [List.map_map]
  rfl
theorem mem_ins {S : List α} {a b : α} : b ∈ insS S a ↔ b ∈ S ∨ b = a := by
  unfold insS
  split
  · rename_i h
    exact ⟨.inl, fun z => z.elim id fun e => e ▸ h⟩
  · simp
theorem nd_ins {S : List α} {a : α} (h : S.Nodup) : (insS S a).Nodup := by
  unfold insS
  split
  · exact h
  · rename_i n
    rw [List.nodup_append]
    refine ⟨h, by simp, fun x hx y hy => ?_⟩
    rw [List.mem_singleton.mp hy]
    rintro rfl
    exact n hx
theorem len_ins (S : List α) (a : α) : (insS S a).length ≤ S.length + 1 := by
  unfold insS
  split <;> simp
end
/-! ### keys that are rows, pairs of rows -/
def nkN (c : List Nat) : NestedKey := .tup (c.map fun (x : Nat) => .num (x : Int))
theorem nk_tN (c : List Nat) : nk (tN c) = some (nkN c) := by
  show nk (.tup _) = _
  unfold nk nkN
  have : nkAll (c.map nD) = some (c.map fun (x : Nat) => NestedKey.num (x : Int)) := by
    induction c with
    | nil => rfl
    | cons x c ih => rw [List.map_cons, nkAll, ih]; rfl
  rw [this]
  rfl
theorem nkN_inj {a b : List Nat} (h : nkN a = nkN b) : a = b := by
  unfold nkN at h
  injection h with h
  induction a generalizing b with
  | nil => cases b with
    | nil => rfl
    | cons y b => simp at h
  | cons x a ih => cases b with
    | nil => simp at h
    | cons y b =>
      simp only [List.map_cons, List.cons.injEq, NestedKey.num.injEq, Int.natCast_inj] at h
      rw [h.1, ih h.2]
theorem nkN_ok (c : List Nat) : nkPlain (nkN c) = true ∧ (nkN c).depth ≤ 2 := by
  unfold nkN
  constructor
  · rw [nkPlain]
    induction c with
    | nil => rfl
    | cons x c ih => rw [List.map_cons, nkPlainAll, ih]; rfl
  · have : NestedKey.depthAll (c.map fun (x : Nat) => NestedKey.num (x : Int)) ≤ 1 := by
      induction c with
      | nil => simp [NestedKey.depthAll]
      | cons x c ih => rw [List.map_cons]; simp only [NestedKey.depthAll, NestedKey.depth]; omega
    simp only [NestedKey.depth]
    omega
theorem ko_tN : KOk tN where
  key c := ⟨_, nk_tN c, by
    unfold nkOkB
    rw [(nkN_ok c).1, Bool.true_and, decide_eq_true_eq]
    exact Nat.le_trans (nkN_ok c).2 (by omega)⟩
  tup _ := rfl
  inj a b k h1 h2 := by
    rw [nk_tN] at h1 h2
    exact nkN_inj (Option.some.inj (h1.trans h2.symm))
theorem ko_pair : KOk (fun p : List Nat × List Nat => D.tup [tN p.1, tN p.2]) where
  key p := ⟨.tup [nkN p.1, nkN p.2], by unfold nk nkAll; rw [nk_tN, nkAll, nk_tN, nkAll]; rfl, by
    have h1 := nkN_ok p.1
    have h2 := nkN_ok p.2
    unfold nkOkB
    rw [nkPlain, nkPlainAll, nkPlainAll, nkPlainAll, h1.1, h2.1]
    rw [Bool.and_self, Bool.and_self, Bool.true_and, decide_eq_true_eq, NestedKey.depth, NestedKey.depthAll, NestedKey.depthAll, NestedKey.depthAll]
    omega⟩
  tup _ := rfl
  inj a b k h1 h2 := by
    have e : ∀ p : List Nat × List Nat, nk (D.tup [tN p.1, tN p.2]) = some (.tup [nkN p.1, nkN p.2]) := fun p => by unfold nk nkAll; rw [nk_tN, nkAll, nk_tN, nkAll]; rfl
    rw [e] at h1 h2
    have := h1.trans h2.symm
    simp only [Option.some.injEq, NestedKey.tup.injEq, List.cons.injEq, and_true] at this
    exact Prod.ext (nkN_inj this.1) (nkN_inj this.2)
end DL


namespace Lw
open PySem PySem.Spec PyProof.Rows L2 DL
theorem tps_in {n : Nat} : ∀ {k : Nat} {r : List Nat}, r.length = k → Th n r → r ∈ tps n k
  | 0, r, h, _ => by
    obtain rfl := List.length_eq_zero_iff.mp h
    simp [tps]
  | k + 1, r, h, t => by
    have hr : r ≠ [] := fun z => by rw [z] at h; simp at h
    show r ∈ (tps n k).flatMap fun r => (List.range n).map fun t => r ++ [t]
    refine List.mem_flatMap.mpr ⟨r.dropLast, tps_in (by simp [h]) fun x hx => t x (List.dropLast_subset r hx), List.mem_map.mpr ⟨r.getLast hr, List.mem_range.mpr (t _ (List.getLast_mem hr)), List.dropLast_concat_getLast hr⟩⟩
/-- from a to b by the one and then the other -/
def Lk (n : Nat) (c d : List Nat) (a b : Nat) : Prop := ∃ e, e < n ∧ nth c a = nth c e ∧ nth d e = nth d b
theorem Lk.turn {n : Nat} {c d : List Nat} {a b : Nat} (h : Lk n c d a b) : Lk n d c b a := by
  obtain ⟨e, he, h1, h2⟩ := h
  exact ⟨e, he, h2.symm, h1.symm⟩
def SymL (n : Nat) (c d : List Nat) : Prop := ∀ a b, a < n → b < n → Lk n c d a b → Lk n c d b a
theorem SymL.swap {n : Nat} {c d : List Nat} (h : SymL n c d) : SymL n d c := fun a b ha hb k => (h b a hb ha k.turn).turn
theorem are_ex_eq {n : Nat} {c d : List Nat} (h1 : 1 ≤ n) (h8 : n ≤ 8) (hc : c.length = n) (hd : d.length = n) : ∃ b, F_are_exchanged [tN c, tN d] = .ok (.bl b) ∧ (b = true ↔ SymL n c d) := by
  have n3 : n ^ 3 ≤ 512 := Nat.le_trans (Nat.pow_le_pow_left h8 3) (by decide)
  have tp : F_tuples [nD n, .int 3] = .ok (.lst ((tps n 3).map tN)) := tuples_eq n 3 h1 (by omega) (by omega) (by omega)
  suffices H : ∀ q, F_are_exchanged [tN c, tN d] = q → ∃ b, q = .ok (.bl b) ∧ (b = true ↔ SymL n c d) from H _ rfl
  rintro q rfl
  refine fn_wpP (fun q => ∃ b, q = .ok (.bl b) ∧ (b = true ↔ SymL n c d)) rfl ?_
  unfold den_are_exchanged
  simp only [List.map_cons, List.map_nil, Nat.reduceSub, List.replicate_succ, List.replicate_zero, List.cons_append, List.nil_append]
  refine wp_set (d := nD n) (by simp only [xSet, xAsg, xPar, xExpr, xRet, xRetN, xIf, xFor, xRaise, eBin, eCall, eNil, eCons, eTup, eLst, eChain, tVal, tCmp', tChain', eIsN, eNotN, tIsN', tNotN', tNot', tAnd', tOr', eAnd, eOr, eNot, eNeg, eIf, pNone, pSome, eSl, eDef, eIm, eIsi, sSeq, sRg1, sRg2, tYes', gNil', gCons', unpk, wipeE, eD0, eD1, sKeys, eQix, List.map_cons, List.map_nil, gv_eq, sv_eq, mkT_0, mkT_1, mkT_2, mkT_3, mkT_4, mkT_5, mkL_0, mkL_1, mkL_2, mkL_3, mkL_4, mkL_5, cst_eq, okb, excb, nx_ok, nxA_ok, nxO_nx, nxO_rt, out_ok, out_exc, seqO_eq, next_nx, next_rt, next_bk, next_ct, next_exc, wp_nx, wp_rt, wp_exc, wp_bk, wp_ct, wp_next, dAdd_ii, dSub_ii, dCmp_ii, asB_bl, asI_int, asInt_int, dInt_int, dInt_bl, dLen_tup, dLen_lst, dLen_frz, dMin2_eq, dMax2_eq, dTuple_lst, dTuple_tup, dTuple_frz, dList_lst, dList_tup, dIter_tup, dIter_lst, dIter_frz, dIx_t0, dIx_t1, dIx_t2, dIx_l0, dIx_l1, dIx_l2, dSl_tup, dSl_lst, dEq_ii, dNe_ii, dEq_bb, dNe_bb, dAll_map, dAny_map, List.getElem?_cons_zero, List.getElem?_cons_succ, List.set_cons_zero, List.set_cons_succ, List.length_cons, List.length_nil, Nat.reduceAdd, Nat.zero_add, Nat.reduceSub, List.replicate_succ, List.replicate_zero, List.cons_append, List.nil_append, List.append_nil, reduceIte, if_true, if_false, Bool.false_eq_true, Bool.not_true, Bool.not_false, List.length_map, hc]) ?_
  refine wp_set (d := dG tN (setP [])) rfl ?_
  simp only [List.set_cons_succ, List.set_cons_zero]
  refine wp_loop (l := (tps n 3).map tN) (by simp only [xSet, xAsg, xPar, xExpr, xRet, xRetN, xIf, xFor, xRaise, eBin, eCall, eNil, eCons, eTup, eLst, eChain, tVal, tCmp', tChain', eIsN, eNotN, tIsN', tNotN', tNot', tAnd', tOr', eAnd, eOr, eNot, eNeg, eIf, pNone, pSome, eSl, eDef, eIm, eIsi, sSeq, sRg1, sRg2, tYes', gNil', gCons', unpk, wipeE, eD0, eD1, sKeys, eQix, List.map_cons, List.map_nil, gv_eq, sv_eq, mkT_0, mkT_1, mkT_2, mkT_3, mkT_4, mkT_5, mkL_0, mkL_1, mkL_2, mkL_3, mkL_4, mkL_5, cst_eq, okb, excb, nx_ok, nxA_ok, nxO_nx, nxO_rt, out_ok, out_exc, seqO_eq, next_nx, next_rt, next_bk, next_ct, next_exc, wp_nx, wp_rt, wp_exc, wp_bk, wp_ct, wp_next, dAdd_ii, dSub_ii, dCmp_ii, asB_bl, asI_int, asInt_int, dInt_int, dInt_bl, dLen_tup, dLen_lst, dLen_frz, dMin2_eq, dMax2_eq, dTuple_lst, dTuple_tup, dTuple_frz, dList_lst, dList_tup, dIter_tup, dIter_lst, dIter_frz, dIx_t0, dIx_t1, dIx_t2, dIx_l0, dIx_l1, dIx_l2, dSl_tup, dSl_lst, dEq_ii, dNe_ii, dEq_bb, dNe_bb, dAll_map, dAny_map, List.getElem?_cons_zero, List.getElem?_cons_succ, List.set_cons_zero, List.set_cons_succ, List.length_cons, List.length_nil, Nat.reduceAdd, Nat.zero_add, Nat.reduceSub, List.replicate_succ, List.replicate_zero, List.cons_append, List.nil_append, List.append_nil, reduceIte, if_true, if_false, Bool.false_eq_true, Bool.not_true, Bool.not_false, tp]) ?_
  refine wp_for tN (fun p e => ∃ S : List (List Nat), (∀ x, x ∈ S ↔ ∃ r ∈ p, nth c (nth r 0) = nth c (nth r 1) ∧ nth d (nth r 1) = nth d (nth r 2) ∧ x = [nth r 0, nth r 2]) ∧ S.length ≤ p.length ∧ ∃ a4 a5 a6, e = [some (tN c), some (tN d), some (nD n), some (dG tN (setP S)), a4, a5, a6]) (tps n 3) ⟨[], fun x => by simp, by simp, _, _, _, rfl⟩ ?_ ?_
  · rintro p r q hp e ⟨S, mS, lS, a4, a5, a6, rfl⟩
    have hr : r ∈ tps n 3 := by rw [hp]; simp
    have lp : p.length ≤ 512 := by
      have := tps_length n 3
      rw [hp] at this
      simp at this
      omega
    obtain ⟨z1, z2⟩ := tps_mem hr
    match r, z1, z2 with
    | [a, b, k], z1, z2 =>
      have ha : a < n := z2 a (by simp)
      have hb : b < n := z2 b (by simp)
      have hk : k < n := z2 k (by simp)
      refine ⟨_, rfl, ?_⟩
      simp only [List.set_cons_succ, List.set_cons_zero]
      have i1 : dIx (tN c) (nD a) = .ok (nD (nth c a)) := dIx_tN (by omega)
      have i2 : dIx (tN c) (nD b) = .ok (nD (nth c b)) := dIx_tN (by omega)
      have i3 : dIx (tN d) (nD b) = .ok (nD (nth d b)) := dIx_tN (by omega)
      have i4 : dIx (tN d) (nD k) = .ok (nD (nth d k)) := dIx_tN (by omega)
      have cmp : ∀ x y : Nat, dEq (nD x) (nD y) = .ok (.bl (decide (x = y))) := fun x y => em_nat.dEq x y
      by_cases hg : nth c a = nth c b ∧ nth d b = nth d k
      · refine wp_yes (by simp only [xSet, xAsg, xPar, xExpr, xRet, xRetN, xIf, xFor, xRaise, eBin, eCall, eNil, eCons, eTup, eLst, eChain, tVal, tCmp', tChain', eIsN, eNotN, tIsN', tNotN', tNot', tAnd', tOr', eAnd, eOr, eNot, eNeg, eIf, pNone, pSome, eSl, eDef, eIm, eIsi, sSeq, sRg1, sRg2, tYes', gNil', gCons', unpk, wipeE, eD0, eD1, sKeys, eQix, List.map_cons, List.map_nil, gv_eq, sv_eq, mkT_0, mkT_1, mkT_2, mkT_3, mkT_4, mkT_5, mkL_0, mkL_1, mkL_2, mkL_3, mkL_4, mkL_5, cst_eq, okb, excb, nx_ok, nxA_ok, nxO_nx, nxO_rt, out_ok, out_exc, seqO_eq, next_nx, next_rt, next_bk, next_ct, next_exc, wp_nx, wp_rt, wp_exc, wp_bk, wp_ct, wp_next, dAdd_ii, dSub_ii, dCmp_ii, asB_bl, asI_int, asInt_int, dInt_int, dInt_bl, dLen_tup, dLen_lst, dLen_frz, dMin2_eq, dMax2_eq, dTuple_lst, dTuple_tup, dTuple_frz, dList_lst, dList_tup, dIter_tup, dIter_lst, dIter_frz, dIx_t0, dIx_t1, dIx_t2, dIx_l0, dIx_l1, dIx_l2, dSl_tup, dSl_lst, dEq_ii, dNe_ii, dEq_bb, dNe_bb, dAll_map, dAny_map, List.getElem?_cons_zero, List.getElem?_cons_succ, List.set_cons_zero, List.set_cons_succ, List.length_cons, List.length_nil, Nat.reduceAdd, Nat.zero_add, Nat.reduceSub, List.replicate_succ, List.replicate_zero, List.cons_append, List.nil_append, List.append_nil, reduceIte, if_true, if_false, Bool.false_eq_true, Bool.not_true, Bool.not_false, i1, i2, i3, i4, cmp, hg.1, hg.2, decide_true]) ?_
        refine wp_stQ ko_tN (a := [a, k]) (v := .bl true) 3 rfl rfl (by simp only [xSet, xAsg, xPar, xExpr, xRet, xRetN, xIf, xFor, xRaise, eBin, eCall, eNil, eCons, eTup, eLst, eChain, tVal, tCmp', tChain', eIsN, eNotN, tIsN', tNotN', tNot', tAnd', tOr', eAnd, eOr, eNot, eNeg, eIf, pNone, pSome, eSl, eDef, eIm, eIsi, sSeq, sRg1, sRg2, tYes', gNil', gCons', unpk, wipeE, eD0, eD1, sKeys, eQix, List.map_cons, List.map_nil, gv_eq, sv_eq, mkT_0, mkT_1, mkT_2, mkT_3, mkT_4, mkT_5, mkL_0, mkL_1, mkL_2, mkL_3, mkL_4, mkL_5, cst_eq, okb, excb, nx_ok, nxA_ok, nxO_nx, nxO_rt, out_ok, out_exc, seqO_eq, next_nx, next_rt, next_bk, next_ct, next_exc, wp_nx, wp_rt, wp_exc, wp_bk, wp_ct, wp_next, dAdd_ii, dSub_ii, dCmp_ii, asB_bl, asI_int, asInt_int, dInt_int, dInt_bl, dLen_tup, dLen_lst, dLen_frz, dMin2_eq, dMax2_eq, dTuple_lst, dTuple_tup, dTuple_frz, dList_lst, dList_tup, dIter_tup, dIter_lst, dIter_frz, dIx_t0, dIx_t1, dIx_t2, dIx_l0, dIx_l1, dIx_l2, dSl_tup, dSl_lst, dEq_ii, dNe_ii, dEq_bb, dNe_bb, dAll_map, dAny_map, List.getElem?_cons_zero, List.getElem?_cons_succ, List.set_cons_zero, List.set_cons_succ, List.length_cons, List.length_nil, Nat.reduceAdd, Nat.zero_add, Nat.reduceSub, List.replicate_succ, List.replicate_zero, List.cons_append, List.nil_append, List.append_nil, reduceIte, if_true, if_false, Bool.false_eq_true, Bool.not_true, Bool.not_false]; rfl) (by unfold setP; rw [List.length_map, sizeLine_eq]; omega) ?_
        rw [putP_set]
        simp only [List.set_cons_succ, List.set_cons_zero]
        refine ⟨insS S [a, k], fun x => ?_, ?_, _, _, _, rfl⟩
        · rw [mem_ins, mS]
          constructor
          · rintro (⟨r, hr, h⟩ | rfl)
            · exact ⟨r, List.mem_append_left _ hr, h⟩
            · exact ⟨[a, b, k], by simp, by simpa [nth] using hg.1, by simpa [nth] using hg.2, by simp [nth]⟩
          · rintro ⟨r, hr, h1, h2, h3⟩
            rcases List.mem_append.mp hr with hr | hr
            · exact .inl ⟨r, hr, h1, h2, h3⟩
            · rw [List.mem_singleton.mp hr] at h3
              exact .inr (by simpa [nth] using h3)
        · have := len_ins S [a, k]
          simp
          omega
      · have hg' : ¬ (decide (nth c a = nth c b) = true ∧ decide (nth d b = nth d k) = true) := by simpa using hg
        refine wp_no ?_ ?_
        · by_cases hq : nth c a = nth c b
          · have hq2 : ¬ nth d b = nth d k := fun z => hg ⟨hq, z⟩
            simp only [xSet, xAsg, xPar, xExpr, xRet, xRetN, xIf, xFor, xRaise, eBin, eCall, eNil, eCons, eTup, eLst, eChain, tVal, tCmp', tChain', eIsN, eNotN, tIsN', tNotN', tNot', tAnd', tOr', eAnd, eOr, eNot, eNeg, eIf, pNone, pSome, eSl, eDef, eIm, eIsi, sSeq, sRg1, sRg2, tYes', gNil', gCons', unpk, wipeE, eD0, eD1, sKeys, eQix, List.map_cons, List.map_nil, gv_eq, sv_eq, mkT_0, mkT_1, mkT_2, mkT_3, mkT_4, mkT_5, mkL_0, mkL_1, mkL_2, mkL_3, mkL_4, mkL_5, cst_eq, okb, excb, nx_ok, nxA_ok, nxO_nx, nxO_rt, out_ok, out_exc, seqO_eq, next_nx, next_rt, next_bk, next_ct, next_exc, wp_nx, wp_rt, wp_exc, wp_bk, wp_ct, wp_next, dAdd_ii, dSub_ii, dCmp_ii, asB_bl, asI_int, asInt_int, dInt_int, dInt_bl, dLen_tup, dLen_lst, dLen_frz, dMin2_eq, dMax2_eq, dTuple_lst, dTuple_tup, dTuple_frz, dList_lst, dList_tup, dIter_tup, dIter_lst, dIter_frz, dIx_t0, dIx_t1, dIx_t2, dIx_l0, dIx_l1, dIx_l2, dSl_tup, dSl_lst, dEq_ii, dNe_ii, dEq_bb, dNe_bb, dAll_map, dAny_map, List.getElem?_cons_zero, List.getElem?_cons_succ, List.set_cons_zero, List.set_cons_succ, List.length_cons, List.length_nil, Nat.reduceAdd, Nat.zero_add, Nat.reduceSub, List.replicate_succ, List.replicate_zero, List.cons_append, List.nil_append, List.append_nil, reduceIte, if_true, if_false, Bool.false_eq_true, Bool.not_true, Bool.not_false, i1, i2, i3, i4, cmp, hq, hq2, decide_true, decide_false]
          · simp only [xSet, xAsg, xPar, xExpr, xRet, xRetN, xIf, xFor, xRaise, eBin, eCall, eNil, eCons, eTup, eLst, eChain, tVal, tCmp', tChain', eIsN, eNotN, tIsN', tNotN', tNot', tAnd', tOr', eAnd, eOr, eNot, eNeg, eIf, pNone, pSome, eSl, eDef, eIm, eIsi, sSeq, sRg1, sRg2, tYes', gNil', gCons', unpk, wipeE, eD0, eD1, sKeys, eQix, List.map_cons, List.map_nil, gv_eq, sv_eq, mkT_0, mkT_1, mkT_2, mkT_3, mkT_4, mkT_5, mkL_0, mkL_1, mkL_2, mkL_3, mkL_4, mkL_5, cst_eq, okb, excb, nx_ok, nxA_ok, nxO_nx, nxO_rt, out_ok, out_exc, seqO_eq, next_nx, next_rt, next_bk, next_ct, next_exc, wp_nx, wp_rt, wp_exc, wp_bk, wp_ct, wp_next, dAdd_ii, dSub_ii, dCmp_ii, asB_bl, asI_int, asInt_int, dInt_int, dInt_bl, dLen_tup, dLen_lst, dLen_frz, dMin2_eq, dMax2_eq, dTuple_lst, dTuple_tup, dTuple_frz, dList_lst, dList_tup, dIter_tup, dIter_lst, dIter_frz, dIx_t0, dIx_t1, dIx_t2, dIx_l0, dIx_l1, dIx_l2, dSl_tup, dSl_lst, dEq_ii, dNe_ii, dEq_bb, dNe_bb, dAll_map, dAny_map, List.getElem?_cons_zero, List.getElem?_cons_succ, List.set_cons_zero, List.set_cons_succ, List.length_cons, List.length_nil, Nat.reduceAdd, Nat.zero_add, Nat.reduceSub, List.replicate_succ, List.replicate_zero, List.cons_append, List.nil_append, List.append_nil, reduceIte, if_true, if_false, Bool.false_eq_true, Bool.not_true, Bool.not_false, i1, i2, i3, i4, cmp, hq, decide_false]
        · refine ⟨S, fun x => ?_, by simp; omega, _, _, _, rfl⟩
          rw [mS]
          constructor
          · rintro ⟨r, hr, h⟩
            exact ⟨r, List.mem_append_left _ hr, h⟩
          · rintro ⟨r, hr, h1, h2, h3⟩
            rcases List.mem_append.mp hr with hr | hr
            · exact ⟨r, hr, h1, h2, h3⟩
            · rw [List.mem_singleton.mp hr] at h1 h2
              exact absurd ⟨by simpa [nth] using h1, by simpa [nth] using h2⟩ hg
  · rintro e ⟨S, mS, lS, a4, a5, a6, rfl⟩
    dsimp only
    have lT : (tps n 3).length ≤ 512 := by rw [tps_length]; exact n3
    have mem : ∀ a b, a < n → b < n → ([a, b] ∈ S ↔ Lk n c d a b) := fun a b ha hb => by
      rw [mS]
      constructor
      · rintro ⟨r, hr, h1, h2, h3⟩
        obtain ⟨z1, z2⟩ := tps_mem hr
        simp only [List.cons.injEq, and_true] at h3
        refine ⟨nth r 1, z2 _ (nth_mem (by omega)), ?_, ?_⟩
        · rw [h3.1]; exact h1
        · rw [h3.2]; exact h2
      · rintro ⟨e, he, h1, h2⟩
        exact ⟨[a, e, b], tps_in rfl (fun x hx => by simp at hx; rcases hx with rfl | rfl | rfl <;> assumption), by simpa [nth] using h1, by simpa [nth] using h2, by simp [nth]⟩
    have shape : ∀ x ∈ S, ∃ a b, a < n ∧ b < n ∧ x = [a, b] := fun x hx => by
      obtain ⟨r, hr, h1, h2, h3⟩ := (mS x).mp hx
      obtain ⟨z1, z2⟩ := tps_mem hr
      exact ⟨_, _, z2 _ (nth_mem (by omega)), z2 _ (nth_mem (by omega)), h3⟩
    refine wp_frz (em := tN) rfl ?_
    simp only [List.set_cons_succ, List.set_cons_zero]
    refine wp_ret (d := .bl (S.all fun x => decide ([nth x 1, nth x 0] ∈ S))) ?_ ⟨_, rfl, ?_⟩
    · have e1 : eLc [4, 6] (sKeys (gvL 3)) (unpk 2 (gCons' (sv 4) (gCons' (sv 6) gNil'))) tYes' (eBin (dQIn false) (eTup (eCons (gv 6) (eCons (gv 4) eNil))) (gv 3)) [some (tN c), some (tN d), some (nD n), some (dGl tN (setP S)), a4, a5, a6] = .ok (.lst (S.map fun x => D.bl (decide ([nth x 1, nth x 0] ∈ S)))) := by
        rw [eLc_map tN (fun x => D.bl (decide ([nth x 1, nth x 0] ∈ S))) S (by show (gvL 3 _ >>= dKeys) = _; rw [gvL_g (em := tN) (L := setP S) rfl, R.ok_bind, keys_g, keys_set]) (by omega) ?_]
        intro x hx
        obtain ⟨a, b, ha, hb, rfl⟩ := shape x hx
        refine ⟨_, rfl, rfl, ?_⟩
        have e2 : dQIn false (.tup [nD b, nD a]) (dGl tN (setP S)) = .ok (.bl (decide ([b, a] ∈ S))) := by
          have := in_gl ko_tN (setP S) [b, a]
          rw [getP_set] at this
          refine this.trans ?_
          by_cases q : [b, a] ∈ S <;> simp [q]
        simp only [xSet, xAsg, xPar, xExpr, xRet, xRetN, xIf, xFor, xRaise, eBin, eCall, eNil, eCons, eTup, eLst, eChain, tVal, tCmp', tChain', eIsN, eNotN, tIsN', tNotN', tNot', tAnd', tOr', eAnd, eOr, eNot, eNeg, eIf, pNone, pSome, eSl, eDef, eIm, eIsi, sSeq, sRg1, sRg2, tYes', gNil', gCons', unpk, wipeE, eD0, eD1, sKeys, eQix, List.map_cons, List.map_nil, gv_eq, sv_eq, mkT_0, mkT_1, mkT_2, mkT_3, mkT_4, mkT_5, mkL_0, mkL_1, mkL_2, mkL_3, mkL_4, mkL_5, cst_eq, okb, excb, nx_ok, nxA_ok, nxO_nx, nxO_rt, out_ok, out_exc, seqO_eq, next_nx, next_rt, next_bk, next_ct, next_exc, wp_nx, wp_rt, wp_exc, wp_bk, wp_ct, wp_next, dAdd_ii, dSub_ii, dCmp_ii, asB_bl, asI_int, asInt_int, dInt_int, dInt_bl, dLen_tup, dLen_lst, dLen_frz, dMin2_eq, dMax2_eq, dTuple_lst, dTuple_tup, dTuple_frz, dList_lst, dList_tup, dIter_tup, dIter_lst, dIter_frz, dIx_t0, dIx_t1, dIx_t2, dIx_l0, dIx_l1, dIx_l2, dSl_tup, dSl_lst, dEq_ii, dNe_ii, dEq_bb, dNe_bb, dAll_map, dAny_map, List.getElem?_cons_zero, List.getElem?_cons_succ, List.set_cons_zero, List.set_cons_succ, List.length_cons, List.length_nil, Nat.reduceAdd, Nat.zero_add, Nat.reduceSub, List.replicate_succ, List.replicate_zero, List.cons_append, List.nil_append, List.append_nil, reduceIte, if_true, if_false, Bool.false_eq_true, Bool.not_true, Bool.not_false, wipeE, e2, nth, List.getD_cons_zero, List.getD_cons_succ]
      simp only [xSet, xAsg, xPar, xExpr, xRet, xRetN, xIf, xFor, xRaise, eBin, eCall, eNil, eCons, eTup, eLst, eChain, tVal, tCmp', tChain', eIsN, eNotN, tIsN', tNotN', tNot', tAnd', tOr', eAnd, eOr, eNot, eNeg, eIf, pNone, pSome, eSl, eDef, eIm, eIsi, sSeq, sRg1, sRg2, tYes', gNil', gCons', unpk, wipeE, eD0, eD1, sKeys, eQix, List.map_cons, List.map_nil, gv_eq, sv_eq, mkT_0, mkT_1, mkT_2, mkT_3, mkT_4, mkT_5, mkL_0, mkL_1, mkL_2, mkL_3, mkL_4, mkL_5, cst_eq, okb, excb, nx_ok, nxA_ok, nxO_nx, nxO_rt, out_ok, out_exc, seqO_eq, next_nx, next_rt, next_bk, next_ct, next_exc, wp_nx, wp_rt, wp_exc, wp_bk, wp_ct, wp_next, dAdd_ii, dSub_ii, dCmp_ii, asB_bl, asI_int, asInt_int, dInt_int, dInt_bl, dLen_tup, dLen_lst, dLen_frz, dMin2_eq, dMax2_eq, dTuple_lst, dTuple_tup, dTuple_frz, dList_lst, dList_tup, dIter_tup, dIter_lst, dIter_frz, dIx_t0, dIx_t1, dIx_t2, dIx_l0, dIx_l1, dIx_l2, dSl_tup, dSl_lst, dEq_ii, dNe_ii, dEq_bb, dNe_bb, dAll_map, dAny_map, List.getElem?_cons_zero, List.getElem?_cons_succ, List.set_cons_zero, List.set_cons_succ, List.length_cons, List.length_nil, Nat.reduceAdd, Nat.zero_add, Nat.reduceSub, List.replicate_succ, List.replicate_zero, List.cons_append, List.nil_append, List.append_nil, reduceIte, if_true, if_false, Bool.false_eq_true, Bool.not_true, Bool.not_false, e1]
    · rw [List.all_eq_true]
      constructor
      · intro h a b ha hb k
        have := h [a, b] ((mem a b ha hb).mpr k)
        rw [decide_eq_true_eq] at this
        exact (mem b a hb ha).mp (by simpa [nth] using this)
      · intro h x hx
        obtain ⟨a, b, ha, hb, rfl⟩ := shape x hx
        rw [decide_eq_true_eq]
        have := (mem b a hb ha).mpr (h a b ha hb ((mem a b ha hb).mp hx))
        simpa [nth] using this
theorem check_j {n : Nat} {l : List Opn} (g : GA n l) {c : List Nat} (h : IsJ n l c) : F_check_joining [algD n l, tN c] = .ok (tN c) := by
  have := check_joining_eq g (cI c)
  rw [tI_c] at this
  rcases this with ⟨_, _, _, e⟩ | ⟨no, _⟩
  · exact e
  · exact absurd ⟨c, rfl, h⟩ no
theorem check_bad {n : Nat} {l : List Opn} (g : GA n l) {r : List Int} (h : r.length ≠ n) : F_check_joining [algD n l, tI r] = .exc "InvalidJoining" := by
  rcases check_joining_eq g r with ⟨c, rfl, j, _⟩ | ⟨_, e⟩
  · exact absurd (by unfold cI; rw [List.length_map]; exact j.1.len) h
  · exact e
theorem exchange_eq {n : Nat} {l : List Opn} (g : GA n l) {c d : List Nat} (hc : IsJ n l c) (hd : IsJ n l d) : ∃ b, F_exchange [algD n l, tN c, tN d] = .ok (.bl b) ∧ (b = true ↔ SymL n c d) := by
  obtain ⟨b, e, hb⟩ := are_ex_eq g.n1 g.n8 hc.1.len hd.1.len
  refine ⟨b, ?_, hb⟩
  refine fn_wp rfl ?_
  unfold den_exchange
  refine wp_expr (d := tN c) (by simp only [xSet, xAsg, xPar, xExpr, xRet, xRetN, xIf, xFor, xRaise, eBin, eCall, eNil, eCons, eTup, eLst, eChain, tVal, tCmp', tChain', eIsN, eNotN, tIsN', tNotN', tNot', tAnd', tOr', eAnd, eOr, eNot, eNeg, eIf, pNone, pSome, eSl, eDef, eIm, eIsi, sSeq, sRg1, sRg2, tYes', gNil', gCons', unpk, wipeE, eD0, eD1, sKeys, eQix, List.map_cons, List.map_nil, gv_eq, sv_eq, mkT_0, mkT_1, mkT_2, mkT_3, mkT_4, mkT_5, mkL_0, mkL_1, mkL_2, mkL_3, mkL_4, mkL_5, cst_eq, okb, excb, nx_ok, nxA_ok, nxO_nx, nxO_rt, out_ok, out_exc, seqO_eq, next_nx, next_rt, next_bk, next_ct, next_exc, wp_nx, wp_rt, wp_exc, wp_bk, wp_ct, wp_next, dAdd_ii, dSub_ii, dCmp_ii, asB_bl, asI_int, asInt_int, dInt_int, dInt_bl, dLen_tup, dLen_lst, dLen_frz, dMin2_eq, dMax2_eq, dTuple_lst, dTuple_tup, dTuple_frz, dList_lst, dList_tup, dIter_tup, dIter_lst, dIter_frz, dIx_t0, dIx_t1, dIx_t2, dIx_l0, dIx_l1, dIx_l2, dSl_tup, dSl_lst, dEq_ii, dNe_ii, dEq_bb, dNe_bb, dAll_map, dAny_map, List.getElem?_cons_zero, List.getElem?_cons_succ, List.set_cons_zero, List.set_cons_succ, List.length_cons, List.length_nil, Nat.reduceAdd, Nat.zero_add, Nat.reduceSub, List.replicate_succ, List.replicate_zero, List.cons_append, List.nil_append, List.append_nil, reduceIte, if_true, if_false, Bool.false_eq_true, Bool.not_true, Bool.not_false, check_j g hc]) ?_
  refine wp_expr (d := tN d) (by simp only [xSet, xAsg, xPar, xExpr, xRet, xRetN, xIf, xFor, xRaise, eBin, eCall, eNil, eCons, eTup, eLst, eChain, tVal, tCmp', tChain', eIsN, eNotN, tIsN', tNotN', tNot', tAnd', tOr', eAnd, eOr, eNot, eNeg, eIf, pNone, pSome, eSl, eDef, eIm, eIsi, sSeq, sRg1, sRg2, tYes', gNil', gCons', unpk, wipeE, eD0, eD1, sKeys, eQix, List.map_cons, List.map_nil, gv_eq, sv_eq, mkT_0, mkT_1, mkT_2, mkT_3, mkT_4, mkT_5, mkL_0, mkL_1, mkL_2, mkL_3, mkL_4, mkL_5, cst_eq, okb, excb, nx_ok, nxA_ok, nxO_nx, nxO_rt, out_ok, out_exc, seqO_eq, next_nx, next_rt, next_bk, next_ct, next_exc, wp_nx, wp_rt, wp_exc, wp_bk, wp_ct, wp_next, dAdd_ii, dSub_ii, dCmp_ii, asB_bl, asI_int, asInt_int, dInt_int, dInt_bl, dLen_tup, dLen_lst, dLen_frz, dMin2_eq, dMax2_eq, dTuple_lst, dTuple_tup, dTuple_frz, dList_lst, dList_tup, dIter_tup, dIter_lst, dIter_frz, dIx_t0, dIx_t1, dIx_t2, dIx_l0, dIx_l1, dIx_l2, dSl_tup, dSl_lst, dEq_ii, dNe_ii, dEq_bb, dNe_bb, dAll_map, dAny_map, List.getElem?_cons_zero, List.getElem?_cons_succ, List.set_cons_zero, List.set_cons_succ, List.length_cons, List.length_nil, Nat.reduceAdd, Nat.zero_add, Nat.reduceSub, List.replicate_succ, List.replicate_zero, List.cons_append, List.nil_append, List.append_nil, reduceIte, if_true, if_false, Bool.false_eq_true, Bool.not_true, Bool.not_false, check_j g hd]) ?_
  exact wp_ret (by simp only [xSet, xAsg, xPar, xExpr, xRet, xRetN, xIf, xFor, xRaise, eBin, eCall, eNil, eCons, eTup, eLst, eChain, tVal, tCmp', tChain', eIsN, eNotN, tIsN', tNotN', tNot', tAnd', tOr', eAnd, eOr, eNot, eNeg, eIf, pNone, pSome, eSl, eDef, eIm, eIsi, sSeq, sRg1, sRg2, tYes', gNil', gCons', unpk, wipeE, eD0, eD1, sKeys, eQix, List.map_cons, List.map_nil, gv_eq, sv_eq, mkT_0, mkT_1, mkT_2, mkT_3, mkT_4, mkT_5, mkL_0, mkL_1, mkL_2, mkL_3, mkL_4, mkL_5, cst_eq, okb, excb, nx_ok, nxA_ok, nxO_nx, nxO_rt, out_ok, out_exc, seqO_eq, next_nx, next_rt, next_bk, next_ct, next_exc, wp_nx, wp_rt, wp_exc, wp_bk, wp_ct, wp_next, dAdd_ii, dSub_ii, dCmp_ii, asB_bl, asI_int, asInt_int, dInt_int, dInt_bl, dLen_tup, dLen_lst, dLen_frz, dMin2_eq, dMax2_eq, dTuple_lst, dTuple_tup, dTuple_frz, dList_lst, dList_tup, dIter_tup, dIter_lst, dIter_frz, dIx_t0, dIx_t1, dIx_t2, dIx_l0, dIx_l1, dIx_l2, dSl_tup, dSl_lst, dEq_ii, dNe_ii, dEq_bb, dNe_bb, dAll_map, dAny_map, List.getElem?_cons_zero, List.getElem?_cons_succ, List.set_cons_zero, List.set_cons_succ, List.length_cons, List.length_nil, Nat.reduceAdd, Nat.zero_add, Nat.reduceSub, List.replicate_succ, List.replicate_zero, List.cons_append, List.nil_append, List.append_nil, reduceIte, if_true, if_false, Bool.false_eq_true, Bool.not_true, Bool.not_false, e]) rfl
theorem exchange_bad1 {n : Nat} {l : List Opn} (g : GA n l) {r : List Int} (h : F_check_joining [algD n l, tI r] = .exc "InvalidJoining") (d : D) : F_exchange [algD n l, tI r, d] = .exc "InvalidJoining" := by
  refine fn_wp rfl ?_
  unfold den_exchange
  exact wp_exprE (c := "InvalidJoining") (by simp only [xSet, xAsg, xPar, xExpr, xRet, xRetN, xIf, xFor, xRaise, eBin, eCall, eNil, eCons, eTup, eLst, eChain, tVal, tCmp', tChain', eIsN, eNotN, tIsN', tNotN', tNot', tAnd', tOr', eAnd, eOr, eNot, eNeg, eIf, pNone, pSome, eSl, eDef, eIm, eIsi, sSeq, sRg1, sRg2, tYes', gNil', gCons', unpk, wipeE, eD0, eD1, sKeys, eQix, List.map_cons, List.map_nil, gv_eq, sv_eq, mkT_0, mkT_1, mkT_2, mkT_3, mkT_4, mkT_5, mkL_0, mkL_1, mkL_2, mkL_3, mkL_4, mkL_5, cst_eq, okb, excb, nx_ok, nxA_ok, nxO_nx, nxO_rt, out_ok, out_exc, seqO_eq, next_nx, next_rt, next_bk, next_ct, next_exc, wp_nx, wp_rt, wp_exc, wp_bk, wp_ct, wp_next, dAdd_ii, dSub_ii, dCmp_ii, asB_bl, asI_int, asInt_int, dInt_int, dInt_bl, dLen_tup, dLen_lst, dLen_frz, dMin2_eq, dMax2_eq, dTuple_lst, dTuple_tup, dTuple_frz, dList_lst, dList_tup, dIter_tup, dIter_lst, dIter_frz, dIx_t0, dIx_t1, dIx_t2, dIx_l0, dIx_l1, dIx_l2, dSl_tup, dSl_lst, dEq_ii, dNe_ii, dEq_bb, dNe_bb, dAll_map, dAny_map, List.getElem?_cons_zero, List.getElem?_cons_succ, List.set_cons_zero, List.set_cons_succ, List.length_cons, List.length_nil, Nat.reduceAdd, Nat.zero_add, Nat.reduceSub, List.replicate_succ, List.replicate_zero, List.cons_append, List.nil_append, List.append_nil, reduceIte, if_true, if_false, Bool.false_eq_true, Bool.not_true, Bool.not_false, h]) rfl
theorem exchange_bad2 {n : Nat} {l : List Opn} (g : GA n l) {c : List Nat} (hc : IsJ n l c) {r : List Int} (h : F_check_joining [algD n l, tI r] = .exc "InvalidJoining") : F_exchange [algD n l, tN c, tI r] = .exc "InvalidJoining" := by
  refine fn_wp rfl ?_
  unfold den_exchange
  refine wp_expr (d := tN c) (by simp only [xSet, xAsg, xPar, xExpr, xRet, xRetN, xIf, xFor, xRaise, eBin, eCall, eNil, eCons, eTup, eLst, eChain, tVal, tCmp', tChain', eIsN, eNotN, tIsN', tNotN', tNot', tAnd', tOr', eAnd, eOr, eNot, eNeg, eIf, pNone, pSome, eSl, eDef, eIm, eIsi, sSeq, sRg1, sRg2, tYes', gNil', gCons', unpk, wipeE, eD0, eD1, sKeys, eQix, List.map_cons, List.map_nil, gv_eq, sv_eq, mkT_0, mkT_1, mkT_2, mkT_3, mkT_4, mkT_5, mkL_0, mkL_1, mkL_2, mkL_3, mkL_4, mkL_5, cst_eq, okb, excb, nx_ok, nxA_ok, nxO_nx, nxO_rt, out_ok, out_exc, seqO_eq, next_nx, next_rt, next_bk, next_ct, next_exc, wp_nx, wp_rt, wp_exc, wp_bk, wp_ct, wp_next, dAdd_ii, dSub_ii, dCmp_ii, asB_bl, asI_int, asInt_int, dInt_int, dInt_bl, dLen_tup, dLen_lst, dLen_frz, dMin2_eq, dMax2_eq, dTuple_lst, dTuple_tup, dTuple_frz, dList_lst, dList_tup, dIter_tup, dIter_lst, dIter_frz, dIx_t0, dIx_t1, dIx_t2, dIx_l0, dIx_l1, dIx_l2, dSl_tup, dSl_lst, dEq_ii, dNe_ii, dEq_bb, dNe_bb, dAll_map, dAny_map, List.getElem?_cons_zero, List.getElem?_cons_succ, List.set_cons_zero, List.set_cons_succ, List.length_cons, List.length_nil, Nat.reduceAdd, Nat.zero_add, Nat.reduceSub, List.replicate_succ, List.replicate_zero, List.cons_append, List.nil_append, List.append_nil, reduceIte, if_true, if_false, Bool.false_eq_true, Bool.not_true, Bool.not_false, check_j g hc]) ?_
  exact wp_exprE (c := "InvalidJoining") (by simp only [xSet, xAsg, xPar, xExpr, xRet, xRetN, xIf, xFor, xRaise, eBin, eCall, eNil, eCons, eTup, eLst, eChain, tVal, tCmp', tChain', eIsN, eNotN, tIsN', tNotN', tNot', tAnd', tOr', eAnd, eOr, eNot, eNeg, eIf, pNone, pSome, eSl, eDef, eIm, eIsi, sSeq, sRg1, sRg2, tYes', gNil', gCons', unpk, wipeE, eD0, eD1, sKeys, eQix, List.map_cons, List.map_nil, gv_eq, sv_eq, mkT_0, mkT_1, mkT_2, mkT_3, mkT_4, mkT_5, mkL_0, mkL_1, mkL_2, mkL_3, mkL_4, mkL_5, cst_eq, okb, excb, nx_ok, nxA_ok, nxO_nx, nxO_rt, out_ok, out_exc, seqO_eq, next_nx, next_rt, next_bk, next_ct, next_exc, wp_nx, wp_rt, wp_exc, wp_bk, wp_ct, wp_next, dAdd_ii, dSub_ii, dCmp_ii, asB_bl, asI_int, asInt_int, dInt_int, dInt_bl, dLen_tup, dLen_lst, dLen_frz, dMin2_eq, dMax2_eq, dTuple_lst, dTuple_tup, dTuple_frz, dList_lst, dList_tup, dIter_tup, dIter_lst, dIter_frz, dIx_t0, dIx_t1, dIx_t2, dIx_l0, dIx_l1, dIx_l2, dSl_tup, dSl_lst, dEq_ii, dNe_ii, dEq_bb, dNe_bb, dAll_map, dAny_map, List.getElem?_cons_zero, List.getElem?_cons_succ, List.set_cons_zero, List.set_cons_succ, List.length_cons, List.length_nil, Nat.reduceAdd, Nat.zero_add, Nat.reduceSub, List.replicate_succ, List.replicate_zero, List.cons_append, List.nil_append, List.append_nil, reduceIte, if_true, if_false, Bool.false_eq_true, Bool.not_true, Bool.not_false, h]) rfl
end Lw


namespace Lw
open PySem PySem.Spec PyProof.Rows L2 DL
theorem init_t {n : Nat} {l : List Opn} (g : GA n l) : F_Algebra___init__ [nD n, opsT l] = .ok (algD n l) := init_eq g _ rfl (by rw [dLen_tup, List.length_map])
def lkB (n : Nat) (c d : List Nat) (a b : Nat) : Bool := (List.range n).any fun e => decide (nth c a = nth c e) && decide (nth d e = nth d b)
theorem lkB_iff {n : Nat} {c d : List Nat} {a b : Nat} : lkB n c d a b = true ↔ Lk n c d a b := by
  unfold lkB Lk
  rw [List.any_eq_true]
  constructor
  · rintro ⟨e, he, h⟩
    rw [Bool.and_eq_true, decide_eq_true_eq, decide_eq_true_eq] at h
    exact ⟨e, List.mem_range.mp he, h⟩
  · rintro ⟨e, he, h⟩
    exact ⟨e, List.mem_range.mpr he, by rw [Bool.and_eq_true, decide_eq_true_eq, decide_eq_true_eq]; exact h⟩
theorem law_exchange_eq {n : Nat} {c d : List Nat} (h1 : 1 ≤ n) (h8 : n ≤ 8) (hc : c.length = n) (hd : d.length = n) : ∃ b, F__law_exchange [tN c, tN d] = .ok (.bl b) ∧ (b = true ↔ SymL n c d) := by
  have n2 : n ^ 2 ≤ 64 := Nat.le_trans (Nat.pow_le_pow_left h8 2) (by decide)
  have tp : F__law_tuples [nD n, .int 2] = .ok (.lst ((tps n 2).map tN)) := ltuples_eq n 2 h1 (by omega) (by omega) (by omega)
  have lT : (tps n 2).length ≤ 64 := by rw [tps_length]; exact n2
  have cmp : ∀ x y : Nat, dEq (nD x) (nD y) = .ok (.bl (decide (x = y))) := fun x y => em_nat.dEq x y
  have ne : ∀ L : List Nat, dNe (.lst (L.map nD)) (.lst []) = .ok (.bl (decide (L ≠ []))) := fun L => (em_lst em_nat).dNe L []
  have fil : ∀ (c d : List Nat) (a b : Nat), decide (((List.range n).filter fun e => decide (nth c a = nth c e) && decide (nth d e = nth d b)) ≠ []) = lkB n c d a b := fun c d a b => by
    unfold lkB
    rw [Bool.eq_iff_iff, decide_eq_true_eq, List.any_eq_true]
    constructor
    · intro h
      obtain ⟨e, he⟩ := List.exists_mem_of_ne_nil _ h
      rw [List.mem_filter] at he
      exact ⟨e, he⟩
    · rintro ⟨e, he, k⟩ z
      have : e ∈ ([] : List Nat) := by rw [← z, List.mem_filter]; exact ⟨he, k⟩
      simp at this
  refine ⟨decide (((tps n 2).filter fun p => lkB n c d (nth p 0) (nth p 1)) = (tps n 2).filter fun p => lkB n d c (nth p 0) (nth p 1)), ?_, ?_⟩
  · refine fn_wp rfl ?_
    unfold den__law_exchange
    simp only [List.map_cons, List.map_nil, Nat.reduceSub, List.replicate_succ, List.replicate_zero, List.cons_append, List.nil_append]
    refine wp_set (d := nD n) (by simp only [xSet, xAsg, xPar, xExpr, xRet, xRetN, xIf, xFor, xRaise, eBin, eCall, eNil, eCons, eTup, eLst, eChain, tVal, tCmp', tChain', eIsN, eNotN, tIsN', tNotN', tNot', tAnd', tOr', eAnd, eOr, eNot, eNeg, eIf, pNone, pSome, eSl, eDef, eIm, eIsi, sSeq, sRg1, sRg2, tYes', gNil', gCons', unpk, wipeE, eD0, eD1, sKeys, eQix, List.map_cons, List.map_nil, gv_eq, sv_eq, mkT_0, mkT_1, mkT_2, mkT_3, mkT_4, mkT_5, mkL_0, mkL_1, mkL_2, mkL_3, mkL_4, mkL_5, cst_eq, okb, excb, nx_ok, nxA_ok, nxO_nx, nxO_rt, out_ok, out_exc, seqO_eq, next_nx, next_rt, next_bk, next_ct, next_exc, wp_nx, wp_rt, wp_exc, wp_bk, wp_ct, wp_next, dAdd_ii, dSub_ii, dCmp_ii, asB_bl, asI_int, asInt_int, dInt_int, dInt_bl, dLen_tup, dLen_lst, dLen_frz, dMin2_eq, dMax2_eq, dTuple_lst, dTuple_tup, dTuple_frz, dList_lst, dList_tup, dIter_tup, dIter_lst, dIter_frz, dIx_t0, dIx_t1, dIx_t2, dIx_l0, dIx_l1, dIx_l2, dSl_tup, dSl_lst, dEq_ii, dNe_ii, dEq_bb, dNe_bb, dAll_map, dAny_map, List.getElem?_cons_zero, List.getElem?_cons_succ, List.set_cons_zero, List.set_cons_succ, List.length_cons, List.length_nil, Nat.reduceAdd, Nat.zero_add, Nat.reduceSub, List.replicate_succ, List.replicate_zero, List.cons_append, List.nil_append, List.append_nil, reduceIte, if_true, if_false, Bool.false_eq_true, Bool.not_true, Bool.not_false, List.length_map, hc]) ?_
    simp only [List.set_cons_succ, List.set_cons_zero]
    refine wp_set (d := .lst (((tps n 2).filter fun p => lkB n c d (nth p 0) (nth p 1)).map tN)) ?_ ?_
    · rw [eLc_filter tN (fun p => lkB n c d (nth p 0) (nth p 1)) tN (tps n 2) (by simp only [xSet, xAsg, xPar, xExpr, xRet, xRetN, xIf, xFor, xRaise, eBin, eCall, eNil, eCons, eTup, eLst, eChain, tVal, tCmp', tChain', eIsN, eNotN, tIsN', tNotN', tNot', tAnd', tOr', eAnd, eOr, eNot, eNeg, eIf, pNone, pSome, eSl, eDef, eIm, eIsi, sSeq, sRg1, sRg2, tYes', gNil', gCons', unpk, wipeE, eD0, eD1, sKeys, eQix, List.map_cons, List.map_nil, gv_eq, sv_eq, mkT_0, mkT_1, mkT_2, mkT_3, mkT_4, mkT_5, mkL_0, mkL_1, mkL_2, mkL_3, mkL_4, mkL_5, cst_eq, okb, excb, nx_ok, nxA_ok, nxO_nx, nxO_rt, out_ok, out_exc, seqO_eq, next_nx, next_rt, next_bk, next_ct, next_exc, wp_nx, wp_rt, wp_exc, wp_bk, wp_ct, wp_next, dAdd_ii, dSub_ii, dCmp_ii, asB_bl, asI_int, asInt_int, dInt_int, dInt_bl, dLen_tup, dLen_lst, dLen_frz, dMin2_eq, dMax2_eq, dTuple_lst, dTuple_tup, dTuple_frz, dList_lst, dList_tup, dIter_tup, dIter_lst, dIter_frz, dIx_t0, dIx_t1, dIx_t2, dIx_l0, dIx_l1, dIx_l2, dSl_tup, dSl_lst, dEq_ii, dNe_ii, dEq_bb, dNe_bb, dAll_map, dAny_map, List.getElem?_cons_zero, List.getElem?_cons_succ, List.set_cons_zero, List.set_cons_succ, List.length_cons, List.length_nil, Nat.reduceAdd, Nat.zero_add, Nat.reduceSub, List.replicate_succ, List.replicate_zero, List.cons_append, List.nil_append, List.append_nil, reduceIte, if_true, if_false, Bool.false_eq_true, Bool.not_true, Bool.not_false, tp]) (by omega) ?_]
      intro p hp
      obtain ⟨z1, z2⟩ := tps_mem hp
      match p, z1, z2 with
      | [a, b], z1, z2 =>
        have ha : a < n := z2 a (by simp)
        have hb : b < n := z2 b (by simp)
        refine ⟨_, rfl, ?_, fun _ => rfl⟩
        have e1 : ∀ a3 a4 : Option D, eLc [7] (sRg1 (gv 2)) (sv 7) (tAnd' (tCmp' dEq (eBin dIx (gv 0) (gv 5)) (eBin dIx (gv 0) (gv 7))) (tCmp' dEq (eBin dIx (gv 1) (gv 7)) (eBin dIx (gv 1) (gv 6)))) (gv 7) [some (tN c), some (tN d), some (nD n), a3, a4, some (nD a), some (nD b), none] = .ok (.lst (((List.range n).filter fun e => decide (nth c a = nth c e) && decide (nth d e = nth d b)).map nD)) := fun a3 a4 => by
          rw [eLc_filter nD (fun e => decide (nth c a = nth c e) && decide (nth d e = nth d b)) nD (List.range n) (by simp only [xSet, xAsg, xPar, xExpr, xRet, xRetN, xIf, xFor, xRaise, eBin, eCall, eNil, eCons, eTup, eLst, eChain, tVal, tCmp', tChain', eIsN, eNotN, tIsN', tNotN', tNot', tAnd', tOr', eAnd, eOr, eNot, eNeg, eIf, pNone, pSome, eSl, eDef, eIm, eIsi, sSeq, sRg1, sRg2, tYes', gNil', gCons', unpk, wipeE, eD0, eD1, sKeys, eQix, List.map_cons, List.map_nil, gv_eq, sv_eq, mkT_0, mkT_1, mkT_2, mkT_3, mkT_4, mkT_5, mkL_0, mkL_1, mkL_2, mkL_3, mkL_4, mkL_5, cst_eq, okb, excb, nx_ok, nxA_ok, nxO_nx, nxO_rt, out_ok, out_exc, seqO_eq, next_nx, next_rt, next_bk, next_ct, next_exc, wp_nx, wp_rt, wp_exc, wp_bk, wp_ct, wp_next, dAdd_ii, dSub_ii, dCmp_ii, asB_bl, asI_int, asInt_int, dInt_int, dInt_bl, dLen_tup, dLen_lst, dLen_frz, dMin2_eq, dMax2_eq, dTuple_lst, dTuple_tup, dTuple_frz, dList_lst, dList_tup, dIter_tup, dIter_lst, dIter_frz, dIx_t0, dIx_t1, dIx_t2, dIx_l0, dIx_l1, dIx_l2, dSl_tup, dSl_lst, dEq_ii, dNe_ii, dEq_bb, dNe_bb, dAll_map, dAny_map, List.getElem?_cons_zero, List.getElem?_cons_succ, List.set_cons_zero, List.set_cons_succ, List.length_cons, List.length_nil, Nat.reduceAdd, Nat.zero_add, Nat.reduceSub, List.replicate_succ, List.replicate_zero, List.cons_append, List.nil_append, List.append_nil, reduceIte, if_true, if_false, Bool.false_eq_true, Bool.not_true, Bool.not_false, mkRgI_nat (show n ≤ 1000000000 by omega)]) (by simp; omega) ?_]
          intro k hk
          have hk := List.mem_range.mp hk
          have i1 : dIx (tN c) (nD a) = .ok (nD (nth c a)) := dIx_tN (by omega)
          have i2 : dIx (tN c) (nD k) = .ok (nD (nth c k)) := dIx_tN (by omega)
          have i3 : dIx (tN d) (nD k) = .ok (nD (nth d k)) := dIx_tN (by omega)
          have i4 : dIx (tN d) (nD b) = .ok (nD (nth d b)) := dIx_tN (by omega)
          refine ⟨_, rfl, ?_, fun _ => rfl⟩
          by_cases q : nth c a = nth c k <;> simp only [xSet, xAsg, xPar, xExpr, xRet, xRetN, xIf, xFor, xRaise, eBin, eCall, eNil, eCons, eTup, eLst, eChain, tVal, tCmp', tChain', eIsN, eNotN, tIsN', tNotN', tNot', tAnd', tOr', eAnd, eOr, eNot, eNeg, eIf, pNone, pSome, eSl, eDef, eIm, eIsi, sSeq, sRg1, sRg2, tYes', gNil', gCons', unpk, wipeE, eD0, eD1, sKeys, eQix, List.map_cons, List.map_nil, gv_eq, sv_eq, mkT_0, mkT_1, mkT_2, mkT_3, mkT_4, mkT_5, mkL_0, mkL_1, mkL_2, mkL_3, mkL_4, mkL_5, cst_eq, okb, excb, nx_ok, nxA_ok, nxO_nx, nxO_rt, out_ok, out_exc, seqO_eq, next_nx, next_rt, next_bk, next_ct, next_exc, wp_nx, wp_rt, wp_exc, wp_bk, wp_ct, wp_next, dAdd_ii, dSub_ii, dCmp_ii, asB_bl, asI_int, asInt_int, dInt_int, dInt_bl, dLen_tup, dLen_lst, dLen_frz, dMin2_eq, dMax2_eq, dTuple_lst, dTuple_tup, dTuple_frz, dList_lst, dList_tup, dIter_tup, dIter_lst, dIter_frz, dIx_t0, dIx_t1, dIx_t2, dIx_l0, dIx_l1, dIx_l2, dSl_tup, dSl_lst, dEq_ii, dNe_ii, dEq_bb, dNe_bb, dAll_map, dAny_map, List.getElem?_cons_zero, List.getElem?_cons_succ, List.set_cons_zero, List.set_cons_succ, List.length_cons, List.length_nil, Nat.reduceAdd, Nat.zero_add, Nat.reduceSub, List.replicate_succ, List.replicate_zero, List.cons_append, List.nil_append, List.append_nil, reduceIte, if_true, if_false, Bool.false_eq_true, Bool.not_true, Bool.not_false, wipeE, i1, i2, i3, i4, cmp, q, decide_true, decide_false, Bool.true_and, Bool.false_and]
        simp only [xSet, xAsg, xPar, xExpr, xRet, xRetN, xIf, xFor, xRaise, eBin, eCall, eNil, eCons, eTup, eLst, eChain, tVal, tCmp', tChain', eIsN, eNotN, tIsN', tNotN', tNot', tAnd', tOr', eAnd, eOr, eNot, eNeg, eIf, pNone, pSome, eSl, eDef, eIm, eIsi, sSeq, sRg1, sRg2, tYes', gNil', gCons', unpk, wipeE, eD0, eD1, sKeys, eQix, List.map_cons, List.map_nil, gv_eq, sv_eq, mkT_0, mkT_1, mkT_2, mkT_3, mkT_4, mkT_5, mkL_0, mkL_1, mkL_2, mkL_3, mkL_4, mkL_5, cst_eq, okb, excb, nx_ok, nxA_ok, nxO_nx, nxO_rt, out_ok, out_exc, seqO_eq, next_nx, next_rt, next_bk, next_ct, next_exc, wp_nx, wp_rt, wp_exc, wp_bk, wp_ct, wp_next, dAdd_ii, dSub_ii, dCmp_ii, asB_bl, asI_int, asInt_int, dInt_int, dInt_bl, dLen_tup, dLen_lst, dLen_frz, dMin2_eq, dMax2_eq, dTuple_lst, dTuple_tup, dTuple_frz, dList_lst, dList_tup, dIter_tup, dIter_lst, dIter_frz, dIx_t0, dIx_t1, dIx_t2, dIx_l0, dIx_l1, dIx_l2, dSl_tup, dSl_lst, dEq_ii, dNe_ii, dEq_bb, dNe_bb, dAll_map, dAny_map, List.getElem?_cons_zero, List.getElem?_cons_succ, List.set_cons_zero, List.set_cons_succ, List.length_cons, List.length_nil, Nat.reduceAdd, Nat.zero_add, Nat.reduceSub, List.replicate_succ, List.replicate_zero, List.cons_append, List.nil_append, List.append_nil, reduceIte, if_true, if_false, Bool.false_eq_true, Bool.not_true, Bool.not_false, wipeE, e1, ne, fil]
        rfl
    simp only [List.set_cons_succ, List.set_cons_zero]
    refine wp_set (d := .lst (((tps n 2).filter fun p => lkB n d c (nth p 0) (nth p 1)).map tN)) ?_ ?_
    · rw [eLc_filter tN (fun p => lkB n d c (nth p 0) (nth p 1)) tN (tps n 2) (by simp only [xSet, xAsg, xPar, xExpr, xRet, xRetN, xIf, xFor, xRaise, eBin, eCall, eNil, eCons, eTup, eLst, eChain, tVal, tCmp', tChain', eIsN, eNotN, tIsN', tNotN', tNot', tAnd', tOr', eAnd, eOr, eNot, eNeg, eIf, pNone, pSome, eSl, eDef, eIm, eIsi, sSeq, sRg1, sRg2, tYes', gNil', gCons', unpk, wipeE, eD0, eD1, sKeys, eQix, List.map_cons, List.map_nil, gv_eq, sv_eq, mkT_0, mkT_1, mkT_2, mkT_3, mkT_4, mkT_5, mkL_0, mkL_1, mkL_2, mkL_3, mkL_4, mkL_5, cst_eq, okb, excb, nx_ok, nxA_ok, nxO_nx, nxO_rt, out_ok, out_exc, seqO_eq, next_nx, next_rt, next_bk, next_ct, next_exc, wp_nx, wp_rt, wp_exc, wp_bk, wp_ct, wp_next, dAdd_ii, dSub_ii, dCmp_ii, asB_bl, asI_int, asInt_int, dInt_int, dInt_bl, dLen_tup, dLen_lst, dLen_frz, dMin2_eq, dMax2_eq, dTuple_lst, dTuple_tup, dTuple_frz, dList_lst, dList_tup, dIter_tup, dIter_lst, dIter_frz, dIx_t0, dIx_t1, dIx_t2, dIx_l0, dIx_l1, dIx_l2, dSl_tup, dSl_lst, dEq_ii, dNe_ii, dEq_bb, dNe_bb, dAll_map, dAny_map, List.getElem?_cons_zero, List.getElem?_cons_succ, List.set_cons_zero, List.set_cons_succ, List.length_cons, List.length_nil, Nat.reduceAdd, Nat.zero_add, Nat.reduceSub, List.replicate_succ, List.replicate_zero, List.cons_append, List.nil_append, List.append_nil, reduceIte, if_true, if_false, Bool.false_eq_true, Bool.not_true, Bool.not_false, tp]) (by omega) ?_]
      intro p hp
      obtain ⟨z1, z2⟩ := tps_mem hp
      match p, z1, z2 with
      | [a, b], z1, z2 =>
        have ha : a < n := z2 a (by simp)
        have hb : b < n := z2 b (by simp)
        refine ⟨_, rfl, ?_, fun _ => rfl⟩
        have e1 : ∀ a3 a4 : Option D, eLc [7] (sRg1 (gv 2)) (sv 7) (tAnd' (tCmp' dEq (eBin dIx (gv 1) (gv 5)) (eBin dIx (gv 1) (gv 7))) (tCmp' dEq (eBin dIx (gv 0) (gv 7)) (eBin dIx (gv 0) (gv 6)))) (gv 7) [some (tN c), some (tN d), some (nD n), a3, a4, some (nD a), some (nD b), none] = .ok (.lst (((List.range n).filter fun e => decide (nth d a = nth d e) && decide (nth c e = nth c b)).map nD)) := fun a3 a4 => by
          rw [eLc_filter nD (fun e => decide (nth d a = nth d e) && decide (nth c e = nth c b)) nD (List.range n) (by simp only [xSet, xAsg, xPar, xExpr, xRet, xRetN, xIf, xFor, xRaise, eBin, eCall, eNil, eCons, eTup, eLst, eChain, tVal, tCmp', tChain', eIsN, eNotN, tIsN', tNotN', tNot', tAnd', tOr', eAnd, eOr, eNot, eNeg, eIf, pNone, pSome, eSl, eDef, eIm, eIsi, sSeq, sRg1, sRg2, tYes', gNil', gCons', unpk, wipeE, eD0, eD1, sKeys, eQix, List.map_cons, List.map_nil, gv_eq, sv_eq, mkT_0, mkT_1, mkT_2, mkT_3, mkT_4, mkT_5, mkL_0, mkL_1, mkL_2, mkL_3, mkL_4, mkL_5, cst_eq, okb, excb, nx_ok, nxA_ok, nxO_nx, nxO_rt, out_ok, out_exc, seqO_eq, next_nx, next_rt, next_bk, next_ct, next_exc, wp_nx, wp_rt, wp_exc, wp_bk, wp_ct, wp_next, dAdd_ii, dSub_ii, dCmp_ii, asB_bl, asI_int, asInt_int, dInt_int, dInt_bl, dLen_tup, dLen_lst, dLen_frz, dMin2_eq, dMax2_eq, dTuple_lst, dTuple_tup, dTuple_frz, dList_lst, dList_tup, dIter_tup, dIter_lst, dIter_frz, dIx_t0, dIx_t1, dIx_t2, dIx_l0, dIx_l1, dIx_l2, dSl_tup, dSl_lst, dEq_ii, dNe_ii, dEq_bb, dNe_bb, dAll_map, dAny_map, List.getElem?_cons_zero, List.getElem?_cons_succ, List.set_cons_zero, List.set_cons_succ, List.length_cons, List.length_nil, Nat.reduceAdd, Nat.zero_add, Nat.reduceSub, List.replicate_succ, List.replicate_zero, List.cons_append, List.nil_append, List.append_nil, reduceIte, if_true, if_false, Bool.false_eq_true, Bool.not_true, Bool.not_false, mkRgI_nat (show n ≤ 1000000000 by omega)]) (by simp; omega) ?_]
          intro k hk
          have hk := List.mem_range.mp hk
          have i1 : dIx (tN d) (nD a) = .ok (nD (nth d a)) := dIx_tN (by omega)
          have i2 : dIx (tN d) (nD k) = .ok (nD (nth d k)) := dIx_tN (by omega)
          have i3 : dIx (tN c) (nD k) = .ok (nD (nth c k)) := dIx_tN (by omega)
          have i4 : dIx (tN c) (nD b) = .ok (nD (nth c b)) := dIx_tN (by omega)
          refine ⟨_, rfl, ?_, fun _ => rfl⟩
          by_cases q : nth d a = nth d k <;> simp only [xSet, xAsg, xPar, xExpr, xRet, xRetN, xIf, xFor, xRaise, eBin, eCall, eNil, eCons, eTup, eLst, eChain, tVal, tCmp', tChain', eIsN, eNotN, tIsN', tNotN', tNot', tAnd', tOr', eAnd, eOr, eNot, eNeg, eIf, pNone, pSome, eSl, eDef, eIm, eIsi, sSeq, sRg1, sRg2, tYes', gNil', gCons', unpk, wipeE, eD0, eD1, sKeys, eQix, List.map_cons, List.map_nil, gv_eq, sv_eq, mkT_0, mkT_1, mkT_2, mkT_3, mkT_4, mkT_5, mkL_0, mkL_1, mkL_2, mkL_3, mkL_4, mkL_5, cst_eq, okb, excb, nx_ok, nxA_ok, nxO_nx, nxO_rt, out_ok, out_exc, seqO_eq, next_nx, next_rt, next_bk, next_ct, next_exc, wp_nx, wp_rt, wp_exc, wp_bk, wp_ct, wp_next, dAdd_ii, dSub_ii, dCmp_ii, asB_bl, asI_int, asInt_int, dInt_int, dInt_bl, dLen_tup, dLen_lst, dLen_frz, dMin2_eq, dMax2_eq, dTuple_lst, dTuple_tup, dTuple_frz, dList_lst, dList_tup, dIter_tup, dIter_lst, dIter_frz, dIx_t0, dIx_t1, dIx_t2, dIx_l0, dIx_l1, dIx_l2, dSl_tup, dSl_lst, dEq_ii, dNe_ii, dEq_bb, dNe_bb, dAll_map, dAny_map, List.getElem?_cons_zero, List.getElem?_cons_succ, List.set_cons_zero, List.set_cons_succ, List.length_cons, List.length_nil, Nat.reduceAdd, Nat.zero_add, Nat.reduceSub, List.replicate_succ, List.replicate_zero, List.cons_append, List.nil_append, List.append_nil, reduceIte, if_true, if_false, Bool.false_eq_true, Bool.not_true, Bool.not_false, wipeE, i1, i2, i3, i4, cmp, q, decide_true, decide_false, Bool.true_and, Bool.false_and]
        simp only [xSet, xAsg, xPar, xExpr, xRet, xRetN, xIf, xFor, xRaise, eBin, eCall, eNil, eCons, eTup, eLst, eChain, tVal, tCmp', tChain', eIsN, eNotN, tIsN', tNotN', tNot', tAnd', tOr', eAnd, eOr, eNot, eNeg, eIf, pNone, pSome, eSl, eDef, eIm, eIsi, sSeq, sRg1, sRg2, tYes', gNil', gCons', unpk, wipeE, eD0, eD1, sKeys, eQix, List.map_cons, List.map_nil, gv_eq, sv_eq, mkT_0, mkT_1, mkT_2, mkT_3, mkT_4, mkT_5, mkL_0, mkL_1, mkL_2, mkL_3, mkL_4, mkL_5, cst_eq, okb, excb, nx_ok, nxA_ok, nxO_nx, nxO_rt, out_ok, out_exc, seqO_eq, next_nx, next_rt, next_bk, next_ct, next_exc, wp_nx, wp_rt, wp_exc, wp_bk, wp_ct, wp_next, dAdd_ii, dSub_ii, dCmp_ii, asB_bl, asI_int, asInt_int, dInt_int, dInt_bl, dLen_tup, dLen_lst, dLen_frz, dMin2_eq, dMax2_eq, dTuple_lst, dTuple_tup, dTuple_frz, dList_lst, dList_tup, dIter_tup, dIter_lst, dIter_frz, dIx_t0, dIx_t1, dIx_t2, dIx_l0, dIx_l1, dIx_l2, dSl_tup, dSl_lst, dEq_ii, dNe_ii, dEq_bb, dNe_bb, dAll_map, dAny_map, List.getElem?_cons_zero, List.getElem?_cons_succ, List.set_cons_zero, List.set_cons_succ, List.length_cons, List.length_nil, Nat.reduceAdd, Nat.zero_add, Nat.reduceSub, List.replicate_succ, List.replicate_zero, List.cons_append, List.nil_append, List.append_nil, reduceIte, if_true, if_false, Bool.false_eq_true, Bool.not_true, Bool.not_false, wipeE, e1, ne, fil]
        rfl
    refine wp_ret (d := .bl _) ?_ rfl
    have e9 : ∀ A B : List (List Nat), dEq (.lst (A.map tN)) (.lst (B.map tN)) = .ok (.bl (decide (A = B))) := fun A B => (em_lst (em_tup em_nat)).dEq A B
    simp only [xSet, xAsg, xPar, xExpr, xRet, xRetN, xIf, xFor, xRaise, eBin, eCall, eNil, eCons, eTup, eLst, eChain, tVal, tCmp', tChain', eIsN, eNotN, tIsN', tNotN', tNot', tAnd', tOr', eAnd, eOr, eNot, eNeg, eIf, pNone, pSome, eSl, eDef, eIm, eIsi, sSeq, sRg1, sRg2, tYes', gNil', gCons', unpk, wipeE, eD0, eD1, sKeys, eQix, List.map_cons, List.map_nil, gv_eq, sv_eq, mkT_0, mkT_1, mkT_2, mkT_3, mkT_4, mkT_5, mkL_0, mkL_1, mkL_2, mkL_3, mkL_4, mkL_5, cst_eq, okb, excb, nx_ok, nxA_ok, nxO_nx, nxO_rt, out_ok, out_exc, seqO_eq, next_nx, next_rt, next_bk, next_ct, next_exc, wp_nx, wp_rt, wp_exc, wp_bk, wp_ct, wp_next, dAdd_ii, dSub_ii, dCmp_ii, asB_bl, asI_int, asInt_int, dInt_int, dInt_bl, dLen_tup, dLen_lst, dLen_frz, dMin2_eq, dMax2_eq, dTuple_lst, dTuple_tup, dTuple_frz, dList_lst, dList_tup, dIter_tup, dIter_lst, dIter_frz, dIx_t0, dIx_t1, dIx_t2, dIx_l0, dIx_l1, dIx_l2, dSl_tup, dSl_lst, dEq_ii, dNe_ii, dEq_bb, dNe_bb, dAll_map, dAny_map, List.getElem?_cons_zero, List.getElem?_cons_succ, List.set_cons_zero, List.set_cons_succ, List.length_cons, List.length_nil, Nat.reduceAdd, Nat.zero_add, Nat.reduceSub, List.replicate_succ, List.replicate_zero, List.cons_append, List.nil_append, List.append_nil, reduceIte, if_true, if_false, Bool.false_eq_true, Bool.not_true, Bool.not_false, e9]
  · rw [decide_eq_true_eq]
    constructor
    · intro h a b ha hb k
      have : [a, b] ∈ (tps n 2).filter fun p => lkB n c d (nth p 0) (nth p 1) := by
        rw [List.mem_filter]
        exact ⟨tps_in rfl (fun x hx => by simp at hx; rcases hx with rfl | rfl <;> assumption), lkB_iff.mpr (by simpa [nth] using k)⟩
      rw [h, List.mem_filter] at this
      exact (lkB_iff.mp (by simpa [nth] using this.2)).turn
    · intro h
      refine List.filter_congr fun p hp => ?_
      obtain ⟨z1, z2⟩ := tps_mem hp
      match p, z1, z2 with
      | [a, b], z1, z2 =>
        have ha : a < n := z2 a (by simp)
        have hb : b < n := z2 b (by simp)
        rw [Bool.eq_iff_iff, lkB_iff, lkB_iff]
        show Lk n c d a b ↔ Lk n d c a b
        exact ⟨fun k => (h a b ha hb k).turn, fun k => h b a hb ha k.turn⟩
end Lw

namespace Lw
open PySem PySem.Spec PyProof.Rows L2 DL
theorem sb_jj : sbx "InvalidJoining" "InvalidJoining" = some true := by decide +kernel
theorem is_bool_eq (a b : Bool) : F__law_is_bool [.bl a, .bl b] = .ok (.bl (decide (a = b))) := by
  refine fn_wp rfl ?_
  have : dIsi "bool" (.bl a) = .ok (.bl true) := rfl
  simp only [den__law_is_bool, xSet, xAsg, xPar, xExpr, xRet, xRetN, xIf, xFor, xRaise, eBin, eCall, eNil, eCons, eTup, eLst, eChain, tVal, tCmp', tChain', eIsN, eNotN, tIsN', tNotN', tNot', tAnd', tOr', eAnd, eOr, eNot, eNeg, eIf, pNone, pSome, eSl, eDef, eIm, eIsi, sSeq, sRg1, sRg2, tYes', gNil', gCons', unpk, wipeE, eD0, eD1, sKeys, eQix, List.map_cons, List.map_nil, gv_eq, sv_eq, mkT_0, mkT_1, mkT_2, mkT_3, mkT_4, mkT_5, mkL_0, mkL_1, mkL_2, mkL_3, mkL_4, mkL_5, cst_eq, okb, excb, nx_ok, nxA_ok, nxO_nx, nxO_rt, out_ok, out_exc, seqO_eq, next_nx, next_rt, next_bk, next_ct, next_exc, wp_nx, wp_rt, wp_exc, wp_bk, wp_ct, wp_next, dAdd_ii, dSub_ii, dCmp_ii, asB_bl, asI_int, asInt_int, dInt_int, dInt_bl, dLen_tup, dLen_lst, dLen_frz, dMin2_eq, dMax2_eq, dTuple_lst, dTuple_tup, dTuple_frz, dList_lst, dList_tup, dIter_tup, dIter_lst, dIter_frz, dIx_t0, dIx_t1, dIx_t2, dIx_l0, dIx_l1, dIx_l2, dSl_tup, dSl_lst, dEq_ii, dNe_ii, dEq_bb, dNe_bb, dAll_map, dAny_map, List.getElem?_cons_zero, List.getElem?_cons_succ, List.set_cons_zero, List.set_cons_succ, List.length_cons, List.length_nil, Nat.reduceAdd, Nat.zero_add, Nat.reduceSub, List.replicate_succ, List.replicate_zero, List.cons_append, List.nil_append, List.append_nil, reduceIte, if_true, if_false, Bool.false_eq_true, Bool.not_true, Bool.not_false, this]
theorem law_eq (ns : List Int) : F_law [.frz (ns.map D.int)] = .ok (.bl true) := by
  obtain ⟨c0, hc0⟩ := cell_eq ns 0
  obtain ⟨c1, hc1⟩ := cell_eq ns 1
  obtain ⟨c2, hc2⟩ := cell_eq ns 2
  have hc0 : F__law_cell [.frz (ns.map D.int), .int 0] = .ok (.int c0) := hc0
  have hc1 : F__law_cell [.frz (ns.map D.int), .int 1] = .ok (.int c1) := hc1
  have hc2 : F__law_cell [.frz (ns.map D.int), .int 2] = .ok (.int c2) := hc2
  obtain ⟨v, hv⟩ := rich_eq c0
  obtain ⟨d0, d1, d2, d3, hd, b0, b1, b2, b3⟩ : ∃ d0 d1 d2 d3 : Nat, F__law_digits [nD v, .lst [.int 6, .int 3, .int 3, .int 2]] = .ok (.lst [nD d0, nD d1, nD d2, nD d3]) ∧ d0 < 6 ∧ d1 < 3 ∧ d2 < 3 ∧ d3 < 2 :=
    ⟨_, _, _, _, digits_eq v [6, 3, 3, 2] (by simp) (by simp), Nat.mod_lt _ (by omega), Nat.mod_lt _ (by omega), Nat.mod_lt _ (by omega), Nat.mod_lt _ (by omega)⟩
  obtain ⟨n, hn⟩ : ∃ n, n = 1 + d0 := ⟨_, rfl⟩
  have en : (1 : Int) + (d0 : Int) = (n : Int) := by omega
  obtain ⟨l, g, _, hl⟩ := ops_eq n c1 (by omega) (by omega)
  have i1 := init_t g
  obtain ⟨dr, hdl, hdt, hdr⟩ := draws_eq c2 n 8 (by omega) (by omega) (by omega)
  have hdr : F__law_draws [.int c2, nD n, .int 8] = .ok (tN dr) := hdr
  obtain ⟨W, hWe⟩ : ∃ W, W = (List.range d1).map fun k => (nth dr (2 * k), nth dr (2 * k + 1)) := ⟨_, rfl⟩
  obtain ⟨U, hUe⟩ : ∃ U, U = (List.range d2).map fun k => (nth dr (2 * k + 4), nth dr (2 * k + 5)) := ⟨_, rfl⟩
  have hWl : W.length = d1 := by rw [hWe]; simp
  have hUl : U.length = d2 := by rw [hUe]; simp
  have hW : ∀ p ∈ W, p.1 < n ∧ p.2 < n := fun p hp => by
    rw [hWe] at hp
    obtain ⟨k, hk, rfl⟩ := List.mem_map.mp hp
    have hk := List.mem_range.mp hk
    exact ⟨hdt _ (nth_mem (by omega)), hdt _ (nth_mem (by omega))⟩
  have hU : ∀ p ∈ U, p.1 < n ∧ p.2 < n := fun p hp => by
    rw [hUe] at hp
    obtain ⟨k, hk, rfl⟩ := List.mem_map.mp hp
    have hk := List.mem_range.mp hk
    exact ⟨hdt _ (nth_mem (by omega)), hdt _ (nth_mem (by omega))⟩
  obtain ⟨c, hjc, cn⟩ := ljoined_eq g W hW (by omega) (.lst (W.map prT)) rfl
  obtain ⟨d, hjd, dn⟩ := ljoined_eq g U hU (by omega) (.lst (U.map prT)) rfl
  have jc : IsJ n l c := (isJ_iff g).mpr (can_jj (rok g) cn)
  have jd : IsJ n l d := (isJ_iff g).mpr (can_jj (rok g) dn)
  have lc := jc.1.len
  have ld := jd.1.len
  obtain ⟨b, e1, h1⟩ := exchange_eq g jc jd
  obtain ⟨b', e2, h2⟩ := exchange_eq g jd jc
  obtain ⟨b'', e3, h3⟩ := law_exchange_eq (n := n) (by omega) (by omega) lc ld
  obtain rfl : b'' = b := by rw [Bool.eq_iff_iff, h1, h3]
  obtain rfl : b' = b'' := by rw [Bool.eq_iff_iff, h2, h3]; exact ⟨SymL.swap, SymL.swap⟩
  have ib : F__law_is_bool [.bl b', .bl b'] = .ok (.bl true) := by rw [is_bool_eq]; simp
  refine fn_wp rfl ?_
  unfold den_law
  simp only [List.map_cons, List.map_nil, Nat.reduceSub, List.replicate_succ, List.replicate_zero, List.cons_append, List.nil_append]
  refine wp_set (d := .lst [nD d0, nD d1, nD d2, nD d3]) (by simp only [xSet, xAsg, xPar, xExpr, xRet, xRetN, xIf, xFor, xRaise, eBin, eCall, eNil, eCons, eTup, eLst, eChain, tVal, tCmp', tChain', eIsN, eNotN, tIsN', tNotN', tNot', tAnd', tOr', eAnd, eOr, eNot, eNeg, eIf, pNone, pSome, eSl, eDef, eIm, eIsi, sSeq, sRg1, sRg2, tYes', gNil', gCons', unpk, wipeE, eD0, eD1, sKeys, eQix, List.map_cons, List.map_nil, gv_eq, sv_eq, mkT_0, mkT_1, mkT_2, mkT_3, mkT_4, mkT_5, mkL_0, mkL_1, mkL_2, mkL_3, mkL_4, mkL_5, cst_eq, okb, excb, nx_ok, nxA_ok, nxO_nx, nxO_rt, out_ok, out_exc, seqO_eq, next_nx, next_rt, next_bk, next_ct, next_exc, wp_nx, wp_rt, wp_exc, wp_bk, wp_ct, wp_next, dAdd_ii, dSub_ii, dCmp_ii, asB_bl, asI_int, asInt_int, dInt_int, dInt_bl, dLen_tup, dLen_lst, dLen_frz, dMin2_eq, dMax2_eq, dTuple_lst, dTuple_tup, dTuple_frz, dList_lst, dList_tup, dIter_tup, dIter_lst, dIter_frz, dIx_t0, dIx_t1, dIx_t2, dIx_l0, dIx_l1, dIx_l2, dSl_tup, dSl_lst, dEq_ii, dNe_ii, dEq_bb, dNe_bb, dAll_map, dAny_map, List.getElem?_cons_zero, List.getElem?_cons_succ, List.set_cons_zero, List.set_cons_succ, List.length_cons, List.length_nil, Nat.reduceAdd, Nat.zero_add, Nat.reduceSub, List.replicate_succ, List.replicate_zero, List.cons_append, List.nil_append, List.append_nil, reduceIte, if_true, if_false, Bool.false_eq_true, Bool.not_true, Bool.not_false, hc0, hv, hd]) ?_
  refine wp_set (d := nD n) (by simp only [xSet, xAsg, xPar, xExpr, xRet, xRetN, xIf, xFor, xRaise, eBin, eCall, eNil, eCons, eTup, eLst, eChain, tVal, tCmp', tChain', eIsN, eNotN, tIsN', tNotN', tNot', tAnd', tOr', eAnd, eOr, eNot, eNeg, eIf, pNone, pSome, eSl, eDef, eIm, eIsi, sSeq, sRg1, sRg2, tYes', gNil', gCons', unpk, wipeE, eD0, eD1, sKeys, eQix, List.map_cons, List.map_nil, gv_eq, sv_eq, mkT_0, mkT_1, mkT_2, mkT_3, mkT_4, mkT_5, mkL_0, mkL_1, mkL_2, mkL_3, mkL_4, mkL_5, cst_eq, okb, excb, nx_ok, nxA_ok, nxO_nx, nxO_rt, out_ok, out_exc, seqO_eq, next_nx, next_rt, next_bk, next_ct, next_exc, wp_nx, wp_rt, wp_exc, wp_bk, wp_ct, wp_next, dAdd_ii, dSub_ii, dCmp_ii, asB_bl, asI_int, asInt_int, dInt_int, dInt_bl, dLen_tup, dLen_lst, dLen_frz, dMin2_eq, dMax2_eq, dTuple_lst, dTuple_tup, dTuple_frz, dList_lst, dList_tup, dIter_tup, dIter_lst, dIter_frz, dIx_t0, dIx_t1, dIx_t2, dIx_l0, dIx_l1, dIx_l2, dSl_tup, dSl_lst, dEq_ii, dNe_ii, dEq_bb, dNe_bb, dAll_map, dAny_map, List.getElem?_cons_zero, List.getElem?_cons_succ, List.set_cons_zero, List.set_cons_succ, List.length_cons, List.length_nil, Nat.reduceAdd, Nat.zero_add, Nat.reduceSub, List.replicate_succ, List.replicate_zero, List.cons_append, List.nil_append, List.append_nil, reduceIte, if_true, if_false, Bool.false_eq_true, Bool.not_true, Bool.not_false, en]) ?_
  refine wp_set (d := opsT l) (by simp only [xSet, xAsg, xPar, xExpr, xRet, xRetN, xIf, xFor, xRaise, eBin, eCall, eNil, eCons, eTup, eLst, eChain, tVal, tCmp', tChain', eIsN, eNotN, tIsN', tNotN', tNot', tAnd', tOr', eAnd, eOr, eNot, eNeg, eIf, pNone, pSome, eSl, eDef, eIm, eIsi, sSeq, sRg1, sRg2, tYes', gNil', gCons', unpk, wipeE, eD0, eD1, sKeys, eQix, List.map_cons, List.map_nil, gv_eq, sv_eq, mkT_0, mkT_1, mkT_2, mkT_3, mkT_4, mkT_5, mkL_0, mkL_1, mkL_2, mkL_3, mkL_4, mkL_5, cst_eq, okb, excb, nx_ok, nxA_ok, nxO_nx, nxO_rt, out_ok, out_exc, seqO_eq, next_nx, next_rt, next_bk, next_ct, next_exc, wp_nx, wp_rt, wp_exc, wp_bk, wp_ct, wp_next, dAdd_ii, dSub_ii, dCmp_ii, asB_bl, asI_int, asInt_int, dInt_int, dInt_bl, dLen_tup, dLen_lst, dLen_frz, dMin2_eq, dMax2_eq, dTuple_lst, dTuple_tup, dTuple_frz, dList_lst, dList_tup, dIter_tup, dIter_lst, dIter_frz, dIx_t0, dIx_t1, dIx_t2, dIx_l0, dIx_l1, dIx_l2, dSl_tup, dSl_lst, dEq_ii, dNe_ii, dEq_bb, dNe_bb, dAll_map, dAny_map, List.getElem?_cons_zero, List.getElem?_cons_succ, List.set_cons_zero, List.set_cons_succ, List.length_cons, List.length_nil, Nat.reduceAdd, Nat.zero_add, Nat.reduceSub, List.replicate_succ, List.replicate_zero, List.cons_append, List.nil_append, List.append_nil, reduceIte, if_true, if_false, Bool.false_eq_true, Bool.not_true, Bool.not_false, hc1, hl]) ?_
  refine wp_set (d := algD n l) (by simp only [xSet, xAsg, xPar, xExpr, xRet, xRetN, xIf, xFor, xRaise, eBin, eCall, eNil, eCons, eTup, eLst, eChain, tVal, tCmp', tChain', eIsN, eNotN, tIsN', tNotN', tNot', tAnd', tOr', eAnd, eOr, eNot, eNeg, eIf, pNone, pSome, eSl, eDef, eIm, eIsi, sSeq, sRg1, sRg2, tYes', gNil', gCons', unpk, wipeE, eD0, eD1, sKeys, eQix, List.map_cons, List.map_nil, gv_eq, sv_eq, mkT_0, mkT_1, mkT_2, mkT_3, mkT_4, mkT_5, mkL_0, mkL_1, mkL_2, mkL_3, mkL_4, mkL_5, cst_eq, okb, excb, nx_ok, nxA_ok, nxO_nx, nxO_rt, out_ok, out_exc, seqO_eq, next_nx, next_rt, next_bk, next_ct, next_exc, wp_nx, wp_rt, wp_exc, wp_bk, wp_ct, wp_next, dAdd_ii, dSub_ii, dCmp_ii, asB_bl, asI_int, asInt_int, dInt_int, dInt_bl, dLen_tup, dLen_lst, dLen_frz, dMin2_eq, dMax2_eq, dTuple_lst, dTuple_tup, dTuple_frz, dList_lst, dList_tup, dIter_tup, dIter_lst, dIter_frz, dIx_t0, dIx_t1, dIx_t2, dIx_l0, dIx_l1, dIx_l2, dSl_tup, dSl_lst, dEq_ii, dNe_ii, dEq_bb, dNe_bb, dAll_map, dAny_map, List.getElem?_cons_zero, List.getElem?_cons_succ, List.set_cons_zero, List.set_cons_succ, List.length_cons, List.length_nil, Nat.reduceAdd, Nat.zero_add, Nat.reduceSub, List.replicate_succ, List.replicate_zero, List.cons_append, List.nil_append, List.append_nil, reduceIte, if_true, if_false, Bool.false_eq_true, Bool.not_true, Bool.not_false, i1]) ?_
  refine wp_set (d := tN dr) (by simp only [xSet, xAsg, xPar, xExpr, xRet, xRetN, xIf, xFor, xRaise, eBin, eCall, eNil, eCons, eTup, eLst, eChain, tVal, tCmp', tChain', eIsN, eNotN, tIsN', tNotN', tNot', tAnd', tOr', eAnd, eOr, eNot, eNeg, eIf, pNone, pSome, eSl, eDef, eIm, eIsi, sSeq, sRg1, sRg2, tYes', gNil', gCons', unpk, wipeE, eD0, eD1, sKeys, eQix, List.map_cons, List.map_nil, gv_eq, sv_eq, mkT_0, mkT_1, mkT_2, mkT_3, mkT_4, mkT_5, mkL_0, mkL_1, mkL_2, mkL_3, mkL_4, mkL_5, cst_eq, okb, excb, nx_ok, nxA_ok, nxO_nx, nxO_rt, out_ok, out_exc, seqO_eq, next_nx, next_rt, next_bk, next_ct, next_exc, wp_nx, wp_rt, wp_exc, wp_bk, wp_ct, wp_next, dAdd_ii, dSub_ii, dCmp_ii, asB_bl, asI_int, asInt_int, dInt_int, dInt_bl, dLen_tup, dLen_lst, dLen_frz, dMin2_eq, dMax2_eq, dTuple_lst, dTuple_tup, dTuple_frz, dList_lst, dList_tup, dIter_tup, dIter_lst, dIter_frz, dIx_t0, dIx_t1, dIx_t2, dIx_l0, dIx_l1, dIx_l2, dSl_tup, dSl_lst, dEq_ii, dNe_ii, dEq_bb, dNe_bb, dAll_map, dAny_map, List.getElem?_cons_zero, List.getElem?_cons_succ, List.set_cons_zero, List.set_cons_succ, List.length_cons, List.length_nil, Nat.reduceAdd, Nat.zero_add, Nat.reduceSub, List.replicate_succ, List.replicate_zero, List.cons_append, List.nil_append, List.append_nil, reduceIte, if_true, if_false, Bool.false_eq_true, Bool.not_true, Bool.not_false, hc2, hdr]) ?_
  simp only [List.set_cons_succ, List.set_cons_zero]
  refine wp_set (d := tN c) ?_ ?_
  · have e4 : ∀ a0 a2 a3 a4 a6 a7 a8 a9, eLc [10] (sRg1 (eBin dIx (gv 1) (cst (.int 1)))) (sv 10) tYes' (eTup (eCons (eBin dIx (gv 5) (eBin dMul (cst (.int 2)) (gv 10))) (eCons (eBin dIx (gv 5) (eBin dAdd (eBin dMul (cst (.int 2)) (gv 10)) (cst (.int 1)))) eNil))) [a0, some (.lst [nD d0, nD d1, nD d2, nD d3]), a2, a3, a4, some (tN dr), a6, a7, a8, a9, none] = .ok (.lst (W.map prT)) := fun a0 a2 a3 a4 a6 a7 a8 a9 => by
      rw [eLc_map nD (fun k => prT (nth dr (2 * k), nth dr (2 * k + 1))) (List.range d1) (by simp only [xSet, xAsg, xPar, xExpr, xRet, xRetN, xIf, xFor, xRaise, eBin, eCall, eNil, eCons, eTup, eLst, eChain, tVal, tCmp', tChain', eIsN, eNotN, tIsN', tNotN', tNot', tAnd', tOr', eAnd, eOr, eNot, eNeg, eIf, pNone, pSome, eSl, eDef, eIm, eIsi, sSeq, sRg1, sRg2, tYes', gNil', gCons', unpk, wipeE, eD0, eD1, sKeys, eQix, List.map_cons, List.map_nil, gv_eq, sv_eq, mkT_0, mkT_1, mkT_2, mkT_3, mkT_4, mkT_5, mkL_0, mkL_1, mkL_2, mkL_3, mkL_4, mkL_5, cst_eq, okb, excb, nx_ok, nxA_ok, nxO_nx, nxO_rt, out_ok, out_exc, seqO_eq, next_nx, next_rt, next_bk, next_ct, next_exc, wp_nx, wp_rt, wp_exc, wp_bk, wp_ct, wp_next, dAdd_ii, dSub_ii, dCmp_ii, asB_bl, asI_int, asInt_int, dInt_int, dInt_bl, dLen_tup, dLen_lst, dLen_frz, dMin2_eq, dMax2_eq, dTuple_lst, dTuple_tup, dTuple_frz, dList_lst, dList_tup, dIter_tup, dIter_lst, dIter_frz, dIx_t0, dIx_t1, dIx_t2, dIx_l0, dIx_l1, dIx_l2, dSl_tup, dSl_lst, dEq_ii, dNe_ii, dEq_bb, dNe_bb, dAll_map, dAny_map, List.getElem?_cons_zero, List.getElem?_cons_succ, List.set_cons_zero, List.set_cons_succ, List.length_cons, List.length_nil, Nat.reduceAdd, Nat.zero_add, Nat.reduceSub, List.replicate_succ, List.replicate_zero, List.cons_append, List.nil_append, List.append_nil, reduceIte, if_true, if_false, Bool.false_eq_true, Bool.not_true, Bool.not_false, mkRgI_nat (show d1 ≤ 1000000000 by omega)]) (by simp; omega) (fun k hk => ⟨_, rfl, rfl, ?_⟩)]
      · rw [hWe, List.map_map]
        rfl
      · have hk := List.mem_range.mp hk
        have em : dMul (.int 2) (nD k) = .ok (nD (2 * k)) := dMul_nl (i := 2) (by omega)
        have ea : dAdd (nD (2 * k)) (.int 1) = .ok (nD (2 * k + 1)) := dAdd_nn (2 * k) 1
        simp only [xSet, xAsg, xPar, xExpr, xRet, xRetN, xIf, xFor, xRaise, eBin, eCall, eNil, eCons, eTup, eLst, eChain, tVal, tCmp', tChain', eIsN, eNotN, tIsN', tNotN', tNot', tAnd', tOr', eAnd, eOr, eNot, eNeg, eIf, pNone, pSome, eSl, eDef, eIm, eIsi, sSeq, sRg1, sRg2, tYes', gNil', gCons', unpk, wipeE, eD0, eD1, sKeys, eQix, List.map_cons, List.map_nil, gv_eq, sv_eq, mkT_0, mkT_1, mkT_2, mkT_3, mkT_4, mkT_5, mkL_0, mkL_1, mkL_2, mkL_3, mkL_4, mkL_5, cst_eq, okb, excb, nx_ok, nxA_ok, nxO_nx, nxO_rt, out_ok, out_exc, seqO_eq, next_nx, next_rt, next_bk, next_ct, next_exc, wp_nx, wp_rt, wp_exc, wp_bk, wp_ct, wp_next, dAdd_ii, dSub_ii, dCmp_ii, asB_bl, asI_int, asInt_int, dInt_int, dInt_bl, dLen_tup, dLen_lst, dLen_frz, dMin2_eq, dMax2_eq, dTuple_lst, dTuple_tup, dTuple_frz, dList_lst, dList_tup, dIter_tup, dIter_lst, dIter_frz, dIx_t0, dIx_t1, dIx_t2, dIx_l0, dIx_l1, dIx_l2, dSl_tup, dSl_lst, dEq_ii, dNe_ii, dEq_bb, dNe_bb, dAll_map, dAny_map, List.getElem?_cons_zero, List.getElem?_cons_succ, List.set_cons_zero, List.set_cons_succ, List.length_cons, List.length_nil, Nat.reduceAdd, Nat.zero_add, Nat.reduceSub, List.replicate_succ, List.replicate_zero, List.cons_append, List.nil_append, List.append_nil, reduceIte, if_true, if_false, Bool.false_eq_true, Bool.not_true, Bool.not_false, wipeE, em, ea, dIx_tN (show 2 * k < dr.length by omega), dIx_tN (show 2 * k + 1 < dr.length by omega)]
    simp only [xSet, xAsg, xPar, xExpr, xRet, xRetN, xIf, xFor, xRaise, eBin, eCall, eNil, eCons, eTup, eLst, eChain, tVal, tCmp', tChain', eIsN, eNotN, tIsN', tNotN', tNot', tAnd', tOr', eAnd, eOr, eNot, eNeg, eIf, pNone, pSome, eSl, eDef, eIm, eIsi, sSeq, sRg1, sRg2, tYes', gNil', gCons', unpk, wipeE, eD0, eD1, sKeys, eQix, List.map_cons, List.map_nil, gv_eq, sv_eq, mkT_0, mkT_1, mkT_2, mkT_3, mkT_4, mkT_5, mkL_0, mkL_1, mkL_2, mkL_3, mkL_4, mkL_5, cst_eq, okb, excb, nx_ok, nxA_ok, nxO_nx, nxO_rt, out_ok, out_exc, seqO_eq, next_nx, next_rt, next_bk, next_ct, next_exc, wp_nx, wp_rt, wp_exc, wp_bk, wp_ct, wp_next, dAdd_ii, dSub_ii, dCmp_ii, asB_bl, asI_int, asInt_int, dInt_int, dInt_bl, dLen_tup, dLen_lst, dLen_frz, dMin2_eq, dMax2_eq, dTuple_lst, dTuple_tup, dTuple_frz, dList_lst, dList_tup, dIter_tup, dIter_lst, dIter_frz, dIx_t0, dIx_t1, dIx_t2, dIx_l0, dIx_l1, dIx_l2, dSl_tup, dSl_lst, dEq_ii, dNe_ii, dEq_bb, dNe_bb, dAll_map, dAny_map, List.getElem?_cons_zero, List.getElem?_cons_succ, List.set_cons_zero, List.set_cons_succ, List.length_cons, List.length_nil, Nat.reduceAdd, Nat.zero_add, Nat.reduceSub, List.replicate_succ, List.replicate_zero, List.cons_append, List.nil_append, List.append_nil, reduceIte, if_true, if_false, Bool.false_eq_true, Bool.not_true, Bool.not_false, e4, hjc]
  simp only [List.set_cons_succ, List.set_cons_zero]
  refine wp_set (d := tN d) ?_ ?_
  · have e4 : ∀ a0 a2 a3 a4 a6 a7 a8 a9, eLc [10] (sRg1 (eBin dIx (gv 1) (cst (.int 2)))) (sv 10) tYes' (eTup (eCons (eBin dIx (gv 5) (eBin dAdd (eBin dMul (cst (.int 2)) (gv 10)) (cst (.int 4)))) (eCons (eBin dIx (gv 5) (eBin dAdd (eBin dMul (cst (.int 2)) (gv 10)) (cst (.int 5)))) eNil))) [a0, some (.lst [nD d0, nD d1, nD d2, nD d3]), a2, a3, a4, some (tN dr), a6, a7, a8, a9, none] = .ok (.lst (U.map prT)) := fun a0 a2 a3 a4 a6 a7 a8 a9 => by
      rw [eLc_map nD (fun k => prT (nth dr (2 * k + 4), nth dr (2 * k + 5))) (List.range d2) (by simp only [xSet, xAsg, xPar, xExpr, xRet, xRetN, xIf, xFor, xRaise, eBin, eCall, eNil, eCons, eTup, eLst, eChain, tVal, tCmp', tChain', eIsN, eNotN, tIsN', tNotN', tNot', tAnd', tOr', eAnd, eOr, eNot, eNeg, eIf, pNone, pSome, eSl, eDef, eIm, eIsi, sSeq, sRg1, sRg2, tYes', gNil', gCons', unpk, wipeE, eD0, eD1, sKeys, eQix, List.map_cons, List.map_nil, gv_eq, sv_eq, mkT_0, mkT_1, mkT_2, mkT_3, mkT_4, mkT_5, mkL_0, mkL_1, mkL_2, mkL_3, mkL_4, mkL_5, cst_eq, okb, excb, nx_ok, nxA_ok, nxO_nx, nxO_rt, out_ok, out_exc, seqO_eq, next_nx, next_rt, next_bk, next_ct, next_exc, wp_nx, wp_rt, wp_exc, wp_bk, wp_ct, wp_next, dAdd_ii, dSub_ii, dCmp_ii, asB_bl, asI_int, asInt_int, dInt_int, dInt_bl, dLen_tup, dLen_lst, dLen_frz, dMin2_eq, dMax2_eq, dTuple_lst, dTuple_tup, dTuple_frz, dList_lst, dList_tup, dIter_tup, dIter_lst, dIter_frz, dIx_t0, dIx_t1, dIx_t2, dIx_l0, dIx_l1, dIx_l2, dSl_tup, dSl_lst, dEq_ii, dNe_ii, dEq_bb, dNe_bb, dAll_map, dAny_map, List.getElem?_cons_zero, List.getElem?_cons_succ, List.set_cons_zero, List.set_cons_succ, List.length_cons, List.length_nil, Nat.reduceAdd, Nat.zero_add, Nat.reduceSub, List.replicate_succ, List.replicate_zero, List.cons_append, List.nil_append, List.append_nil, reduceIte, if_true, if_false, Bool.false_eq_true, Bool.not_true, Bool.not_false, mkRgI_nat (show d2 ≤ 1000000000 by omega)]) (by simp; omega) (fun k hk => ⟨_, rfl, rfl, ?_⟩)]
      · rw [hUe, List.map_map]
        rfl
      · have hk := List.mem_range.mp hk
        have em : dMul (.int 2) (nD k) = .ok (nD (2 * k)) := dMul_nl (i := 2) (by omega)
        have ea : dAdd (nD (2 * k)) (.int 4) = .ok (nD (2 * k + 4)) := dAdd_nn (2 * k) 4
        have ea' : dAdd (nD (2 * k)) (.int 5) = .ok (nD (2 * k + 5)) := dAdd_nn (2 * k) 5
        simp only [xSet, xAsg, xPar, xExpr, xRet, xRetN, xIf, xFor, xRaise, eBin, eCall, eNil, eCons, eTup, eLst, eChain, tVal, tCmp', tChain', eIsN, eNotN, tIsN', tNotN', tNot', tAnd', tOr', eAnd, eOr, eNot, eNeg, eIf, pNone, pSome, eSl, eDef, eIm, eIsi, sSeq, sRg1, sRg2, tYes', gNil', gCons', unpk, wipeE, eD0, eD1, sKeys, eQix, List.map_cons, List.map_nil, gv_eq, sv_eq, mkT_0, mkT_1, mkT_2, mkT_3, mkT_4, mkT_5, mkL_0, mkL_1, mkL_2, mkL_3, mkL_4, mkL_5, cst_eq, okb, excb, nx_ok, nxA_ok, nxO_nx, nxO_rt, out_ok, out_exc, seqO_eq, next_nx, next_rt, next_bk, next_ct, next_exc, wp_nx, wp_rt, wp_exc, wp_bk, wp_ct, wp_next, dAdd_ii, dSub_ii, dCmp_ii, asB_bl, asI_int, asInt_int, dInt_int, dInt_bl, dLen_tup, dLen_lst, dLen_frz, dMin2_eq, dMax2_eq, dTuple_lst, dTuple_tup, dTuple_frz, dList_lst, dList_tup, dIter_tup, dIter_lst, dIter_frz, dIx_t0, dIx_t1, dIx_t2, dIx_l0, dIx_l1, dIx_l2, dSl_tup, dSl_lst, dEq_ii, dNe_ii, dEq_bb, dNe_bb, dAll_map, dAny_map, List.getElem?_cons_zero, List.getElem?_cons_succ, List.set_cons_zero, List.set_cons_succ, List.length_cons, List.length_nil, Nat.reduceAdd, Nat.zero_add, Nat.reduceSub, List.replicate_succ, List.replicate_zero, List.cons_append, List.nil_append, List.append_nil, reduceIte, if_true, if_false, Bool.false_eq_true, Bool.not_true, Bool.not_false, wipeE, em, ea, ea', dIx_tN (show 2 * k + 4 < dr.length by omega), dIx_tN (show 2 * k + 5 < dr.length by omega)]
    simp only [xSet, xAsg, xPar, xExpr, xRet, xRetN, xIf, xFor, xRaise, eBin, eCall, eNil, eCons, eTup, eLst, eChain, tVal, tCmp', tChain', eIsN, eNotN, tIsN', tNotN', tNot', tAnd', tOr', eAnd, eOr, eNot, eNeg, eIf, pNone, pSome, eSl, eDef, eIm, eIsi, sSeq, sRg1, sRg2, tYes', gNil', gCons', unpk, wipeE, eD0, eD1, sKeys, eQix, List.map_cons, List.map_nil, gv_eq, sv_eq, mkT_0, mkT_1, mkT_2, mkT_3, mkT_4, mkT_5, mkL_0, mkL_1, mkL_2, mkL_3, mkL_4, mkL_5, cst_eq, okb, excb, nx_ok, nxA_ok, nxO_nx, nxO_rt, out_ok, out_exc, seqO_eq, next_nx, next_rt, next_bk, next_ct, next_exc, wp_nx, wp_rt, wp_exc, wp_bk, wp_ct, wp_next, dAdd_ii, dSub_ii, dCmp_ii, asB_bl, asI_int, asInt_int, dInt_int, dInt_bl, dLen_tup, dLen_lst, dLen_frz, dMin2_eq, dMax2_eq, dTuple_lst, dTuple_tup, dTuple_frz, dList_lst, dList_tup, dIter_tup, dIter_lst, dIter_frz, dIx_t0, dIx_t1, dIx_t2, dIx_l0, dIx_l1, dIx_l2, dSl_tup, dSl_lst, dEq_ii, dNe_ii, dEq_bb, dNe_bb, dAll_map, dAny_map, List.getElem?_cons_zero, List.getElem?_cons_succ, List.set_cons_zero, List.set_cons_succ, List.length_cons, List.length_nil, Nat.reduceAdd, Nat.zero_add, Nat.reduceSub, List.replicate_succ, List.replicate_zero, List.cons_append, List.nil_append, List.append_nil, reduceIte, if_true, if_false, Bool.false_eq_true, Bool.not_true, Bool.not_false, e4, hjd]
  refine wp_set (d := .bl b') (by simp only [xSet, xAsg, xPar, xExpr, xRet, xRetN, xIf, xFor, xRaise, eBin, eCall, eNil, eCons, eTup, eLst, eChain, tVal, tCmp', tChain', eIsN, eNotN, tIsN', tNotN', tNot', tAnd', tOr', eAnd, eOr, eNot, eNeg, eIf, pNone, pSome, eSl, eDef, eIm, eIsi, sSeq, sRg1, sRg2, tYes', gNil', gCons', unpk, wipeE, eD0, eD1, sKeys, eQix, List.map_cons, List.map_nil, gv_eq, sv_eq, mkT_0, mkT_1, mkT_2, mkT_3, mkT_4, mkT_5, mkL_0, mkL_1, mkL_2, mkL_3, mkL_4, mkL_5, cst_eq, okb, excb, nx_ok, nxA_ok, nxO_nx, nxO_rt, out_ok, out_exc, seqO_eq, next_nx, next_rt, next_bk, next_ct, next_exc, wp_nx, wp_rt, wp_exc, wp_bk, wp_ct, wp_next, dAdd_ii, dSub_ii, dCmp_ii, asB_bl, asI_int, asInt_int, dInt_int, dInt_bl, dLen_tup, dLen_lst, dLen_frz, dMin2_eq, dMax2_eq, dTuple_lst, dTuple_tup, dTuple_frz, dList_lst, dList_tup, dIter_tup, dIter_lst, dIter_frz, dIx_t0, dIx_t1, dIx_t2, dIx_l0, dIx_l1, dIx_l2, dSl_tup, dSl_lst, dEq_ii, dNe_ii, dEq_bb, dNe_bb, dAll_map, dAny_map, List.getElem?_cons_zero, List.getElem?_cons_succ, List.set_cons_zero, List.set_cons_succ, List.length_cons, List.length_nil, Nat.reduceAdd, Nat.zero_add, Nat.reduceSub, List.replicate_succ, List.replicate_zero, List.cons_append, List.nil_append, List.append_nil, reduceIte, if_true, if_false, Bool.false_eq_true, Bool.not_true, Bool.not_false, e3]) ?_
  refine wp_no (by simp only [xSet, xAsg, xPar, xExpr, xRet, xRetN, xIf, xFor, xRaise, eBin, eCall, eNil, eCons, eTup, eLst, eChain, tVal, tCmp', tChain', eIsN, eNotN, tIsN', tNotN', tNot', tAnd', tOr', eAnd, eOr, eNot, eNeg, eIf, pNone, pSome, eSl, eDef, eIm, eIsi, sSeq, sRg1, sRg2, tYes', gNil', gCons', unpk, wipeE, eD0, eD1, sKeys, eQix, List.map_cons, List.map_nil, gv_eq, sv_eq, mkT_0, mkT_1, mkT_2, mkT_3, mkT_4, mkT_5, mkL_0, mkL_1, mkL_2, mkL_3, mkL_4, mkL_5, cst_eq, okb, excb, nx_ok, nxA_ok, nxO_nx, nxO_rt, out_ok, out_exc, seqO_eq, next_nx, next_rt, next_bk, next_ct, next_exc, wp_nx, wp_rt, wp_exc, wp_bk, wp_ct, wp_next, dAdd_ii, dSub_ii, dCmp_ii, asB_bl, asI_int, asInt_int, dInt_int, dInt_bl, dLen_tup, dLen_lst, dLen_frz, dMin2_eq, dMax2_eq, dTuple_lst, dTuple_tup, dTuple_frz, dList_lst, dList_tup, dIter_tup, dIter_lst, dIter_frz, dIx_t0, dIx_t1, dIx_t2, dIx_l0, dIx_l1, dIx_l2, dSl_tup, dSl_lst, dEq_ii, dNe_ii, dEq_bb, dNe_bb, dAll_map, dAny_map, List.getElem?_cons_zero, List.getElem?_cons_succ, List.set_cons_zero, List.set_cons_succ, List.length_cons, List.length_nil, Nat.reduceAdd, Nat.zero_add, Nat.reduceSub, List.replicate_succ, List.replicate_zero, List.cons_append, List.nil_append, List.append_nil, reduceIte, if_true, if_false, Bool.false_eq_true, Bool.not_true, Bool.not_false, e1, e2, ib]) ?_
  have a1 : dAdd (tN c) (.tup [.int 0]) = .ok (tI (cI c ++ [0])) := by
    have : dAdd (.tup (c.map nD)) (.tup [.int 0]) = .ok (.tup (c.map nD ++ [.int 0])) := dAdd_tt (by simp; omega)
    have e : tI (cI c ++ [0]) = .tup (c.map nD ++ [.int 0]) := by unfold tI cI; rw [List.map_append, List.map_map]; rfl
    rw [e]
    exact this
  have s1 : DL.cutD (d.map nD) none (some (-1)) = (cI d.dropLast).map D.int := by
    have h0 : HT.sIx (d.map nD).length 0 none = 0 := rfl
    have h9 : HT.sIx (d.map nD).length (d.map nD).length (some (-1)) = d.length - 1 := by
      simp [HT.sIx]
      omega
    unfold DL.cutD
    rw [h0, h9]
    unfold cI
    rw [List.dropLast_eq_take, List.map_map, Nat.sub_zero, List.drop_zero, ← List.map_take]
    rfl
  refine wp_set (d := .lst [.tup [tN c, tI (cI d.dropLast)], .tup [tI (cI c ++ [0]), tN d]]) ?_ ?_
  · simp only [xSet, xAsg, xPar, xExpr, xRet, xRetN, xIf, xFor, xRaise, eBin, eCall, eNil, eCons, eTup, eLst, eChain, tVal, tCmp', tChain', eIsN, eNotN, tIsN', tNotN', tNot', tAnd', tOr', eAnd, eOr, eNot, eNeg, eIf, pNone, pSome, eSl, eDef, eIm, eIsi, sSeq, sRg1, sRg2, tYes', gNil', gCons', unpk, wipeE, eD0, eD1, sKeys, eQix, List.map_cons, List.map_nil, gv_eq, sv_eq, mkT_0, mkT_1, mkT_2, mkT_3, mkT_4, mkT_5, mkL_0, mkL_1, mkL_2, mkL_3, mkL_4, mkL_5, cst_eq, okb, excb, nx_ok, nxA_ok, nxO_nx, nxO_rt, out_ok, out_exc, seqO_eq, next_nx, next_rt, next_bk, next_ct, next_exc, wp_nx, wp_rt, wp_exc, wp_bk, wp_ct, wp_next, dAdd_ii, dSub_ii, dCmp_ii, asB_bl, asI_int, asInt_int, dInt_int, dInt_bl, dLen_tup, dLen_lst, dLen_frz, dMin2_eq, dMax2_eq, dTuple_lst, dTuple_tup, dTuple_frz, dList_lst, dList_tup, dIter_tup, dIter_lst, dIter_frz, dIx_t0, dIx_t1, dIx_t2, dIx_l0, dIx_l1, dIx_l2, dSl_tup, dSl_lst, dEq_ii, dNe_ii, dEq_bb, dNe_bb, dAll_map, dAny_map, List.getElem?_cons_zero, List.getElem?_cons_succ, List.set_cons_zero, List.set_cons_succ, List.length_cons, List.length_nil, Nat.reduceAdd, Nat.zero_add, Nat.reduceSub, List.replicate_succ, List.replicate_zero, List.cons_append, List.nil_append, List.append_nil, reduceIte, if_true, if_false, Bool.false_eq_true, Bool.not_true, Bool.not_false, a1, s1]
  simp only [List.set_cons_succ, List.set_cons_zero]
  refine wp_seq ?_
  have bad1 : F_check_joining [algD n l, tI (cI c ++ [0])] = .exc "InvalidJoining" := check_bad g (by simp [cI]; omega)
  have bad2 : F_check_joining [algD n l, tI (cI d.dropLast)] = .exc "InvalidJoining" := check_bad g (by simp [cI]; omega)
  have x1 := exchange_bad1 g bad1 (tN d)
  have x2 := exchange_bad2 g jc bad2
  have hd3 : d3 = 0 ∨ d3 = 1 := by omega
  rcases hd3 with rfl | rfl
  · have q0 : ∀ x y : D, dIx (.lst [x, y]) (nD 0) = .ok x := fun x y => dIx_l0 _ _
    simp only [xSet, xAsg, xPar, xExpr, xRet, xRetN, xIf, xFor, xRaise, eBin, eCall, eNil, eCons, eTup, eLst, eChain, tVal, tCmp', tChain', eIsN, eNotN, tIsN', tNotN', tNot', tAnd', tOr', eAnd, eOr, eNot, eNeg, eIf, pNone, pSome, eSl, eDef, eIm, eIsi, sSeq, sRg1, sRg2, tYes', gNil', gCons', unpk, wipeE, eD0, eD1, sKeys, eQix, List.map_cons, List.map_nil, gv_eq, sv_eq, mkT_0, mkT_1, mkT_2, mkT_3, mkT_4, mkT_5, mkL_0, mkL_1, mkL_2, mkL_3, mkL_4, mkL_5, cst_eq, okb, excb, nx_ok, nxA_ok, nxO_nx, nxO_rt, out_ok, out_exc, seqO_eq, next_nx, next_rt, next_bk, next_ct, next_exc, wp_nx, wp_rt, wp_exc, wp_bk, wp_ct, wp_next, dAdd_ii, dSub_ii, dCmp_ii, asB_bl, asI_int, asInt_int, dInt_int, dInt_bl, dLen_tup, dLen_lst, dLen_frz, dMin2_eq, dMax2_eq, dTuple_lst, dTuple_tup, dTuple_frz, dList_lst, dList_tup, dIter_tup, dIter_lst, dIter_frz, dIx_t0, dIx_t1, dIx_t2, dIx_l0, dIx_l1, dIx_l2, dSl_tup, dSl_lst, dEq_ii, dNe_ii, dEq_bb, dNe_bb, dAll_map, dAny_map, List.getElem?_cons_zero, List.getElem?_cons_succ, List.set_cons_zero, List.set_cons_succ, List.length_cons, List.length_nil, Nat.reduceAdd, Nat.zero_add, Nat.reduceSub, List.replicate_succ, List.replicate_zero, List.cons_append, List.nil_append, List.append_nil, reduceIte, if_true, if_false, Bool.false_eq_true, Bool.not_true, Bool.not_false, tryN, dIx_l3, q0, x2, trN, sb_jj]
  · have q1 : ∀ x y : D, dIx (.lst [x, y]) (nD 1) = .ok y := fun x y => dIx_l1 _ _ _
    simp only [xSet, xAsg, xPar, xExpr, xRet, xRetN, xIf, xFor, xRaise, eBin, eCall, eNil, eCons, eTup, eLst, eChain, tVal, tCmp', tChain', eIsN, eNotN, tIsN', tNotN', tNot', tAnd', tOr', eAnd, eOr, eNot, eNeg, eIf, pNone, pSome, eSl, eDef, eIm, eIsi, sSeq, sRg1, sRg2, tYes', gNil', gCons', unpk, wipeE, eD0, eD1, sKeys, eQix, List.map_cons, List.map_nil, gv_eq, sv_eq, mkT_0, mkT_1, mkT_2, mkT_3, mkT_4, mkT_5, mkL_0, mkL_1, mkL_2, mkL_3, mkL_4, mkL_5, cst_eq, okb, excb, nx_ok, nxA_ok, nxO_nx, nxO_rt, out_ok, out_exc, seqO_eq, next_nx, next_rt, next_bk, next_ct, next_exc, wp_nx, wp_rt, wp_exc, wp_bk, wp_ct, wp_next, dAdd_ii, dSub_ii, dCmp_ii, asB_bl, asI_int, asInt_int, dInt_int, dInt_bl, dLen_tup, dLen_lst, dLen_frz, dMin2_eq, dMax2_eq, dTuple_lst, dTuple_tup, dTuple_frz, dList_lst, dList_tup, dIter_tup, dIter_lst, dIter_frz, dIx_t0, dIx_t1, dIx_t2, dIx_l0, dIx_l1, dIx_l2, dSl_tup, dSl_lst, dEq_ii, dNe_ii, dEq_bb, dNe_bb, dAll_map, dAny_map, List.getElem?_cons_zero, List.getElem?_cons_succ, List.set_cons_zero, List.set_cons_succ, List.length_cons, List.length_nil, Nat.reduceAdd, Nat.zero_add, Nat.reduceSub, List.replicate_succ, List.replicate_zero, List.cons_append, List.nil_append, List.append_nil, reduceIte, if_true, if_false, Bool.false_eq_true, Bool.not_true, Bool.not_false, tryN, dIx_l3, q1, x1, trN, sb_jj]
end Lw

/-! The walk of the law, printed by gen.py. -/
namespace Lw
open PySem PySem.Spec PyProof.Rows L2 DL

def noS : Stmt := .Pass ⟨0, 0, 0, 0⟩
def topS (i : Nat) : Stmt := PySem.Challenge.pw_lawsofdeeds_k11_exchange.main.body.getD i noS
def inS (i j : Nat) : Stmt := match topS i with | .ClassDef _ _ _ b _ _ _ _ _ _ _ => b.getD j noS | _ => noS

abbrev s_power : Stmt := topS 11
abbrev s_is_label : Stmt := topS 12
abbrev s_index_of : Stmt := topS 13
abbrev s_tuples : Stmt := topS 14
abbrev s_are_things : Stmt := topS 15
abbrev s_check_operation_of : Stmt := topS 16
abbrev s_Algebra___init__ : Stmt := inS 17 0
abbrev s_Algebra_operation : Stmt := inS 17 2
abbrev s_Algebra_value : Stmt := inS 17 3
abbrev s_least_of : Stmt := topS 19
abbrev s_normal : Stmt := topS 20
abbrev s_moves : Stmt := topS 21
abbrev s_moved : Stmt := topS 22
abbrev s_move_rows : Stmt := topS 23
abbrev s_closed_under : Stmt := topS 24
abbrev s_is_equivalence : Stmt := topS 25
abbrev s_check_joining : Stmt := topS 26
abbrev s_are_exchanged : Stmt := topS 27
abbrev s_exchange : Stmt := topS 28
abbrev s__law_cell : Stmt := topS 30
abbrev s__law_digits : Stmt := topS 31
abbrev s__law_rich : Stmt := topS 32
abbrev s__law_draws : Stmt := topS 33
abbrev s__law_tuples : Stmt := topS 34
abbrev s__law_table : Stmt := topS 35
abbrev s__law_operations : Stmt := topS 36
abbrev s__law_joined : Stmt := topS 37
abbrev s__law_exchange : Stmt := topS 38
abbrev s__law_is_bool : Stmt := topS 39
abbrev s_law : Stmt := topS 40
structure Tx0 (K : PySem.W.Frag) (mg : Str → Option Value) : Prop where
  n_raw : mg "<raw>" = none
  n_all : mg "all" = none
  n_bool : mg "bool" = none
  n_int : mg "int" = none
  n_isinstance : mg "isinstance" = none
  n_len : mg "len" = none
  n_list : mg "list" = none
  n_max : mg "max" = none
  n_min : mg "min" = none
  n_range : mg "range" = none
  n_set : mg "set" = none
  n_tuple : mg "tuple" = none
  c_LETTERS : ∃ u, mg "LETTERS" = some (.str "abcdefghijklmnopqrstuvwxyz" u)
  c_MOST_ARGUMENTS : ∃ u, mg "MOST_ARGUMENTS" = some (.int 2 u)
  c_MOST_OPERATIONS : ∃ u, mg "MOST_OPERATIONS" = some (.int 4 u)
  c_MOST_THINGS : ∃ u, mg "MOST_THINGS" = some (.int 8 u)
  x_InvalidAlgebra : ExcAt K mg "InvalidAlgebra"
  x_InvalidJoining : ExcAt K mg "InvalidJoining"
  x_InvalidThings : ExcAt K mg "InvalidThings"
  x_UnknownName : ExcAt K mg "UnknownName"
  d_power : DefAt K mg "power" s_power 2
  d_is_label : DefAt K mg "is_label" s_is_label 1
  d_index_of : DefAt K mg "index_of" s_index_of 2
  d_tuples : DefAt K mg "tuples" s_tuples 2
  d_are_things : DefAt K mg "are_things" s_are_things 2
  d_check_operation_of : DefAt K mg "check_operation_of" s_check_operation_of 2
  d_Algebra___init__ : IniAt K mg "Algebra" (["n", "operations"] : List Str) "Algebra.__init__" s_Algebra___init__ 2
  d_Algebra_operation : MetAt K mg "Algebra" "operation" "Algebra.operation" s_Algebra_operation 2
  d_Algebra_value : MetAt K mg "Algebra" "value" "Algebra.value" s_Algebra_value 3
  d_least_of : DefAt K mg "least_of" s_least_of 2
  d_normal : DefAt K mg "normal" s_normal 1
  d_moves : DefAt K mg "moves" s_moves 1
  d_moved : DefAt K mg "moved" s_moved 3
  d_move_rows : DefAt K mg "move_rows" s_move_rows 1
  d_closed_under : DefAt K mg "closed_under" s_closed_under 2
  d_is_equivalence : DefAt K mg "is_equivalence" s_is_equivalence 2
  d_check_joining : DefAt K mg "check_joining" s_check_joining 2
  d_are_exchanged : DefAt K mg "are_exchanged" s_are_exchanged 2
  d_exchange : DefAt K mg "exchange" s_exchange 3
  d__law_cell : DefAt K mg "_law_cell" s__law_cell 2
  d__law_digits : DefAt K mg "_law_digits" s__law_digits 2
  d__law_rich : DefAt K mg "_law_rich" s__law_rich 1
  d__law_draws : DefAt K mg "_law_draws" s__law_draws 3
  d__law_tuples : DefAt K mg "_law_tuples" s__law_tuples 2
  d__law_table : DefAt K mg "_law_table" s__law_table 3
  d__law_operations : DefAt K mg "_law_operations" s__law_operations 2
  d__law_joined : DefAt K mg "_law_joined" s__law_joined 3
  d__law_exchange : DefAt K mg "_law_exchange" s__law_exchange 2
  d__law_is_bool : DefAt K mg "_law_is_bool" s__law_is_bool 2
  d_law : DefAt K mg "law" s_law 1
  a_Algebra_n : FldAt K mg "Algebra" "n"
  a_Algebra_operations : FldAt K mg "Algebra" "operations"
  sub : SubOk ⟨K, mg, fun _ => []⟩ sbx
structure Tx (K : PySem.W.Frag) (mg : Str → Option Value) (fl : Str → List Str) (b : Bool) : Prop extends Tx0 K mg where
  base : b = true → fl "<raw>" = []
  f_Algebra : fl "Algebra" = (["n", "operations"] : List Str)
section
variable {P : Program} {w : World} {K : PySem.W.Frag} {mg : Str → Option Value} {base : Heap} {fl : Str → List Str} {b : Bool}
theorem Tx.raw (T : Tx K mg fl b) (y : Addr) : Tx K mg (rawF fl y) false := ⟨T.toTx0, (fun z => nomatch z), (rawF_of (by decide)).trans T.f_Algebra⟩
theorem sc_power : FnScope ["base", "exponent", "found", "_"] ["base", "exponent"] (defScope s_power) := ⟨rfl, rfl, rfl, by decide +kernel, rfl, by decide +kernel, by decide +kernel⟩
theorem c_power (T : Tx K mg fl b) : Cal P w K mg base fl 2 "power" 2 F_power := by
  have S := sc_power
  refine T.d_power.cal (k := 1) (ow := [false, false, false, false]) S rfl rfl fun f cdv A outer s H E hr => ?_
  exact (dss_cons (ds_set (i := 2) rfl S.nd rfl (by first | exact .inl rfl | exact .inr rfl) (de_int (m := .t)))
 (dss_cons (ds_for (passes_of rfl) rfl (dh_rg1 T.n_range (by exact rfl) (de_var (m := .f) (i := 1) rfl rfl (by first | exact .inl rfl | exact .inr (.inl rfl) | exact .inr (.inr rfl)))) (dg_name (i := 3) rfl S.nd rfl (by first | exact .inl rfl | exact .inr rfl) (by first | exact .inl rfl | exact .inr rfl))
 (dss_cons (ds_aug (i := 2) rfl S.nd rfl (by first | exact .inl rfl | exact .inr rfl) iop_mul (o_mulI) (de_var (m := .f) (i := 0) rfl rfl (by first | exact .inl rfl | exact .inr (.inl rfl) | exact .inr (.inr rfl))))
 dss_nil))
 (dss_cons (ds_ret (de_var (m := .f) (i := 2) rfl rfl (by first | exact .inl rfl | exact .inr (.inl rfl) | exact .inr (.inr rfl))))
 dss_nil)))

theorem sc_is_label : FnScope ["name", "character"] ["name"] (defScope s_is_label) := ⟨rfl, rfl, rfl, by decide +kernel, rfl, by decide +kernel, by decide +kernel⟩
theorem c_is_label (T : Tx K mg fl b) : Cal P w K mg base fl 2 "is_label" 1 F_is_label := by
  have S := sc_is_label
  refine T.d_is_label.cal (k := 1) (ow := [false, false]) S rfl rfl fun f cdv A outer s H E hr => ?_
  exact (dss_cons (ds_ret (de_and (m := .f) (de_chain (m := .f) op_le op_le (o_cmp _) (o_cmp _) (de_int (m := .f)) (de_callB (m := .f) call_len o_len rfl T.n_len (by decide +kernel) (by exact rfl) (dai_cons (m := .f) rfl (de_var (m := .f) (i := 0) rfl rfl (by first | exact .inl rfl | exact .inr (.inl rfl) | exact .inr (.inr rfl))) (dai_nil (m := .f)))) (de_int (m := .f))) (de_one (m := .f) (de_callB (m := .f) (cr_all rfl) o_all rfl T.n_all (by decide +kernel) (by exact rfl) (dai_cons (m := .f) rfl (DF.de (m := .f) (df_lc rfl S.nd (DH.di (dh_seq (de_var (m := .t) (i := 0) rfl rfl (by first | exact .inl rfl | exact .inr (.inl rfl) | exact .inr (.inr rfl))))) (blkOk_by (own := [("character", 1)]) (by kernel_rfl)) rfl rfl (fun _ _ _ _ _ => (dg_name (i := 1) rfl S.nd rfl (by first | exact .inl rfl | exact .inr rfl) (by first | exact .inl rfl | exact .inr rfl))) (fun _ _ _ _ _ => dts_nil) (fun _ _ _ _ _ => (de_cmp (m := .t) (op_inG (Room.u65 hr)) (o_in false) (de_var (m := .f) (i := 1) rfl rfl (by first | exact .inl rfl | exact .inr (.inl rfl) | exact .inr (.inr rfl))) (de_gstrE (m := .f) T.c_LETTERS (by exact rfl)))))) (dai_nil (m := .f)))))))
 dss_nil)

theorem sc_index_of : FnScope ["n", "things", "index", "thing"] ["n", "things"] (defScope s_index_of) := ⟨rfl, rfl, rfl, by decide +kernel, rfl, by decide +kernel, by decide +kernel⟩
theorem c_index_of (T : Tx K mg fl b) : Cal P w K mg base fl 2 "index_of" 2 F_index_of := by
  have S := sc_index_of
  refine T.d_index_of.cal (k := 1) (ow := [false, false, false, false]) S rfl rfl fun f cdv A outer s H E hr => ?_
  exact (dss_cons (ds_set (i := 2) rfl S.nd rfl (by first | exact .inl rfl | exact .inr rfl) (de_int (m := .t)))
 (dss_cons (ds_for (passes_of rfl) rfl (dh_seq (de_var (m := .t) (i := 1) rfl rfl (by first | exact .inl rfl | exact .inr (.inl rfl) | exact .inr (.inr rfl)))) (dg_name (i := 3) rfl S.nd rfl (by first | exact .inl rfl | exact .inr rfl) (by first | exact .inl rfl | exact .inr rfl))
 (dss_cons (ds_set (i := 2) rfl S.nd rfl (by first | exact .inl rfl | exact .inr rfl) (de_bin (m := .t) op_addG o_add rfl rfl (de_bin (m := .t) op_mulG o_mul rfl rfl (de_var (m := .t) (i := 2) rfl rfl (by first | exact .inl rfl | exact .inr (.inl rfl) | exact .inr (.inr rfl))) (de_var (m := .t) (i := 0) rfl rfl (by first | exact .inl rfl | exact .inr (.inl rfl) | exact .inr (.inr rfl)))) (de_var (m := .t) (i := 3) rfl rfl (by first | exact .inl rfl | exact .inr (.inl rfl) | exact .inr (.inr rfl)))))
 dss_nil))
 (dss_cons (ds_ret (de_var (m := .f) (i := 2) rfl rfl (by first | exact .inl rfl | exact .inr (.inl rfl) | exact .inr (.inr rfl))))
 dss_nil)))

theorem sc_tuples : FnScope ["n", "k", "found", "_", "row", "thing"] ["n", "k"] (defScope s_tuples) := ⟨rfl, rfl, rfl, by decide +kernel, rfl, by decide +kernel, by decide +kernel⟩
theorem c_tuples (T : Tx K mg fl b) : Cal P w K mg base fl 2 "tuples" 2 F_tuples := by
  have S := sc_tuples
  refine T.d_tuples.cal (k := 1) (ow := [false, false, false, false, false, false]) S rfl rfl fun f cdv A outer s H E hr => ?_
  exact (dss_cons (ds_set (i := 2) rfl S.nd rfl (by first | exact .inl rfl | exact .inr rfl) (de_lst (m := .t) (da_cons (m := .t) (de_tup (m := .t) (da_nil (m := .t))) (da_nil (m := .t)))))
 (dss_cons (ds_for (passes_of rfl) rfl (dh_rg1 T.n_range (by exact rfl) (de_var (m := .f) (i := 1) rfl rfl (by first | exact .inl rfl | exact .inr (.inl rfl) | exact .inr (.inr rfl)))) (dg_name (i := 3) rfl S.nd rfl (by first | exact .inl rfl | exact .inr rfl) (by first | exact .inl rfl | exact .inr rfl))
 (dss_cons (ds_setLc2 (i := 2) rfl S.nd rfl rfl (sw_true rfl rfl rfl (by decide +kernel)) (DH.di (dh_seq (de_var (m := .t) (i := 2) rfl rfl (by first | exact .inl rfl | exact .inr (.inl rfl) | exact .inr (.inr rfl))))) (blkOk_by (own := [("row", 4), ("thing", 5)]) (by kernel_rfl)) (vs1 := [5]) (by decide) rfl rfl rfl (fun _ _ _ _ _ => (dg_name (i := 4) rfl S.nd rfl (by first | exact .inl rfl | exact .inr rfl) (by first | exact .inl rfl | exact .inr rfl))) (fun _ _ _ _ _ => dts_nil) (fun _ _ _ _ _ => (DH.di (dh_rg1 T.n_range (by exact rfl) (de_var (m := .f) (i := 0) rfl rfl (by first | exact .inl rfl | exact .inr (.inl rfl) | exact .inr (.inr rfl)))))) (fun _ _ _ _ _ => (dg_name (i := 5) rfl S.nd rfl (by first | exact .inl rfl | exact .inr rfl) (by first | exact .inl rfl | exact .inr rfl))) (fun _ _ _ _ _ => dts_nil) (fun _ _ _ _ _ => (de_bin (m := .t) op_addG o_add rfl rfl (de_var (m := .t) (i := 4) rfl rfl (by first | exact .inl rfl | exact .inr (.inl rfl) | exact .inr (.inr rfl))) (de_tup (m := .t) (da_cons (m := .t) (de_var (m := .t) (i := 5) rfl rfl (by first | exact .inl rfl | exact .inr (.inl rfl) | exact .inr (.inr rfl))) (da_nil (m := .t)))))))
 dss_nil))
 (dss_cons (ds_ret (de_var (m := .f) (i := 2) rfl rfl (by first | exact .inl rfl | exact .inr (.inl rfl) | exact .inr (.inr rfl))))
 dss_nil)))

theorem sc_are_things : FnScope ["n", "things", "thing"] ["n", "things"] (defScope s_are_things) := ⟨rfl, rfl, rfl, by decide +kernel, rfl, by decide +kernel, by decide +kernel⟩
theorem c_are_things (T : Tx K mg fl b) : Cal P w K mg base fl 2 "are_things" 2 F_are_things := by
  have S := sc_are_things
  refine T.d_are_things.cal (k := 1) (ow := [false, false, false]) S rfl rfl fun f cdv A outer s H E hr => ?_
  exact (dss_cons (ds_ret (de_callB (m := .f) (cr_all rfl) o_all rfl T.n_all (by decide +kernel) (by exact rfl) (dai_cons (m := .f) rfl (DF.de (m := .f) (df_lc rfl S.nd (DH.di (dh_seq (de_var (m := .t) (i := 1) rfl rfl (by first | exact .inl rfl | exact .inr (.inl rfl) | exact .inr (.inr rfl))))) (blkOk_by (own := [("thing", 2)]) (by kernel_rfl)) rfl rfl (fun _ _ _ _ _ => (dg_name (i := 2) rfl S.nd rfl (by first | exact .inl rfl | exact .inr rfl) (by first | exact .inl rfl | exact .inr rfl))) (fun _ _ _ _ _ => dts_nil) (fun _ _ _ _ _ => (de_chain (m := .t) op_le op_lt (o_cmp _) (o_cmp _) (de_int (m := .f)) (de_var (m := .f) (i := 2) rfl rfl (by first | exact .inl rfl | exact .inr (.inl rfl) | exact .inr (.inr rfl))) (de_var (m := .f) (i := 0) rfl rfl (by first | exact .inl rfl | exact .inr (.inl rfl) | exact .inr (.inr rfl))))))) (dai_nil (m := .f)))))
 dss_nil)

theorem sc_check_operation_of : FnScope ["n", "operation", "name", "arity", "table"] ["n", "operation"] (defScope s_check_operation_of) := ⟨rfl, rfl, rfl, by decide +kernel, rfl, by decide +kernel, by decide +kernel⟩
theorem c_check_operation_of (T : Tx K mg fl b) : Cal P w K mg base fl 3 "check_operation_of" 2 F_check_operation_of := by
  have S := sc_check_operation_of
  refine T.d_check_operation_of.cal (k := 2) (ow := [false, false, false, false, false]) S rfl rfl fun f cdv A outer s H E hr => ?_
  exact (dss_cons (ds_if (dt_cmp (op_neD hr.units) o_ne (de_callB (m := .f) call_len o_len rfl T.n_len (by decide +kernel) (by exact rfl) (dai_cons (m := .f) rfl (de_var (m := .f) (i := 1) rfl rfl (by first | exact .inl rfl | exact .inr (.inl rfl) | exact .inr (.inr rfl))) (dai_nil (m := .f)))) (de_int (m := .f)))
 (dss_cons (ds_raiseE rfl (takes_of rfl rfl rfl rfl) T.x_InvalidAlgebra (by exact rfl))
 dss_nil)
 dss_nil)
 (dss_cons (ds_asg (de_var (m := .t) (i := 1) rfl rfl (by first | exact .inl rfl | exact .inr (.inl rfl) | exact .inr (.inr rfl))) (dg_tup rfl (dgs_cons (dg_name (i := 2) rfl S.nd rfl (by first | exact .inl rfl | exact .inr rfl) (by first | exact .inl rfl | exact .inr rfl)) (dgs_cons (dg_name (i := 3) rfl S.nd rfl (by first | exact .inl rfl | exact .inr rfl) (by first | exact .inl rfl | exact .inr rfl)) (dgs_cons (dg_name (i := 4) rfl S.nd rfl (by first | exact .inl rfl | exact .inr rfl) (by first | exact .inl rfl | exact .inr rfl)) dgs_nil)))))
 (dss_cons (ds_if (DW.dt (dw_or (dt_not (dt_val (dc (m := .f) (takes_of rfl rfl rfl rfl) (c_is_label T) hr (by decide) rfl (by exact rfl) (da_cons (m := .f) (de_var (m := .f) (i := 2) rfl rfl (by first | exact .inl rfl | exact .inr (.inl rfl) | exact .inr (.inr rfl))) (da_nil (m := .f)))))) (dw_or1 (dt_not (dt_chain op_le op_le (o_cmp _) (o_cmp _) (de_int (m := .f)) (de_var (m := .f) (i := 3) rfl rfl (by first | exact .inl rfl | exact .inr (.inl rfl) | exact .inr (.inr rfl))) (de_gintE (m := .f) T.c_MOST_ARGUMENTS (by exact rfl)))))))
 (dss_cons (ds_raiseE rfl (takes_of rfl rfl rfl rfl) T.x_InvalidAlgebra (by exact rfl))
 dss_nil)
 dss_nil)
 (dss_cons (ds_if (DW.dt (dw_or (dt_cmp (op_neD hr.units) o_ne (de_callB (m := .f) call_len o_len rfl T.n_len (by decide +kernel) (by exact rfl) (dai_cons (m := .f) rfl (de_var (m := .f) (i := 4) rfl rfl (by first | exact .inl rfl | exact .inr (.inl rfl) | exact .inr (.inr rfl))) (dai_nil (m := .f)))) (dc (m := .f) (takes_of rfl rfl rfl rfl) (c_power T) hr (by decide) rfl (by exact rfl) (da_cons (m := .f) (de_var (m := .f) (i := 0) rfl rfl (by first | exact .inl rfl | exact .inr (.inl rfl) | exact .inr (.inr rfl))) (da_cons (m := .f) (de_var (m := .f) (i := 3) rfl rfl (by first | exact .inl rfl | exact .inr (.inl rfl) | exact .inr (.inr rfl))) (da_nil (m := .f)))))) (dw_or1 (dt_not (dt_val (dc (m := .f) (takes_of rfl rfl rfl rfl) (c_are_things T) hr (by decide) rfl (by exact rfl) (da_cons (m := .f) (de_var (m := .f) (i := 0) rfl rfl (by first | exact .inl rfl | exact .inr (.inl rfl) | exact .inr (.inr rfl))) (da_cons (m := .f) (de_var (m := .f) (i := 4) rfl rfl (by first | exact .inl rfl | exact .inr (.inl rfl) | exact .inr (.inr rfl))) (da_nil (m := .f))))))))))
 (dss_cons (ds_raiseE rfl (takes_of rfl rfl rfl rfl) T.x_InvalidAlgebra (by exact rfl))
 dss_nil)
 dss_nil)
 dss_nil))))

theorem sc_Algebra___init__ : FnScope ["self", "n", "operations", "names", "operation", "name", "arity", "table"] ["self", "n", "operations"] (defScope s_Algebra___init__) := ⟨rfl, rfl, rfl, by decide +kernel, rfl, by decide +kernel, by decide +kernel⟩
theorem c_Algebra___init__ (T : Tx K mg fl true) : CalI P w K mg base fl 4 "Algebra" 2 F_Algebra___init__ := by
  have S := sc_Algebra___init__
  refine T.d_Algebra___init__.cal (k := 3) (ow := [false, false, false, true, false, false, false, false]) S rfl rfl T.n_raw (T.base rfl) T.f_Algebra (by decide) (by decide) (by decide) fun f y cdv A outer s H E hr => ?_
  replace T := T.raw y
  exact (di_pre (ds_if (DW.dt (dw_or (dt_not (dt_chain op_le op_le (o_cmp _) (o_cmp _) (de_int (m := .f)) (de_var (m := .f) (i := 1) rfl rfl (by first | exact .inl rfl | exact .inr (.inl rfl) | exact .inr (.inr rfl))) (de_gintE (m := .f) T.c_MOST_THINGS (by exact rfl)))) (dw_or1 (dt_cmp op_gt (o_cmp _) (de_callB (m := .f) call_len o_len rfl T.n_len (by decide +kernel) (by exact rfl) (dai_cons (m := .f) rfl (de_var (m := .f) (i := 2) rfl rfl (by first | exact .inl rfl | exact .inr (.inl rfl) | exact .inr (.inr rfl))) (dai_nil (m := .f)))) (de_gintE (m := .f) T.c_MOST_OPERATIONS (by exact rfl))))))
 (dss_cons (ds_raiseE rfl (takes_of rfl rfl rfl rfl) T.x_InvalidAlgebra (by exact rfl))
 dss_nil)
 dss_nil)
 (di_pre (ds_setO (i := 3) rfl S.nd rfl (by first | exact .inl rfl | exact .inr rfl) (df_lst (da_nil (m := .t))))
 (di_pre (ds_for (passes_of rfl) rfl (dh_seq (de_var (m := .t) (i := 2) rfl rfl (by first | exact .inl rfl | exact .inr (.inl rfl) | exact .inr (.inr rfl)))) (dg_name (i := 4) rfl S.nd rfl (by first | exact .inl rfl | exact .inr rfl) (by first | exact .inl rfl | exact .inr rfl))
 (dss_cons (ds_expr (dc (m := .f) (takes_of rfl rfl rfl rfl) (c_check_operation_of T) hr (by decide) rfl (by exact rfl) (da_cons (m := .f) (de_var (m := .f) (i := 1) rfl rfl (by first | exact .inl rfl | exact .inr (.inl rfl) | exact .inr (.inr rfl))) (da_cons (m := .f) (de_var (m := .f) (i := 4) rfl rfl (by first | exact .inl rfl | exact .inr (.inl rfl) | exact .inr (.inr rfl))) (da_nil (m := .f))))))
 (dss_cons (ds_append (i := 3) rfl rfl (by first | exact .inl rfl | exact .inr (.inl rfl) | exact .inr (.inr rfl)) (de_ix (m := .t) rfl rfl (de_var (m := .t) (i := 4) rfl rfl (by first | exact .inl rfl | exact .inr (.inl rfl) | exact .inr (.inr rfl))) (de_int (m := .t))))
 dss_nil)))
 (di_pre (ds_if (dt_cmp op_lt (o_cmp _) (de_once (m := .f) rfl (by exact rfl) T.n_len (by exact rfl) T.n_set (de_own (m := .f) (i := 3) rfl rfl rfl (by first | exact .inl rfl | exact .inr (.inl rfl) | exact .inr (.inr rfl)))) (de_callB (m := .f) call_len o_len rfl T.n_len (by decide +kernel) (by exact rfl) (dai_cons (m := .f) rfl (de_own (m := .f) (i := 3) rfl rfl rfl (by first | exact .inl rfl | exact .inr (.inl rfl) | exact .inr (.inr rfl))) (dai_nil (m := .f)))))
 (dss_cons (ds_raiseE rfl (takes_of rfl rfl rfl rfl) T.x_InvalidAlgebra (by exact rfl))
 dss_nil)
 dss_nil)
 (di_tail (tl_cons rfl rfl (by first | exact .inl rfl | exact .inr (.inl rfl) | exact .inr (.inr rfl)) (by decide) (de_var (m := .t) (i := 1) rfl rfl (by first | exact .inl rfl | exact .inr (.inl rfl) | exact .inr (.inr rfl))) (tl_last rfl rfl (by first | exact .inl rfl | exact .inr (.inl rfl) | exact .inr (.inr rfl)) (de_callTy (m := .t) call_tuple_of o_tuple rfl T.n_tuple (by decide +kernel) (by exact rfl) (dai_cons (m := .t) rfl (DF.de (m := .t) (df_lc rfl S.nd (DH.di (dh_seq (de_var (m := .t) (i := 2) rfl rfl (by first | exact .inl rfl | exact .inr (.inl rfl) | exact .inr (.inr rfl))))) (blkOk_by (own := [("name", 5), ("arity", 6), ("table", 7)]) (by kernel_rfl)) rfl rfl (fun _ _ _ _ _ => (dg_tup rfl (dgs_cons (dg_name (i := 5) rfl S.nd rfl (by first | exact .inl rfl | exact .inr rfl) (by first | exact .inl rfl | exact .inr rfl)) (dgs_cons (dg_name (i := 6) rfl S.nd rfl (by first | exact .inl rfl | exact .inr rfl) (by first | exact .inl rfl | exact .inr rfl)) (dgs_cons (dg_name (i := 7) rfl S.nd rfl (by first | exact .inl rfl | exact .inr rfl) (by first | exact .inl rfl | exact .inr rfl)) dgs_nil))))) (fun _ _ _ _ _ => dts_nil) (fun _ _ _ _ _ => (de_tup (m := .t) (da_cons (m := .t) (de_var (m := .t) (i := 5) rfl rfl (by first | exact .inl rfl | exact .inr (.inl rfl) | exact .inr (.inr rfl))) (da_cons (m := .t) (de_var (m := .t) (i := 6) rfl rfl (by first | exact .inl rfl | exact .inr (.inl rfl) | exact .inr (.inr rfl))) (da_cons (m := .t) (de_callTy (m := .t) call_tuple_of o_tuple rfl T.n_tuple (by decide +kernel) (by exact rfl) (dai_cons (m := .t) rfl (de_var (m := .t) (i := 7) rfl rfl (by first | exact .inl rfl | exact .inr (.inl rfl) | exact .inr (.inr rfl))) (dai_nil (m := .t)))) (da_nil (m := .t))))))))) (dai_nil (m := .t)))))))))))

theorem sc_Algebra_operation : FnScope ["self", "name", "operation"] ["self", "name"] (defScope s_Algebra_operation) := ⟨rfl, rfl, rfl, by decide +kernel, rfl, by decide +kernel, by decide +kernel⟩
theorem c_Algebra_operation (T : Tx K mg fl b) : CalM P w K mg base fl 2 "Algebra" "operation" 2 F_Algebra_operation := by
  have S := sc_Algebra_operation
  refine T.d_Algebra_operation.cal (k := 1) (ow := [false, false, false]) S rfl rfl (by rw [T.f_Algebra]; decide) fun f cdv A outer s H E hr => ?_
  exact (dss_cons (ds_for (passes_of rfl) rfl (dh_seq (de_fld (m := .t) (de_var (m := .t) (i := 0) rfl rfl (by first | exact .inl rfl | exact .inr (.inl rfl) | exact .inr (.inr rfl))) T.a_Algebra_operations T.f_Algebra)) (dg_name (i := 2) rfl S.nd rfl (by first | exact .inl rfl | exact .inr rfl) (by first | exact .inl rfl | exact .inr rfl))
 (dss_cons (ds_if (dt_cmp (op_eqD hr.units) o_eq (de_ix (m := .f) rfl rfl (de_var (m := .f) (i := 2) rfl rfl (by first | exact .inl rfl | exact .inr (.inl rfl) | exact .inr (.inr rfl))) (de_int (m := .f))) (de_var (m := .f) (i := 1) rfl rfl (by first | exact .inl rfl | exact .inr (.inl rfl) | exact .inr (.inr rfl))))
 (dss_cons (ds_ret (de_var (m := .f) (i := 2) rfl rfl (by first | exact .inl rfl | exact .inr (.inl rfl) | exact .inr (.inr rfl))))
 dss_nil)
 dss_nil)
 dss_nil))
 (dss_cons (ds_raiseE rfl (takes_of rfl rfl rfl rfl) T.x_UnknownName (by exact rfl))
 dss_nil))

theorem sc_Algebra_value : FnScope ["self", "name", "things", "_", "arity", "table"] ["self", "name", "things"] (defScope s_Algebra_value) := ⟨rfl, rfl, rfl, by decide +kernel, rfl, by decide +kernel, by decide +kernel⟩
theorem c_Algebra_value (T : Tx K mg fl b) : CalM P w K mg base fl 3 "Algebra" "value" 3 F_Algebra_value := by
  have S := sc_Algebra_value
  refine T.d_Algebra_value.cal (k := 2) (ow := [false, false, false, false, false, false]) S rfl rfl (by rw [T.f_Algebra]; decide) fun f cdv A outer s H E hr => ?_
  exact (dss_cons (ds_asg (dc_met (m := .t) (takes_of rfl rfl rfl rfl) (c_Algebra_operation T) hr (by decide) (de_var (m := .t) (i := 0) rfl rfl (by first | exact .inl rfl | exact .inr (.inl rfl) | exact .inr (.inr rfl))) (da_cons (m := .t) (de_var (m := .t) (i := 1) rfl rfl (by first | exact .inl rfl | exact .inr (.inl rfl) | exact .inr (.inr rfl))) (da_nil (m := .t)))) (dg_tup rfl (dgs_cons (dg_name (i := 3) rfl S.nd rfl (by first | exact .inl rfl | exact .inr rfl) (by first | exact .inl rfl | exact .inr rfl)) (dgs_cons (dg_name (i := 4) rfl S.nd rfl (by first | exact .inl rfl | exact .inr rfl) (by first | exact .inl rfl | exact .inr rfl)) (dgs_cons (dg_name (i := 5) rfl S.nd rfl (by first | exact .inl rfl | exact .inr rfl) (by first | exact .inl rfl | exact .inr rfl)) dgs_nil)))))
 (dss_cons (ds_if (DW.dt (dw_or (dt_cmp (op_neD hr.units) o_ne (de_callB (m := .f) call_len o_len rfl T.n_len (by decide +kernel) (by exact rfl) (dai_cons (m := .f) rfl (de_var (m := .f) (i := 2) rfl rfl (by first | exact .inl rfl | exact .inr (.inl rfl) | exact .inr (.inr rfl))) (dai_nil (m := .f)))) (de_var (m := .f) (i := 4) rfl rfl (by first | exact .inl rfl | exact .inr (.inl rfl) | exact .inr (.inr rfl)))) (dw_or1 (dt_not (dt_val (dc (m := .f) (takes_of rfl rfl rfl rfl) (c_are_things T) hr (by decide) rfl (by exact rfl) (da_cons (m := .f) (de_fld (m := .f) (de_var (m := .f) (i := 0) rfl rfl (by first | exact .inl rfl | exact .inr (.inl rfl) | exact .inr (.inr rfl))) T.a_Algebra_n T.f_Algebra) (da_cons (m := .f) (de_var (m := .f) (i := 2) rfl rfl (by first | exact .inl rfl | exact .inr (.inl rfl) | exact .inr (.inr rfl))) (da_nil (m := .f))))))))))
 (dss_cons (ds_raiseE rfl (takes_of rfl rfl rfl rfl) T.x_InvalidThings (by exact rfl))
 dss_nil)
 dss_nil)
 (dss_cons (ds_ret (de_ix (m := .f) rfl rfl (de_var (m := .f) (i := 5) rfl rfl (by first | exact .inl rfl | exact .inr (.inl rfl) | exact .inr (.inr rfl))) (dc (m := .f) (takes_of rfl rfl rfl rfl) (c_index_of T) hr (by decide) rfl (by exact rfl) (da_cons (m := .f) (de_fld (m := .f) (de_var (m := .f) (i := 0) rfl rfl (by first | exact .inl rfl | exact .inr (.inl rfl) | exact .inr (.inr rfl))) T.a_Algebra_n T.f_Algebra) (da_cons (m := .f) (de_var (m := .f) (i := 2) rfl rfl (by first | exact .inl rfl | exact .inr (.inl rfl) | exact .inr (.inr rfl))) (da_nil (m := .f)))))))
 dss_nil)))

theorem sc_least_of : FnScope ["classes", "thing"] ["classes", "thing"] (defScope s_least_of) := ⟨rfl, rfl, rfl, by decide +kernel, rfl, by decide +kernel, by decide +kernel⟩
theorem c_least_of (T : Tx K mg fl b) : Cal P w K mg base fl 2 "least_of" 2 F_least_of := by
  have S := sc_least_of
  refine T.d_least_of.cal (k := 1) (ow := [false, false]) S rfl rfl fun f cdv A outer s H E hr => ?_
  exact (dss_cons (ds_while fuel (passes_of rfl) (dt_cmp (op_neD hr.units) o_ne (de_ix (m := .f) rfl rfl (de_var (m := .f) (i := 0) rfl rfl (by first | exact .inl rfl | exact .inr (.inl rfl) | exact .inr (.inr rfl))) (de_var (m := .f) (i := 1) rfl rfl (by first | exact .inl rfl | exact .inr (.inl rfl) | exact .inr (.inr rfl)))) (de_var (m := .f) (i := 1) rfl rfl (by first | exact .inl rfl | exact .inr (.inl rfl) | exact .inr (.inr rfl))))
 (dss_cons (ds_set (i := 1) rfl S.nd rfl (by first | exact .inl rfl | exact .inr rfl) (de_ix (m := .t) rfl rfl (de_var (m := .t) (i := 0) rfl rfl (by first | exact .inl rfl | exact .inr (.inl rfl) | exact .inr (.inr rfl))) (de_var (m := .t) (i := 1) rfl rfl (by first | exact .inl rfl | exact .inr (.inl rfl) | exact .inr (.inr rfl)))))
 dss_nil))
 (dss_cons (ds_ret (de_var (m := .f) (i := 1) rfl rfl (by first | exact .inl rfl | exact .inr (.inl rfl) | exact .inr (.inr rfl))))
 dss_nil))

theorem sc_normal : FnScope ["classes", "thing"] ["classes"] (defScope s_normal) := ⟨rfl, rfl, rfl, by decide +kernel, rfl, by decide +kernel, by decide +kernel⟩
theorem c_normal (T : Tx K mg fl b) : Cal P w K mg base fl 3 "normal" 1 F_normal := by
  have S := sc_normal
  refine T.d_normal.cal (k := 2) (ow := [false, false]) S rfl rfl fun f cdv A outer s H E hr => ?_
  exact (dss_cons (ds_ret (de_callTy (m := .f) call_tuple_of o_tuple rfl T.n_tuple (by decide +kernel) (by exact rfl) (dai_cons (m := .f) rfl (DF.de (m := .f) (df_lc rfl S.nd (DH.di (dh_rg1 T.n_range (by exact rfl) (de_callB (m := .f) call_len o_len rfl T.n_len (by decide +kernel) (by exact rfl) (dai_cons (m := .f) rfl (de_var (m := .f) (i := 0) rfl rfl (by first | exact .inl rfl | exact .inr (.inl rfl) | exact .inr (.inr rfl))) (dai_nil (m := .f)))))) (blkOk_by (own := [("thing", 1)]) (by kernel_rfl)) rfl rfl (fun _ _ _ _ _ => (dg_name (i := 1) rfl S.nd rfl (by first | exact .inl rfl | exact .inr rfl) (by first | exact .inl rfl | exact .inr rfl))) (fun _ _ _ _ _ => dts_nil) (fun _ _ _ _ _ => (dc (m := .t) takes0 (c_least_of T) hr (by decide) rfl (by exact rfl) (da_cons (m := .t) (de_var (m := .t) (i := 0) rfl rfl (by first | exact .inl rfl | exact .inr (.inl rfl) | exact .inr (.inr rfl))) (da_cons (m := .t) (de_var (m := .t) (i := 1) rfl rfl (by first | exact .inl rfl | exact .inr (.inl rfl) | exact .inr (.inr rfl))) (da_nil (m := .t)))))))) (dai_nil (m := .f)))))
 dss_nil)

theorem sc_moves : FnScope ["algebra", "found", "name", "arity", "_", "place", "other"] ["algebra"] (defScope s_moves) := ⟨rfl, rfl, rfl, by decide +kernel, rfl, by decide +kernel, by decide +kernel⟩
theorem c_moves (T : Tx K mg fl b) : Cal P w K mg base fl 2 "moves" 1 F_moves := by
  have S := sc_moves
  refine T.d_moves.cal (k := 1) (ow := [false, true, false, false, false, false, false]) S rfl rfl fun f cdv A outer s H E hr => ?_
  exact (dss_cons (ds_setO (i := 1) rfl S.nd rfl (by first | exact .inl rfl | exact .inr rfl) (df_lst (da_nil (m := .t))))
 (dss_cons (ds_for (passes_of rfl) rfl (dh_seq (de_fld (m := .t) (de_var (m := .t) (i := 0) rfl rfl (by first | exact .inl rfl | exact .inr (.inl rfl) | exact .inr (.inr rfl))) T.a_Algebra_operations T.f_Algebra)) (dg_tup rfl (dgs_cons (dg_name (i := 2) rfl S.nd rfl (by first | exact .inl rfl | exact .inr rfl) (by first | exact .inl rfl | exact .inr rfl)) (dgs_cons (dg_name (i := 3) rfl S.nd rfl (by first | exact .inl rfl | exact .inr rfl) (by first | exact .inl rfl | exact .inr rfl)) (dgs_cons (dg_name (i := 4) rfl S.nd rfl (by first | exact .inl rfl | exact .inr rfl) (by first | exact .inl rfl | exact .inr rfl)) dgs_nil))))
 (dss_cons (ds_if (dt_cmp (op_eqD hr.units) o_eq (de_var (m := .f) (i := 3) rfl rfl (by first | exact .inl rfl | exact .inr (.inl rfl) | exact .inr (.inr rfl))) (de_int (m := .f)))
 (dss_cons (ds_append (i := 1) rfl rfl (by first | exact .inl rfl | exact .inr (.inl rfl) | exact .inr (.inr rfl)) (de_tup (m := .t) (da_cons (m := .t) (de_var (m := .t) (i := 2) rfl rfl (by first | exact .inl rfl | exact .inr (.inl rfl) | exact .inr (.inr rfl))) (da_cons (m := .t) (de_int (m := .t)) (da_cons (m := .t) (de_tup (m := .t) (da_nil (m := .t))) (da_nil (m := .t)))))))
 dss_nil)
 (dss_cons (ds_if (dt_cmp (op_eqD hr.units) o_eq (de_var (m := .f) (i := 3) rfl rfl (by first | exact .inl rfl | exact .inr (.inl rfl) | exact .inr (.inr rfl))) (de_int (m := .f)))
 (dss_cons (ds_extend (i := 1) rfl rfl (by first | exact .inl rfl | exact .inr (.inl rfl) | exact .inr (.inr rfl)) (df_lc2 rfl S.nd (DH.di (dh_rg1 T.n_range (by exact rfl) (de_int (m := .f)))) (blkOk_by (own := [("place", 5), ("other", 6)]) (by kernel_rfl)) (vs1 := [6]) (by decide) rfl rfl rfl (fun _ _ _ _ _ => (dg_name (i := 5) rfl S.nd rfl (by first | exact .inl rfl | exact .inr rfl) (by first | exact .inl rfl | exact .inr rfl))) (fun _ _ _ _ _ => dts_nil) (fun _ _ _ _ _ => (DH.di (dh_rg1 T.n_range (by exact rfl) (de_fld (m := .f) (de_var (m := .f) (i := 0) rfl rfl (by first | exact .inl rfl | exact .inr (.inl rfl) | exact .inr (.inr rfl))) T.a_Algebra_n T.f_Algebra)))) (fun _ _ _ _ _ => (dg_name (i := 6) rfl S.nd rfl (by first | exact .inl rfl | exact .inr rfl) (by first | exact .inl rfl | exact .inr rfl))) (fun _ _ _ _ _ => dts_nil) (fun _ _ _ _ _ => (de_tup (m := .t) (da_cons (m := .t) (de_var (m := .t) (i := 2) rfl rfl (by first | exact .inl rfl | exact .inr (.inl rfl) | exact .inr (.inr rfl))) (da_cons (m := .t) (de_var (m := .t) (i := 5) rfl rfl (by first | exact .inl rfl | exact .inr (.inl rfl) | exact .inr (.inr rfl))) (da_cons (m := .t) (de_tup (m := .t) (da_cons (m := .t) (de_var (m := .t) (i := 6) rfl rfl (by first | exact .inl rfl | exact .inr (.inl rfl) | exact .inr (.inr rfl))) (da_nil (m := .t)))) (da_nil (m := .t)))))))))
 dss_nil)
 dss_nil)
 dss_nil))
 dss_nil))
 (dss_cons (ds_ret (de_own (m := .f) (i := 1) rfl rfl rfl (by first | exact .inl rfl | exact .inr (.inl rfl) | exact .inr (.inr rfl))))
 dss_nil)))

theorem sc_moved : FnScope ["algebra", "move", "thing", "name", "place", "others"] ["algebra", "move", "thing"] (defScope s_moved) := ⟨rfl, rfl, rfl, by decide +kernel, rfl, by decide +kernel, by decide +kernel⟩
theorem c_moved (T : Tx K mg fl b) : Cal P w K mg base fl 4 "moved" 3 F_moved := by
  have S := sc_moved
  refine T.d_moved.cal (k := 3) (ow := [false, false, false, false, false, false]) S rfl rfl fun f cdv A outer s H E hr => ?_
  exact (dss_cons (ds_asg (de_var (m := .t) (i := 1) rfl rfl (by first | exact .inl rfl | exact .inr (.inl rfl) | exact .inr (.inr rfl))) (dg_tup rfl (dgs_cons (dg_name (i := 3) rfl S.nd rfl (by first | exact .inl rfl | exact .inr rfl) (by first | exact .inl rfl | exact .inr rfl)) (dgs_cons (dg_name (i := 4) rfl S.nd rfl (by first | exact .inl rfl | exact .inr rfl) (by first | exact .inl rfl | exact .inr rfl)) (dgs_cons (dg_name (i := 5) rfl S.nd rfl (by first | exact .inl rfl | exact .inr rfl) (by first | exact .inl rfl | exact .inr rfl)) dgs_nil)))))
 (dss_cons (ds_ret (dc_met (m := .f) (takes_of rfl rfl rfl rfl) (c_Algebra_value T) hr (by decide) (de_var (m := .f) (i := 0) rfl rfl (by first | exact .inl rfl | exact .inr (.inl rfl) | exact .inr (.inr rfl))) (da_cons (m := .f) (de_var (m := .f) (i := 3) rfl rfl (by first | exact .inl rfl | exact .inr (.inl rfl) | exact .inr (.inr rfl))) (da_cons (m := .f) (de_bin (m := .f) op_addG o_add rfl rfl (de_bin (m := .f) op_addG o_add rfl rfl (de_slice (m := .f) rfl (de_var (m := .f) (i := 5) rfl rfl (by first | exact .inl rfl | exact .inr (.inl rfl) | exact .inr (.inr rfl))) dp_none (dp_some (de_var (m := .f) (i := 4) rfl rfl (by first | exact .inl rfl | exact .inr (.inl rfl) | exact .inr (.inr rfl))))) (de_tup (m := .f) (da_cons (m := .f) (de_var (m := .f) (i := 2) rfl rfl (by first | exact .inl rfl | exact .inr (.inl rfl) | exact .inr (.inr rfl))) (da_nil (m := .f))))) (de_slice (m := .f) rfl (de_var (m := .f) (i := 5) rfl rfl (by first | exact .inl rfl | exact .inr (.inl rfl) | exact .inr (.inr rfl))) (dp_some (de_var (m := .f) (i := 4) rfl rfl (by first | exact .inl rfl | exact .inr (.inl rfl) | exact .inr (.inr rfl)))) dp_none)) (da_nil (m := .f))))))
 dss_nil))

theorem sc_move_rows : FnScope ["algebra", "found", "move", "thing"] ["algebra"] (defScope s_move_rows) := ⟨rfl, rfl, rfl, by decide +kernel, rfl, by decide +kernel, by decide +kernel⟩
theorem c_move_rows (T : Tx K mg fl b) : Cal P w K mg base fl 5 "move_rows" 1 F_move_rows := by
  have S := sc_move_rows
  refine T.d_move_rows.cal (k := 4) (ow := [false, true, false, false]) S rfl rfl fun f cdv A outer s H E hr => ?_
  exact (dss_cons (ds_setO (i := 1) rfl S.nd rfl (by first | exact .inl rfl | exact .inr rfl) (df_lst (da_nil (m := .t))))
 (dss_cons (ds_for (passes_of rfl) rfl (dh_seq (dc (m := .t) (takes_of rfl rfl rfl rfl) (c_moves T) hr (by decide) rfl (by exact rfl) (da_cons (m := .t) (de_var (m := .t) (i := 0) rfl rfl (by first | exact .inl rfl | exact .inr (.inl rfl) | exact .inr (.inr rfl))) (da_nil (m := .t))))) (dg_name (i := 2) rfl S.nd rfl (by first | exact .inl rfl | exact .inr rfl) (by first | exact .inl rfl | exact .inr rfl))
 (dss_cons (ds_append (i := 1) rfl rfl (by first | exact .inl rfl | exact .inr (.inl rfl) | exact .inr (.inr rfl)) (de_tup (m := .t) (da_cons (m := .t) (de_var (m := .t) (i := 2) rfl rfl (by first | exact .inl rfl | exact .inr (.inl rfl) | exact .inr (.inr rfl))) (da_cons (m := .t) (de_callTy (m := .t) call_tuple_of o_tuple rfl T.n_tuple (by decide +kernel) (by exact rfl) (dai_cons (m := .t) rfl (DF.de (m := .t) (df_lc rfl S.nd (DH.di (dh_rg1 T.n_range (by exact rfl) (de_fld (m := .f) (de_var (m := .f) (i := 0) rfl rfl (by first | exact .inl rfl | exact .inr (.inl rfl) | exact .inr (.inr rfl))) T.a_Algebra_n T.f_Algebra))) (blkOk_by (own := [("thing", 3)]) (by kernel_rfl)) rfl rfl (fun _ _ _ _ _ => (dg_name (i := 3) rfl S.nd rfl (by first | exact .inl rfl | exact .inr rfl) (by first | exact .inl rfl | exact .inr rfl))) (fun _ _ _ _ _ => dts_nil) (fun _ _ _ _ _ => (dc (m := .t) takes0 (c_moved T) hr (by decide) rfl (by exact rfl) (da_cons (m := .t) (de_var (m := .t) (i := 0) rfl rfl (by first | exact .inl rfl | exact .inr (.inl rfl) | exact .inr (.inr rfl))) (da_cons (m := .t) (de_var (m := .t) (i := 2) rfl rfl (by first | exact .inl rfl | exact .inr (.inl rfl) | exact .inr (.inr rfl))) (da_cons (m := .t) (de_var (m := .t) (i := 3) rfl rfl (by first | exact .inl rfl | exact .inr (.inl rfl) | exact .inr (.inr rfl))) (da_nil (m := .t))))))))) (dai_nil (m := .t)))) (da_nil (m := .t))))))
 dss_nil))
 (dss_cons (ds_ret (de_own (m := .f) (i := 1) rfl rfl rfl (by first | exact .inl rfl | exact .inr (.inl rfl) | exact .inr (.inr rfl))))
 dss_nil)))

theorem sc_closed_under : FnScope ["algebra", "pairs", "classes", "rows", "waiting", "at", "one", "other", "_", "row"] ["algebra", "pairs"] (defScope s_closed_under) := ⟨rfl, rfl, rfl, by decide +kernel, rfl, by decide +kernel, by decide +kernel⟩
theorem c_closed_under (T : Tx K mg fl b) : Cal P w K mg base fl 6 "closed_under" 2 F_closed_under := by
  have S := sc_closed_under
  refine T.d_closed_under.cal (k := 5) (ow := [false, false, true, false, true, false, false, false, false, false]) S rfl rfl fun f cdv A outer s H E hr => ?_
  exact (dss_cons (ds_setO (i := 2) rfl S.nd rfl (by first | exact .inl rfl | exact .inr rfl) (df_listRg rfl T.n_list (by exact rfl) (drg_1 T.n_range (by exact rfl) (de_fld (m := .f) (de_var (m := .f) (i := 0) rfl rfl (by first | exact .inl rfl | exact .inr (.inl rfl) | exact .inr (.inr rfl))) T.a_Algebra_n T.f_Algebra))))
 (dss_cons (ds_setLc (i := 3) rfl S.nd rfl rfl (sw_true rfl rfl rfl (by decide +kernel)) (DH.di (dh_seq (dc (m := .t) (takes_of rfl rfl rfl rfl) (c_move_rows T) hr (by decide) rfl (by exact rfl) (da_cons (m := .t) (de_var (m := .t) (i := 0) rfl rfl (by first | exact .inl rfl | exact .inr (.inl rfl) | exact .inr (.inr rfl))) (da_nil (m := .t)))))) (blkOk_by (own := [("_", 8), ("row", 9)]) (by kernel_rfl)) rfl rfl (fun _ _ _ _ _ => (dg_tup rfl (dgs_cons (dg_name (i := 8) rfl S.nd rfl (by first | exact .inl rfl | exact .inr rfl) (by first | exact .inl rfl | exact .inr rfl)) (dgs_cons (dg_name (i := 9) rfl S.nd rfl (by first | exact .inl rfl | exact .inr rfl) (by first | exact .inl rfl | exact .inr rfl)) dgs_nil)))) (fun _ _ _ _ _ => dts_nil) (fun _ _ _ _ _ => (de_var (m := .t) (i := 9) rfl rfl (by first | exact .inl rfl | exact .inr (.inl rfl) | exact .inr (.inr rfl)))))
 (dss_cons (ds_setO (i := 4) rfl S.nd rfl (by first | exact .inl rfl | exact .inr rfl) (df_callTy call_list_of o_listF T.n_list (by decide +kernel) (by exact rfl) (dai_cons (m := .t) rfl (de_var (m := .t) (i := 1) rfl rfl (by first | exact .inl rfl | exact .inr (.inl rfl) | exact .inr (.inr rfl))) (dai_nil (m := .t)))))
 (dss_cons (ds_set (i := 5) rfl S.nd rfl (by first | exact .inl rfl | exact .inr rfl) (de_int (m := .t)))
 (dss_cons (ds_while fuel (passes_of rfl) (dt_cmp op_lt (o_cmp _) (de_var (m := .f) (i := 5) rfl rfl (by first | exact .inl rfl | exact .inr (.inl rfl) | exact .inr (.inr rfl))) (de_callB (m := .f) call_len o_len rfl T.n_len (by decide +kernel) (by exact rfl) (dai_cons (m := .f) rfl (de_own (m := .f) (i := 4) rfl rfl rfl (by first | exact .inl rfl | exact .inr (.inl rfl) | exact .inr (.inr rfl))) (dai_nil (m := .f)))))
 (dss_cons (ds_set (i := 6) rfl S.nd rfl (by first | exact .inl rfl | exact .inr rfl) (DE.im (m := .t) (dc (m := .f) (takes_of rfl rfl rfl rfl) (c_least_of T) hr (by decide) rfl (by exact rfl) (da_cons (m := .f) (de_own (m := .f) (i := 2) rfl rfl rfl (by first | exact .inl rfl | exact .inr (.inl rfl) | exact .inr (.inr rfl))) (da_cons (m := .f) (de_ix (m := .f) rfl rfl (de_ix (m := .f) rfl rfl (de_own (m := .f) (i := 4) rfl rfl rfl (by first | exact .inl rfl | exact .inr (.inl rfl) | exact .inr (.inr rfl))) (de_var (m := .f) (i := 5) rfl rfl (by first | exact .inl rfl | exact .inr (.inl rfl) | exact .inr (.inr rfl)))) (de_int (m := .f))) (da_nil (m := .f)))))))
 (dss_cons (ds_set (i := 7) rfl S.nd rfl (by first | exact .inl rfl | exact .inr rfl) (DE.im (m := .t) (dc (m := .f) (takes_of rfl rfl rfl rfl) (c_least_of T) hr (by decide) rfl (by exact rfl) (da_cons (m := .f) (de_own (m := .f) (i := 2) rfl rfl rfl (by first | exact .inl rfl | exact .inr (.inl rfl) | exact .inr (.inr rfl))) (da_cons (m := .f) (de_ix (m := .f) rfl rfl (de_ix (m := .f) rfl rfl (de_own (m := .f) (i := 4) rfl rfl rfl (by first | exact .inl rfl | exact .inr (.inl rfl) | exact .inr (.inr rfl))) (de_var (m := .f) (i := 5) rfl rfl (by first | exact .inl rfl | exact .inr (.inl rfl) | exact .inr (.inr rfl)))) (de_int (m := .f))) (da_nil (m := .f)))))))
 (dss_cons (ds_aug (i := 5) rfl S.nd rfl (by first | exact .inl rfl | exact .inr rfl) iop_add (o_addI) (de_int (m := .f)))
 (dss_cons (ds_if (dt_cmp (op_neD hr.units) o_ne (de_var (m := .f) (i := 6) rfl rfl (by first | exact .inl rfl | exact .inr (.inl rfl) | exact .inr (.inr rfl))) (de_var (m := .f) (i := 7) rfl rfl (by first | exact .inl rfl | exact .inr (.inl rfl) | exact .inr (.inr rfl))))
 (dss_cons (ds_setitem (i := 2) rfl rfl (by first | exact .inl rfl | exact .inr (.inl rfl) | exact .inr (.inr rfl)) (de_callB (m := .t) (call_min2 rfl) o_min2 rfl T.n_min (by decide +kernel) (by exact rfl) (dai_cons (m := .f) rfl (de_var (m := .f) (i := 6) rfl rfl (by first | exact .inl rfl | exact .inr (.inl rfl) | exact .inr (.inr rfl))) (dai_cons (m := .f) rfl (de_var (m := .f) (i := 7) rfl rfl (by first | exact .inl rfl | exact .inr (.inl rfl) | exact .inr (.inr rfl))) (dai_nil (m := .f))))) (de_callB (m := .f) (call_max2 rfl) o_max2 rfl T.n_max (by decide +kernel) (by exact rfl) (dai_cons (m := .f) rfl (de_var (m := .f) (i := 6) rfl rfl (by first | exact .inl rfl | exact .inr (.inl rfl) | exact .inr (.inr rfl))) (dai_cons (m := .f) rfl (de_var (m := .f) (i := 7) rfl rfl (by first | exact .inl rfl | exact .inr (.inl rfl) | exact .inr (.inr rfl))) (dai_nil (m := .f))))))
 (dss_cons (ds_extend (i := 4) rfl rfl (by first | exact .inl rfl | exact .inr (.inl rfl) | exact .inr (.inr rfl)) (df_lc rfl S.nd (DH.di (dh_seq (de_var (m := .t) (i := 3) rfl rfl (by first | exact .inl rfl | exact .inr (.inl rfl) | exact .inr (.inr rfl))))) (blkOk_by (own := [("row", 9)]) (by kernel_rfl)) rfl rfl (fun _ _ _ _ _ => (dg_name (i := 9) rfl S.nd rfl (by first | exact .inl rfl | exact .inr rfl) (by first | exact .inl rfl | exact .inr rfl))) (fun _ _ _ _ _ => dts_nil) (fun _ _ _ _ _ => (de_tup (m := .t) (da_cons (m := .t) (de_ix (m := .t) rfl rfl (de_var (m := .t) (i := 9) rfl rfl (by first | exact .inl rfl | exact .inr (.inl rfl) | exact .inr (.inr rfl))) (de_var (m := .t) (i := 6) rfl rfl (by first | exact .inl rfl | exact .inr (.inl rfl) | exact .inr (.inr rfl)))) (da_cons (m := .t) (de_ix (m := .t) rfl rfl (de_var (m := .t) (i := 9) rfl rfl (by first | exact .inl rfl | exact .inr (.inl rfl) | exact .inr (.inr rfl))) (de_var (m := .t) (i := 7) rfl rfl (by first | exact .inl rfl | exact .inr (.inl rfl) | exact .inr (.inr rfl)))) (da_nil (m := .t))))))))
 dss_nil))
 dss_nil)
 dss_nil)))))
 (dss_cons (ds_ret (dc (m := .f) (takes_of rfl rfl rfl rfl) (c_normal T) hr (by decide) rfl (by exact rfl) (da_cons (m := .f) (de_own (m := .f) (i := 2) rfl rfl rfl (by first | exact .inl rfl | exact .inr (.inl rfl) | exact .inr (.inr rfl))) (da_nil (m := .f)))))
 dss_nil))))))

theorem sc_is_equivalence : FnScope ["n", "joining", "thing"] ["n", "joining"] (defScope s_is_equivalence) := ⟨rfl, rfl, rfl, by decide +kernel, rfl, by decide +kernel, by decide +kernel⟩
theorem c_is_equivalence (T : Tx K mg fl b) : Cal P w K mg base fl 2 "is_equivalence" 2 F_is_equivalence := by
  have S := sc_is_equivalence
  refine T.d_is_equivalence.cal (k := 1) (ow := [false, false, false]) S rfl rfl fun f cdv A outer s H E hr => ?_
  exact (dss_cons (ds_if (DW.dt (dw_or (dt_cmp (op_neD hr.units) o_ne (de_callB (m := .f) call_len o_len rfl T.n_len (by decide +kernel) (by exact rfl) (dai_cons (m := .f) rfl (de_var (m := .f) (i := 1) rfl rfl (by first | exact .inl rfl | exact .inr (.inl rfl) | exact .inr (.inr rfl))) (dai_nil (m := .f)))) (de_var (m := .f) (i := 0) rfl rfl (by first | exact .inl rfl | exact .inr (.inl rfl) | exact .inr (.inr rfl)))) (dw_or1 (dt_not (dt_val (de_callB (m := .f) (cr_all rfl) o_all rfl T.n_all (by decide +kernel) (by exact rfl) (dai_cons (m := .f) rfl (DF.de (m := .f) (df_lc rfl S.nd (DH.di (dh_rg1 T.n_range (by exact rfl) (de_var (m := .f) (i := 0) rfl rfl (by first | exact .inl rfl | exact .inr (.inl rfl) | exact .inr (.inr rfl))))) (blkOk_by (own := [("thing", 2)]) (by kernel_rfl)) rfl rfl (fun _ _ _ _ _ => (dg_name (i := 2) rfl S.nd rfl (by first | exact .inl rfl | exact .inr rfl) (by first | exact .inl rfl | exact .inr rfl))) (fun _ _ _ _ _ => dts_nil) (fun _ _ _ _ _ => (de_chain (m := .t) op_le op_le (o_cmp _) (o_cmp _) (de_int (m := .f)) (de_ix (m := .f) rfl rfl (de_var (m := .f) (i := 1) rfl rfl (by first | exact .inl rfl | exact .inr (.inl rfl) | exact .inr (.inr rfl))) (de_var (m := .f) (i := 2) rfl rfl (by first | exact .inl rfl | exact .inr (.inl rfl) | exact .inr (.inr rfl)))) (de_var (m := .f) (i := 2) rfl rfl (by first | exact .inl rfl | exact .inr (.inl rfl) | exact .inr (.inr rfl))))))) (dai_nil (m := .f)))))))))
 (dss_cons (ds_ret (de_bl (m := .f)))
 dss_nil)
 dss_nil)
 (dss_cons (ds_ret (de_callB (m := .f) (cr_all rfl) o_all rfl T.n_all (by decide +kernel) (by exact rfl) (dai_cons (m := .f) rfl (DF.de (m := .f) (df_lc rfl S.nd (DH.di (dh_rg1 T.n_range (by exact rfl) (de_var (m := .f) (i := 0) rfl rfl (by first | exact .inl rfl | exact .inr (.inl rfl) | exact .inr (.inr rfl))))) (blkOk_by (own := [("thing", 2)]) (by kernel_rfl)) rfl rfl (fun _ _ _ _ _ => (dg_name (i := 2) rfl S.nd rfl (by first | exact .inl rfl | exact .inr rfl) (by first | exact .inl rfl | exact .inr rfl))) (fun _ _ _ _ _ => dts_nil) (fun _ _ _ _ _ => (de_cmp (m := .t) (op_eqD hr.units) o_eq (de_ix (m := .f) rfl rfl (de_var (m := .f) (i := 1) rfl rfl (by first | exact .inl rfl | exact .inr (.inl rfl) | exact .inr (.inr rfl))) (de_ix (m := .f) rfl rfl (de_var (m := .f) (i := 1) rfl rfl (by first | exact .inl rfl | exact .inr (.inl rfl) | exact .inr (.inr rfl))) (de_var (m := .f) (i := 2) rfl rfl (by first | exact .inl rfl | exact .inr (.inl rfl) | exact .inr (.inr rfl))))) (de_ix (m := .f) rfl rfl (de_var (m := .f) (i := 1) rfl rfl (by first | exact .inl rfl | exact .inr (.inl rfl) | exact .inr (.inr rfl))) (de_var (m := .f) (i := 2) rfl rfl (by first | exact .inl rfl | exact .inr (.inl rfl) | exact .inr (.inr rfl)))))))) (dai_nil (m := .f)))))
 dss_nil))

theorem sc_check_joining : FnScope ["algebra", "joining", "pairs", "thing"] ["algebra", "joining"] (defScope s_check_joining) := ⟨rfl, rfl, rfl, by decide +kernel, rfl, by decide +kernel, by decide +kernel⟩
theorem c_check_joining (T : Tx K mg fl b) : Cal P w K mg base fl 7 "check_joining" 2 F_check_joining := by
  have S := sc_check_joining
  refine T.d_check_joining.cal (k := 6) (ow := [false, false, false, false]) S rfl rfl fun f cdv A outer s H E hr => ?_
  exact (dss_cons (ds_if (dt_not (dt_val (dc (m := .f) (takes_of rfl rfl rfl rfl) (c_is_equivalence T) hr (by decide) rfl (by exact rfl) (da_cons (m := .f) (de_fld (m := .f) (de_var (m := .f) (i := 0) rfl rfl (by first | exact .inl rfl | exact .inr (.inl rfl) | exact .inr (.inr rfl))) T.a_Algebra_n T.f_Algebra) (da_cons (m := .f) (de_var (m := .f) (i := 1) rfl rfl (by first | exact .inl rfl | exact .inr (.inl rfl) | exact .inr (.inr rfl))) (da_nil (m := .f)))))))
 (dss_cons (ds_raiseE rfl (takes_of rfl rfl rfl rfl) T.x_InvalidJoining (by exact rfl))
 dss_nil)
 dss_nil)
 (dss_cons (ds_setLc (i := 2) rfl S.nd rfl rfl (sw_true rfl rfl rfl (by decide +kernel)) (DH.di (dh_rg1 T.n_range (by exact rfl) (de_fld (m := .f) (de_var (m := .f) (i := 0) rfl rfl (by first | exact .inl rfl | exact .inr (.inl rfl) | exact .inr (.inr rfl))) T.a_Algebra_n T.f_Algebra))) (blkOk_by (own := [("thing", 3)]) (by kernel_rfl)) rfl rfl (fun _ _ _ _ _ => (dg_name (i := 3) rfl S.nd rfl (by first | exact .inl rfl | exact .inr rfl) (by first | exact .inl rfl | exact .inr rfl))) (fun _ _ _ _ _ => dts_nil) (fun _ _ _ _ _ => (de_tup (m := .t) (da_cons (m := .t) (de_ix (m := .t) rfl rfl (de_var (m := .t) (i := 1) rfl rfl (by first | exact .inl rfl | exact .inr (.inl rfl) | exact .inr (.inr rfl))) (de_var (m := .t) (i := 3) rfl rfl (by first | exact .inl rfl | exact .inr (.inl rfl) | exact .inr (.inr rfl)))) (da_cons (m := .t) (de_var (m := .t) (i := 3) rfl rfl (by first | exact .inl rfl | exact .inr (.inl rfl) | exact .inr (.inr rfl))) (da_nil (m := .t)))))))
 (dss_cons (ds_if (dt_cmp (op_neD hr.units) o_ne (dc (m := .f) (takes_of rfl rfl rfl rfl) (c_closed_under T) hr (by decide) rfl (by exact rfl) (da_cons (m := .f) (de_var (m := .f) (i := 0) rfl rfl (by first | exact .inl rfl | exact .inr (.inl rfl) | exact .inr (.inr rfl))) (da_cons (m := .f) (de_var (m := .f) (i := 2) rfl rfl (by first | exact .inl rfl | exact .inr (.inl rfl) | exact .inr (.inr rfl))) (da_nil (m := .f))))) (de_callTy (m := .f) call_tuple_of o_tuple rfl T.n_tuple (by decide +kernel) (by exact rfl) (dai_cons (m := .f) rfl (de_var (m := .f) (i := 1) rfl rfl (by first | exact .inl rfl | exact .inr (.inl rfl) | exact .inr (.inr rfl))) (dai_nil (m := .f)))))
 (dss_cons (ds_raiseE rfl (takes_of rfl rfl rfl rfl) T.x_InvalidJoining (by exact rfl))
 dss_nil)
 dss_nil)
 (dss_cons (ds_ret (de_var (m := .f) (i := 1) rfl rfl (by first | exact .inl rfl | exact .inr (.inl rfl) | exact .inr (.inr rfl))))
 dss_nil))))

theorem sc_are_exchanged : FnScope ["one", "other", "n", "ways", "a", "b", "c"] ["one", "other"] (defScope s_are_exchanged) := ⟨rfl, rfl, rfl, by decide +kernel, rfl, by decide +kernel, by decide +kernel⟩
theorem c_are_exchanged (T : Tx K mg fl b) : Cal P w K mg base fl 3 "are_exchanged" 2 F_are_exchanged := by
  have S := sc_are_exchanged
  refine T.d_are_exchanged.cal (k := 2) (ow := [false, false, false, true, false, false, false]) S rfl rfl fun f cdv A outer s H E hr => ?_
  exact (dss_cons (ds_set (i := 2) rfl S.nd rfl (by first | exact .inl rfl | exact .inr rfl) (de_callB (m := .t) call_len o_len rfl T.n_len (by decide +kernel) (by exact rfl) (dai_cons (m := .f) rfl (de_var (m := .f) (i := 0) rfl rfl (by first | exact .inl rfl | exact .inr (.inl rfl) | exact .inr (.inr rfl))) (dai_nil (m := .f)))))
 (dss_cons (ds_setO (i := 3) rfl S.nd rfl (by first | exact .inl rfl | exact .inr rfl) (df_dnew))
 (dss_cons (ds_for (passes_of rfl) rfl (dh_seq (dc (m := .t) (takes_of rfl rfl rfl rfl) (c_tuples T) hr (by decide) rfl (by exact rfl) (da_cons (m := .t) (de_var (m := .t) (i := 2) rfl rfl (by first | exact .inl rfl | exact .inr (.inl rfl) | exact .inr (.inr rfl))) (da_cons (m := .t) (de_int (m := .t)) (da_nil (m := .t)))))) (dg_tup rfl (dgs_cons (dg_name (i := 4) rfl S.nd rfl (by first | exact .inl rfl | exact .inr rfl) (by first | exact .inl rfl | exact .inr rfl)) (dgs_cons (dg_name (i := 5) rfl S.nd rfl (by first | exact .inl rfl | exact .inr rfl) (by first | exact .inl rfl | exact .inr rfl)) (dgs_cons (dg_name (i := 6) rfl S.nd rfl (by first | exact .inl rfl | exact .inr rfl) (by first | exact .inl rfl | exact .inr rfl)) dgs_nil))))
 (dss_cons (ds_if (DW.dt (dw_and (dt_cmp (op_eqD hr.units) o_eq (de_ix (m := .f) rfl rfl (de_var (m := .f) (i := 0) rfl rfl (by first | exact .inl rfl | exact .inr (.inl rfl) | exact .inr (.inr rfl))) (de_var (m := .f) (i := 4) rfl rfl (by first | exact .inl rfl | exact .inr (.inl rfl) | exact .inr (.inr rfl)))) (de_ix (m := .f) rfl rfl (de_var (m := .f) (i := 0) rfl rfl (by first | exact .inl rfl | exact .inr (.inl rfl) | exact .inr (.inr rfl))) (de_var (m := .f) (i := 5) rfl rfl (by first | exact .inl rfl | exact .inr (.inl rfl) | exact .inr (.inr rfl))))) (dw_and1 (dt_cmp (op_eqD hr.units) o_eq (de_ix (m := .f) rfl rfl (de_var (m := .f) (i := 1) rfl rfl (by first | exact .inl rfl | exact .inr (.inl rfl) | exact .inr (.inr rfl))) (de_var (m := .f) (i := 5) rfl rfl (by first | exact .inl rfl | exact .inr (.inl rfl) | exact .inr (.inr rfl)))) (de_ix (m := .f) rfl rfl (de_var (m := .f) (i := 1) rfl rfl (by first | exact .inl rfl | exact .inr (.inl rfl) | exact .inr (.inr rfl))) (de_var (m := .f) (i := 6) rfl rfl (by first | exact .inl rfl | exact .inr (.inl rfl) | exact .inr (.inr rfl))))))))
 (dss_cons (ds_qset (i := 3) (Room.u65 hr) rfl rfl (by first | exact .inl rfl | exact .inr (.inl rfl) | exact .inr (.inr rfl)) (de_bl (m := .t)) (de_tup (m := .t) (da_cons (m := .t) (de_var (m := .t) (i := 4) rfl rfl (by first | exact .inl rfl | exact .inr (.inl rfl) | exact .inr (.inr rfl))) (da_cons (m := .t) (de_var (m := .t) (i := 6) rfl rfl (by first | exact .inl rfl | exact .inr (.inl rfl) | exact .inr (.inr rfl))) (da_nil (m := .t))))))
 dss_nil)
 dss_nil)
 dss_nil))
 (dss_cons (ds_frz (i := 3) rfl (ds_ret (de_callB (m := .f) (cr_all rfl) o_all rfl T.n_all (by decide +kernel) (by exact rfl) (dai_cons (m := .f) rfl (DF.de (m := .f) (df_lc rfl S.nd (DH.di (dh_keys (de_ownL (i := 3) rfl rfl (by first | exact .inl rfl | exact .inr (.inl rfl) | exact .inr (.inr rfl))))) (blkOk_by (own := [("a", 4), ("c", 6)]) (by kernel_rfl)) rfl rfl (fun _ _ _ _ _ => (dg_tup rfl (dgs_cons (dg_name (i := 4) rfl S.nd rfl (by first | exact .inl rfl | exact .inr rfl) (by first | exact .inl rfl | exact .inr rfl)) (dgs_cons (dg_name (i := 6) rfl S.nd rfl (by first | exact .inl rfl | exact .inr rfl) (by first | exact .inl rfl | exact .inr rfl)) dgs_nil)))) (fun _ _ _ _ _ => dts_nil) (fun _ _ _ _ _ => (de_cmp (m := .t) (op_nin65 (Room.u65 hr)) o_qin (de_tup (m := .f) (da_cons (m := .f) (de_var (m := .f) (i := 6) rfl rfl (by first | exact .inl rfl | exact .inr (.inl rfl) | exact .inr (.inr rfl))) (da_cons (m := .f) (de_var (m := .f) (i := 4) rfl rfl (by first | exact .inl rfl | exact .inr (.inl rfl) | exact .inr (.inr rfl))) (da_nil (m := .f))))) (de_own (m := .f) (i := 3) rfl rfl rfl (by first | exact .inl rfl | exact .inr (.inl rfl) | exact .inr (.inr rfl))))))) (dai_nil (m := .f))))))
 dss_nil))))

theorem sc_exchange : FnScope ["algebra", "one", "other"] ["algebra", "one", "other"] (defScope s_exchange) := ⟨rfl, rfl, rfl, by decide +kernel, rfl, by decide +kernel, by decide +kernel⟩
theorem c_exchange (T : Tx K mg fl b) : Cal P w K mg base fl 8 "exchange" 3 F_exchange := by
  have S := sc_exchange
  refine T.d_exchange.cal (k := 7) (ow := [false, false, false]) S rfl rfl fun f cdv A outer s H E hr => ?_
  exact (dss_cons (ds_expr (dc (m := .f) (takes_of rfl rfl rfl rfl) (c_check_joining T) hr (by decide) rfl (by exact rfl) (da_cons (m := .f) (de_var (m := .f) (i := 0) rfl rfl (by first | exact .inl rfl | exact .inr (.inl rfl) | exact .inr (.inr rfl))) (da_cons (m := .f) (de_var (m := .f) (i := 1) rfl rfl (by first | exact .inl rfl | exact .inr (.inl rfl) | exact .inr (.inr rfl))) (da_nil (m := .f))))))
 (dss_cons (ds_expr (dc (m := .f) (takes_of rfl rfl rfl rfl) (c_check_joining T) hr (by decide) rfl (by exact rfl) (da_cons (m := .f) (de_var (m := .f) (i := 0) rfl rfl (by first | exact .inl rfl | exact .inr (.inl rfl) | exact .inr (.inr rfl))) (da_cons (m := .f) (de_var (m := .f) (i := 2) rfl rfl (by first | exact .inl rfl | exact .inr (.inl rfl) | exact .inr (.inr rfl))) (da_nil (m := .f))))))
 (dss_cons (ds_ret (dc (m := .f) (takes_of rfl rfl rfl rfl) (c_are_exchanged T) hr (by decide) rfl (by exact rfl) (da_cons (m := .f) (de_var (m := .f) (i := 1) rfl rfl (by first | exact .inl rfl | exact .inr (.inl rfl) | exact .inr (.inr rfl))) (da_cons (m := .f) (de_var (m := .f) (i := 2) rfl rfl (by first | exact .inl rfl | exact .inr (.inl rfl) | exact .inr (.inr rfl))) (da_nil (m := .f))))))
 dss_nil)))

theorem sc__law_cell : FnScope ["script", "k"] ["script", "k"] (defScope s__law_cell) := ⟨rfl, rfl, rfl, by decide +kernel, rfl, by decide +kernel, by decide +kernel⟩
theorem c__law_cell (T : Tx K mg fl b) : Cal P w K mg base fl 2 "_law_cell" 2 F__law_cell := by
  have S := sc__law_cell
  refine T.d__law_cell.cal (k := 1) (ow := [false, false]) S rfl rfl fun f cdv A outer s H E hr => ?_
  exact (dss_cons (ds_if (dt_cmp op_lt (o_cmp _) (de_var (m := .f) (i := 1) rfl rfl (by first | exact .inl rfl | exact .inr (.inl rfl) | exact .inr (.inr rfl))) (de_callB (m := .f) call_len o_len rfl T.n_len (by decide +kernel) (by exact rfl) (dai_cons (m := .f) rfl (de_var (m := .f) (i := 0) rfl rfl (by first | exact .inl rfl | exact .inr (.inl rfl) | exact .inr (.inr rfl))) (dai_nil (m := .f)))))
 (dss_cons (ds_ret (de_ix (m := .f) rfl rfl (de_var (m := .f) (i := 0) rfl rfl (by first | exact .inl rfl | exact .inr (.inl rfl) | exact .inr (.inr rfl))) (de_var (m := .f) (i := 1) rfl rfl (by first | exact .inl rfl | exact .inr (.inl rfl) | exact .inr (.inr rfl)))))
 dss_nil)
 dss_nil)
 (dss_cons (ds_ret (de_int (m := .f)))
 dss_nil))

theorem sc__law_digits : FnScope ["cell", "sizes", "row", "size"] ["cell", "sizes"] (defScope s__law_digits) := ⟨rfl, rfl, rfl, by decide +kernel, rfl, by decide +kernel, by decide +kernel⟩
theorem c__law_digits (T : Tx K mg fl b) : Cal P w K mg base fl 2 "_law_digits" 2 F__law_digits := by
  have S := sc__law_digits
  refine T.d__law_digits.cal (k := 1) (ow := [false, false, true, false]) S rfl rfl fun f cdv A outer s H E hr => ?_
  exact (dss_cons (ds_setO (i := 2) rfl S.nd rfl (by first | exact .inl rfl | exact .inr rfl) (df_lst (da_nil (m := .t))))
 (dss_cons (ds_for (passes_of rfl) rfl (dh_seq (de_var (m := .t) (i := 1) rfl rfl (by first | exact .inl rfl | exact .inr (.inl rfl) | exact .inr (.inr rfl)))) (dg_name (i := 3) rfl S.nd rfl (by first | exact .inl rfl | exact .inr rfl) (by first | exact .inl rfl | exact .inr rfl))
 (dss_cons (ds_append (i := 2) rfl rfl (by first | exact .inl rfl | exact .inr (.inl rfl) | exact .inr (.inr rfl)) (de_bin (m := .t) op_mod o_mod rfl rfl (de_callTy (m := .f) call_int1 o_int rfl T.n_int (by decide +kernel) (by exact rfl) (dai_cons (m := .f) rfl (de_var (m := .f) (i := 0) rfl rfl (by first | exact .inl rfl | exact .inr (.inl rfl) | exact .inr (.inr rfl))) (dai_nil (m := .f)))) (de_var (m := .f) (i := 3) rfl rfl (by first | exact .inl rfl | exact .inr (.inl rfl) | exact .inr (.inr rfl)))))
 (dss_cons (ds_set (i := 0) rfl S.nd rfl (by first | exact .inl rfl | exact .inr rfl) (de_bin (m := .t) op_fdiv o_fdiv rfl rfl (de_var (m := .f) (i := 0) rfl rfl (by first | exact .inl rfl | exact .inr (.inl rfl) | exact .inr (.inr rfl))) (de_var (m := .f) (i := 3) rfl rfl (by first | exact .inl rfl | exact .inr (.inl rfl) | exact .inr (.inr rfl)))))
 dss_nil)))
 (dss_cons (ds_ret (de_own (m := .f) (i := 2) rfl rfl rfl (by first | exact .inl rfl | exact .inr (.inl rfl) | exact .inr (.inr rfl))))
 dss_nil)))

theorem sc__law_rich : FnScope ["cell", "low", "high"] ["cell"] (defScope s__law_rich) := ⟨rfl, rfl, rfl, by decide +kernel, rfl, by decide +kernel, by decide +kernel⟩
theorem c__law_rich (T : Tx K mg fl b) : Cal P w K mg base fl 2 "_law_rich" 1 F__law_rich := by
  have S := sc__law_rich
  refine T.d__law_rich.cal (k := 1) (ow := [false, false, false]) S rfl rfl fun f cdv A outer s H E hr => ?_
  exact (dss_cons (ds_if (dt_cmp op_ge (o_cmp _) (de_var (m := .f) (i := 0) rfl rfl (by first | exact .inl rfl | exact .inr (.inl rfl) | exact .inr (.inr rfl))) (de_bin (m := .f) op_pow o_pow rfl rfl (de_int (m := .f)) (de_int (m := .f))))
 (dss_cons (ds_ret (de_var (m := .f) (i := 0) rfl rfl (by first | exact .inl rfl | exact .inr (.inl rfl) | exact .inr (.inr rfl))))
 dss_nil)
 dss_nil)
 (dss_cons (ds_set (i := 1) rfl S.nd rfl (by first | exact .inl rfl | exact .inr rfl) (de_bin (m := .t) op_mod o_mod rfl rfl (de_callTy (m := .f) call_int1 o_int rfl T.n_int (by decide +kernel) (by exact rfl) (dai_cons (m := .f) rfl (de_bin (m := .f) op_addG o_add rfl rfl (de_bin (m := .f) op_mulG o_mul rfl rfl (de_var (m := .f) (i := 0) rfl rfl (by first | exact .inl rfl | exact .inr (.inl rfl) | exact .inr (.inr rfl))) (de_int (m := .f))) (de_int (m := .f))) (dai_nil (m := .f)))) (de_int (m := .f))))
 (dss_cons (ds_set (i := 2) rfl S.nd rfl (by first | exact .inl rfl | exact .inr rfl) (de_bin (m := .t) op_mod o_mod rfl rfl (de_callTy (m := .f) call_int1 o_int rfl T.n_int (by decide +kernel) (by exact rfl) (dai_cons (m := .f) rfl (de_bin (m := .f) op_addG o_add rfl rfl (de_bin (m := .f) op_addG o_add rfl rfl (de_bin (m := .f) op_mulG o_mul rfl rfl (de_var (m := .f) (i := 1) rfl rfl (by first | exact .inl rfl | exact .inr (.inl rfl) | exact .inr (.inr rfl))) (de_int (m := .f))) (de_bin (m := .f) op_fdiv o_fdiv rfl rfl (de_var (m := .f) (i := 0) rfl rfl (by first | exact .inl rfl | exact .inr (.inl rfl) | exact .inr (.inr rfl))) (de_int (m := .f)))) (de_int (m := .f))) (dai_nil (m := .f)))) (de_int (m := .f))))
 (dss_cons (ds_ret (de_bin (m := .f) op_addG o_add rfl rfl (de_bin (m := .f) op_mulG o_mul rfl rfl (de_var (m := .f) (i := 1) rfl rfl (by first | exact .inl rfl | exact .inr (.inl rfl) | exact .inr (.inr rfl))) (de_int (m := .f))) (de_var (m := .f) (i := 2) rfl rfl (by first | exact .inl rfl | exact .inr (.inl rfl) | exact .inr (.inr rfl)))))
 dss_nil))))

theorem sc__law_draws : FnScope ["cell", "size", "count", "rest", "found", "k"] ["cell", "size", "count"] (defScope s__law_draws) := ⟨rfl, rfl, rfl, by decide +kernel, rfl, by decide +kernel, by decide +kernel⟩
theorem c__law_draws (T : Tx K mg fl b) : Cal P w K mg base fl 3 "_law_draws" 3 F__law_draws := by
  have S := sc__law_draws
  refine T.d__law_draws.cal (k := 2) (ow := [false, false, false, false, true, false]) S rfl rfl fun f cdv A outer s H E hr => ?_
  exact (dss_cons (ds_set (i := 3) rfl S.nd rfl (by first | exact .inl rfl | exact .inr rfl) (dc (m := .t) (takes_of rfl rfl rfl rfl) (c__law_rich T) hr (by decide) rfl (by exact rfl) (da_cons (m := .t) (de_var (m := .t) (i := 0) rfl rfl (by first | exact .inl rfl | exact .inr (.inl rfl) | exact .inr (.inr rfl))) (da_nil (m := .t)))))
 (dss_cons (ds_setO (i := 4) rfl S.nd rfl (by first | exact .inl rfl | exact .inr rfl) (df_lst (da_nil (m := .t))))
 (dss_cons (ds_for (passes_of rfl) rfl (dh_rg1 T.n_range (by exact rfl) (de_var (m := .f) (i := 2) rfl rfl (by first | exact .inl rfl | exact .inr (.inl rfl) | exact .inr (.inr rfl)))) (dg_name (i := 5) rfl S.nd rfl (by first | exact .inl rfl | exact .inr rfl) (by first | exact .inl rfl | exact .inr rfl))
 (dss_cons (ds_append (i := 4) rfl rfl (by first | exact .inl rfl | exact .inr (.inl rfl) | exact .inr (.inr rfl)) (de_bin (m := .t) op_mod o_mod rfl rfl (de_callTy (m := .f) call_int1 o_int rfl T.n_int (by decide +kernel) (by exact rfl) (dai_cons (m := .f) rfl (de_var (m := .f) (i := 3) rfl rfl (by first | exact .inl rfl | exact .inr (.inl rfl) | exact .inr (.inr rfl))) (dai_nil (m := .f)))) (de_var (m := .f) (i := 1) rfl rfl (by first | exact .inl rfl | exact .inr (.inl rfl) | exact .inr (.inr rfl)))))
 (dss_cons (ds_set (i := 3) rfl S.nd rfl (by first | exact .inl rfl | exact .inr rfl) (de_bin (m := .t) op_fdiv o_fdiv rfl rfl (de_var (m := .f) (i := 3) rfl rfl (by first | exact .inl rfl | exact .inr (.inl rfl) | exact .inr (.inr rfl))) (de_var (m := .f) (i := 1) rfl rfl (by first | exact .inl rfl | exact .inr (.inl rfl) | exact .inr (.inr rfl)))))
 (dss_cons (ds_if (dt_cmp (op_eqD hr.units) o_eq (de_var (m := .f) (i := 3) rfl rfl (by first | exact .inl rfl | exact .inr (.inl rfl) | exact .inr (.inr rfl))) (de_int (m := .f)))
 (dss_cons (ds_set (i := 3) rfl S.nd rfl (by first | exact .inl rfl | exact .inr rfl) (dc (m := .t) (takes_of rfl rfl rfl rfl) (c__law_rich T) hr (by decide) rfl (by exact rfl) (da_cons (m := .t) (de_bin (m := .t) op_addG o_add rfl rfl (de_bin (m := .t) op_addG o_add rfl rfl (de_var (m := .t) (i := 0) rfl rfl (by first | exact .inl rfl | exact .inr (.inl rfl) | exact .inr (.inr rfl))) (de_bin (m := .t) op_mulG o_mul rfl rfl (de_int (m := .t)) (de_var (m := .t) (i := 5) rfl rfl (by first | exact .inl rfl | exact .inr (.inl rfl) | exact .inr (.inr rfl))))) (de_int (m := .t))) (da_nil (m := .t)))))
 dss_nil)
 dss_nil)
 dss_nil))))
 (dss_cons (ds_ret (de_callTy (m := .f) call_tuple_of o_tuple rfl T.n_tuple (by decide +kernel) (by exact rfl) (dai_cons (m := .f) rfl (de_own (m := .f) (i := 4) rfl rfl rfl (by first | exact .inl rfl | exact .inr (.inl rfl) | exact .inr (.inr rfl))) (dai_nil (m := .f)))))
 dss_nil))))

theorem sc__law_tuples : FnScope ["n", "k", "found", "step", "longer", "row", "thing"] ["n", "k"] (defScope s__law_tuples) := ⟨rfl, rfl, rfl, by decide +kernel, rfl, by decide +kernel, by decide +kernel⟩
theorem c__law_tuples (T : Tx K mg fl b) : Cal P w K mg base fl 2 "_law_tuples" 2 F__law_tuples := by
  have S := sc__law_tuples
  refine T.d__law_tuples.cal (k := 1) (ow := [false, false, false, false, false, false, false]) S rfl rfl fun f cdv A outer s H E hr => ?_
  exact (dss_cons (ds_set (i := 2) rfl S.nd rfl (by first | exact .inl rfl | exact .inr rfl) (de_lst (m := .t) (da_cons (m := .t) (de_tup (m := .t) (da_nil (m := .t))) (da_nil (m := .t)))))
 (dss_cons (ds_for (passes_of rfl) rfl (dh_rg1 T.n_range (by exact rfl) (de_var (m := .f) (i := 1) rfl rfl (by first | exact .inl rfl | exact .inr (.inl rfl) | exact .inr (.inr rfl)))) (dg_name (i := 3) rfl S.nd rfl (by first | exact .inl rfl | exact .inr rfl) (by first | exact .inl rfl | exact .inr rfl))
 (dss_cons (ds_set (i := 4) rfl S.nd rfl (by first | exact .inl rfl | exact .inr rfl) (de_lst (m := .t) (da_nil (m := .t))))
 (dss_cons (ds_for (passes_of rfl) rfl (dh_seq (de_var (m := .t) (i := 2) rfl rfl (by first | exact .inl rfl | exact .inr (.inl rfl) | exact .inr (.inr rfl)))) (dg_name (i := 5) rfl S.nd rfl (by first | exact .inl rfl | exact .inr rfl) (by first | exact .inl rfl | exact .inr rfl))
 (dss_cons (ds_set (i := 4) rfl S.nd rfl (by first | exact .inl rfl | exact .inr rfl) (de_bin (m := .t) op_addG o_add rfl rfl (de_var (m := .t) (i := 4) rfl rfl (by first | exact .inl rfl | exact .inr (.inl rfl) | exact .inr (.inr rfl))) (DF.de (m := .t) (df_lc rfl S.nd (DH.di (dh_rg1 T.n_range (by exact rfl) (de_var (m := .f) (i := 0) rfl rfl (by first | exact .inl rfl | exact .inr (.inl rfl) | exact .inr (.inr rfl))))) (blkOk_by (own := [("thing", 6)]) (by kernel_rfl)) rfl rfl (fun _ _ _ _ _ => (dg_name (i := 6) rfl S.nd rfl (by first | exact .inl rfl | exact .inr rfl) (by first | exact .inl rfl | exact .inr rfl))) (fun _ _ _ _ _ => dts_nil) (fun _ _ _ _ _ => (de_bin (m := .t) op_addG o_add rfl rfl (de_var (m := .t) (i := 5) rfl rfl (by first | exact .inl rfl | exact .inr (.inl rfl) | exact .inr (.inr rfl))) (de_tup (m := .t) (da_cons (m := .t) (de_var (m := .t) (i := 6) rfl rfl (by first | exact .inl rfl | exact .inr (.inl rfl) | exact .inr (.inr rfl))) (da_nil (m := .t))))))))))
 dss_nil))
 (dss_cons (ds_set (i := 2) rfl S.nd rfl (by first | exact .inl rfl | exact .inr rfl) (de_var (m := .t) (i := 4) rfl rfl (by first | exact .inl rfl | exact .inr (.inl rfl) | exact .inr (.inr rfl))))
 dss_nil))))
 (dss_cons (ds_ret (de_var (m := .f) (i := 2) rfl rfl (by first | exact .inl rfl | exact .inr (.inl rfl) | exact .inr (.inr rfl))))
 dss_nil)))

theorem sc__law_table : FnScope ["kind", "cell", "n", "pairs", "drawn", "a", "b"] ["kind", "cell", "n"] (defScope s__law_table) := ⟨rfl, rfl, rfl, by decide +kernel, rfl, by decide +kernel, by decide +kernel⟩
theorem c__law_table (T : Tx K mg fl b) : Cal P w K mg base fl 4 "_law_table" 3 F__law_table := by
  have S := sc__law_table
  refine T.d__law_table.cal (k := 3) (ow := [false, false, false, false, false, false, false]) S rfl rfl fun f cdv A outer s H E hr => ?_
  exact (dss_cons (ds_set (i := 3) rfl S.nd rfl (by first | exact .inl rfl | exact .inr rfl) (dc (m := .t) (takes_of rfl rfl rfl rfl) (c__law_tuples T) hr (by decide) rfl (by exact rfl) (da_cons (m := .t) (de_var (m := .t) (i := 2) rfl rfl (by first | exact .inl rfl | exact .inr (.inl rfl) | exact .inr (.inr rfl))) (da_cons (m := .t) (de_int (m := .t)) (da_nil (m := .t))))))
 (dss_cons (ds_set (i := 4) rfl S.nd rfl (by first | exact .inl rfl | exact .inr rfl) (dc (m := .t) (takes_of rfl rfl rfl rfl) (c__law_draws T) hr (by decide) rfl (by exact rfl) (da_cons (m := .t) (de_var (m := .t) (i := 1) rfl rfl (by first | exact .inl rfl | exact .inr (.inl rfl) | exact .inr (.inr rfl))) (da_cons (m := .t) (de_var (m := .t) (i := 2) rfl rfl (by first | exact .inl rfl | exact .inr (.inl rfl) | exact .inr (.inr rfl))) (da_cons (m := .t) (de_int (m := .t)) (da_nil (m := .t)))))))
 (dss_cons (ds_if (dt_cmp (op_eqD hr.units) o_eq (de_var (m := .f) (i := 0) rfl rfl (by first | exact .inl rfl | exact .inr (.inl rfl) | exact .inr (.inr rfl))) (de_int (m := .f)))
 (dss_cons (ds_ret (de_tup (m := .f) (da_cons (m := .f) (de_int (m := .f)) (da_cons (m := .f) (de_slice (m := .f) rfl (de_var (m := .f) (i := 4) rfl rfl (by first | exact .inl rfl | exact .inr (.inl rfl) | exact .inr (.inr rfl))) dp_none (dp_some (de_bin (m := .f) op_mulG o_mul rfl rfl (de_var (m := .f) (i := 2) rfl rfl (by first | exact .inl rfl | exact .inr (.inl rfl) | exact .inr (.inr rfl))) (de_var (m := .f) (i := 2) rfl rfl (by first | exact .inl rfl | exact .inr (.inl rfl) | exact .inr (.inr rfl)))))) (da_nil (m := .f))))))
 dss_nil)
 dss_nil)
 (dss_cons (ds_if (dt_cmp (op_eqD hr.units) o_eq (de_var (m := .f) (i := 0) rfl rfl (by first | exact .inl rfl | exact .inr (.inl rfl) | exact .inr (.inr rfl))) (de_int (m := .f)))
 (dss_cons (ds_ret (de_tup (m := .f) (da_cons (m := .f) (de_int (m := .f)) (da_cons (m := .f) (de_callTy (m := .f) call_tuple_of o_tuple rfl T.n_tuple (by decide +kernel) (by exact rfl) (dai_cons (m := .f) rfl (DF.de (m := .f) (df_lc rfl S.nd (DH.di (dh_seq (de_var (m := .t) (i := 3) rfl rfl (by first | exact .inl rfl | exact .inr (.inl rfl) | exact .inr (.inr rfl))))) (blkOk_by (own := [("a", 5), ("b", 6)]) (by kernel_rfl)) rfl rfl (fun _ _ _ _ _ => (dg_tup rfl (dgs_cons (dg_name (i := 5) rfl S.nd rfl (by first | exact .inl rfl | exact .inr rfl) (by first | exact .inl rfl | exact .inr rfl)) (dgs_cons (dg_name (i := 6) rfl S.nd rfl (by first | exact .inl rfl | exact .inr rfl) (by first | exact .inl rfl | exact .inr rfl)) dgs_nil)))) (fun _ _ _ _ _ => dts_nil) (fun _ _ _ _ _ => (de_callB (m := .t) (call_min2 rfl) o_min2 rfl T.n_min (by decide +kernel) (by exact rfl) (dai_cons (m := .f) rfl (de_var (m := .f) (i := 5) rfl rfl (by first | exact .inl rfl | exact .inr (.inl rfl) | exact .inr (.inr rfl))) (dai_cons (m := .f) rfl (de_var (m := .f) (i := 6) rfl rfl (by first | exact .inl rfl | exact .inr (.inl rfl) | exact .inr (.inr rfl))) (dai_nil (m := .f)))))))) (dai_nil (m := .f)))) (da_nil (m := .f))))))
 dss_nil)
 dss_nil)
 (dss_cons (ds_if (dt_cmp (op_eqD hr.units) o_eq (de_var (m := .f) (i := 0) rfl rfl (by first | exact .inl rfl | exact .inr (.inl rfl) | exact .inr (.inr rfl))) (de_int (m := .f)))
 (dss_cons (ds_ret (de_tup (m := .f) (da_cons (m := .f) (de_int (m := .f)) (da_cons (m := .f) (de_callTy (m := .f) call_tuple_of o_tuple rfl T.n_tuple (by decide +kernel) (by exact rfl) (dai_cons (m := .f) rfl (DF.de (m := .f) (df_lc rfl S.nd (DH.di (dh_seq (de_var (m := .t) (i := 3) rfl rfl (by first | exact .inl rfl | exact .inr (.inl rfl) | exact .inr (.inr rfl))))) (blkOk_by (own := [("a", 5), ("b", 6)]) (by kernel_rfl)) rfl rfl (fun _ _ _ _ _ => (dg_tup rfl (dgs_cons (dg_name (i := 5) rfl S.nd rfl (by first | exact .inl rfl | exact .inr rfl) (by first | exact .inl rfl | exact .inr rfl)) (dgs_cons (dg_name (i := 6) rfl S.nd rfl (by first | exact .inl rfl | exact .inr rfl) (by first | exact .inl rfl | exact .inr rfl)) dgs_nil)))) (fun _ _ _ _ _ => dts_nil) (fun _ _ _ _ _ => (de_callB (m := .t) (call_max2 rfl) o_max2 rfl T.n_max (by decide +kernel) (by exact rfl) (dai_cons (m := .f) rfl (de_var (m := .f) (i := 5) rfl rfl (by first | exact .inl rfl | exact .inr (.inl rfl) | exact .inr (.inr rfl))) (dai_cons (m := .f) rfl (de_var (m := .f) (i := 6) rfl rfl (by first | exact .inl rfl | exact .inr (.inl rfl) | exact .inr (.inr rfl))) (dai_nil (m := .f)))))))) (dai_nil (m := .f)))) (da_nil (m := .f))))))
 dss_nil)
 dss_nil)
 (dss_cons (ds_if (dt_cmp (op_eqD hr.units) o_eq (de_var (m := .f) (i := 0) rfl rfl (by first | exact .inl rfl | exact .inr (.inl rfl) | exact .inr (.inr rfl))) (de_int (m := .f)))
 (dss_cons (ds_ret (de_tup (m := .f) (da_cons (m := .f) (de_int (m := .f)) (da_cons (m := .f) (de_callTy (m := .f) call_tuple_of o_tuple rfl T.n_tuple (by decide +kernel) (by exact rfl) (dai_cons (m := .f) rfl (DF.de (m := .f) (df_lc rfl S.nd (DH.di (dh_seq (de_var (m := .t) (i := 3) rfl rfl (by first | exact .inl rfl | exact .inr (.inl rfl) | exact .inr (.inr rfl))))) (blkOk_by (own := [("a", 5), ("b", 6)]) (by kernel_rfl)) rfl rfl (fun _ _ _ _ _ => (dg_tup rfl (dgs_cons (dg_name (i := 5) rfl S.nd rfl (by first | exact .inl rfl | exact .inr rfl) (by first | exact .inl rfl | exact .inr rfl)) (dgs_cons (dg_name (i := 6) rfl S.nd rfl (by first | exact .inl rfl | exact .inr rfl) (by first | exact .inl rfl | exact .inr rfl)) dgs_nil)))) (fun _ _ _ _ _ => dts_nil) (fun _ _ _ _ _ => (de_bin (m := .t) op_mod o_mod rfl rfl (de_callTy (m := .f) call_int1 o_int rfl T.n_int (by decide +kernel) (by exact rfl) (dai_cons (m := .f) rfl (de_bin (m := .f) op_addG o_add rfl rfl (de_var (m := .f) (i := 5) rfl rfl (by first | exact .inl rfl | exact .inr (.inl rfl) | exact .inr (.inr rfl))) (de_var (m := .f) (i := 6) rfl rfl (by first | exact .inl rfl | exact .inr (.inl rfl) | exact .inr (.inr rfl)))) (dai_nil (m := .f)))) (de_var (m := .f) (i := 2) rfl rfl (by first | exact .inl rfl | exact .inr (.inl rfl) | exact .inr (.inr rfl))))))) (dai_nil (m := .f)))) (da_nil (m := .f))))))
 dss_nil)
 dss_nil)
 (dss_cons (ds_if (dt_cmp (op_eqD hr.units) o_eq (de_var (m := .f) (i := 0) rfl rfl (by first | exact .inl rfl | exact .inr (.inl rfl) | exact .inr (.inr rfl))) (de_int (m := .f)))
 (dss_cons (ds_ret (de_tup (m := .f) (da_cons (m := .f) (de_int (m := .f)) (da_cons (m := .f) (de_slice (m := .f) rfl (de_var (m := .f) (i := 4) rfl rfl (by first | exact .inl rfl | exact .inr (.inl rfl) | exact .inr (.inr rfl))) dp_none (dp_some (de_var (m := .f) (i := 2) rfl rfl (by first | exact .inl rfl | exact .inr (.inl rfl) | exact .inr (.inr rfl))))) (da_nil (m := .f))))))
 dss_nil)
 dss_nil)
 (dss_cons (ds_if (dt_cmp (op_eqD hr.units) o_eq (de_var (m := .f) (i := 0) rfl rfl (by first | exact .inl rfl | exact .inr (.inl rfl) | exact .inr (.inr rfl))) (de_int (m := .f)))
 (dss_cons (ds_ret (de_tup (m := .f) (da_cons (m := .f) (de_int (m := .f)) (da_cons (m := .f) (de_slice (m := .f) rfl (de_var (m := .f) (i := 4) rfl rfl (by first | exact .inl rfl | exact .inr (.inl rfl) | exact .inr (.inr rfl))) dp_none (dp_some (de_int (m := .f)))) (da_nil (m := .f))))))
 dss_nil)
 dss_nil)
 (dss_cons (ds_if (dt_cmp (op_eqD hr.units) o_eq (de_var (m := .f) (i := 0) rfl rfl (by first | exact .inl rfl | exact .inr (.inl rfl) | exact .inr (.inr rfl))) (de_int (m := .f)))
 (dss_cons (ds_ret (de_tup (m := .f) (da_cons (m := .f) (de_int (m := .f)) (da_cons (m := .f) (de_callTy (m := .f) call_tuple_of o_tuple rfl T.n_tuple (by decide +kernel) (by exact rfl) (dai_cons (m := .f) rfl (DF.de (m := .f) (df_lc rfl S.nd (DH.di (dh_seq (de_var (m := .t) (i := 3) rfl rfl (by first | exact .inl rfl | exact .inr (.inl rfl) | exact .inr (.inr rfl))))) (blkOk_by (own := [("a", 5), ("b", 6)]) (by kernel_rfl)) rfl rfl (fun _ _ _ _ _ => (dg_tup rfl (dgs_cons (dg_name (i := 5) rfl S.nd rfl (by first | exact .inl rfl | exact .inr rfl) (by first | exact .inl rfl | exact .inr rfl)) (dgs_cons (dg_name (i := 6) rfl S.nd rfl (by first | exact .inl rfl | exact .inr rfl) (by first | exact .inl rfl | exact .inr rfl)) dgs_nil)))) (fun _ _ _ _ _ => dts_nil) (fun _ _ _ _ _ => (de_ix (m := .t) rfl rfl (de_lst (m := .t) (da_cons (m := .t) (de_ix (m := .t) rfl rfl (de_var (m := .t) (i := 4) rfl rfl (by first | exact .inl rfl | exact .inr (.inl rfl) | exact .inr (.inr rfl))) (de_bin (m := .t) op_addG o_add rfl rfl (de_bin (m := .t) op_mulG o_mul rfl rfl (de_var (m := .t) (i := 5) rfl rfl (by first | exact .inl rfl | exact .inr (.inl rfl) | exact .inr (.inr rfl))) (de_var (m := .t) (i := 2) rfl rfl (by first | exact .inl rfl | exact .inr (.inl rfl) | exact .inr (.inr rfl)))) (de_var (m := .t) (i := 6) rfl rfl (by first | exact .inl rfl | exact .inr (.inl rfl) | exact .inr (.inr rfl))))) (da_cons (m := .t) (de_var (m := .t) (i := 5) rfl rfl (by first | exact .inl rfl | exact .inr (.inl rfl) | exact .inr (.inr rfl))) (da_nil (m := .t))))) (de_callTy (m := .t) call_int1 o_int rfl T.n_int (by decide +kernel) (by exact rfl) (dai_cons (m := .f) rfl (de_cmp (m := .f) (op_eqD hr.units) o_eq (de_var (m := .f) (i := 5) rfl rfl (by first | exact .inl rfl | exact .inr (.inl rfl) | exact .inr (.inr rfl))) (de_var (m := .f) (i := 6) rfl rfl (by first | exact .inl rfl | exact .inr (.inl rfl) | exact .inr (.inr rfl)))) (dai_nil (m := .f)))))))) (dai_nil (m := .f)))) (da_nil (m := .f))))))
 dss_nil)
 dss_nil)
 (dss_cons (ds_if (dt_cmp (op_eqD hr.units) o_eq (de_var (m := .f) (i := 0) rfl rfl (by first | exact .inl rfl | exact .inr (.inl rfl) | exact .inr (.inr rfl))) (de_int (m := .f)))
 (dss_cons (ds_ret (de_tup (m := .f) (da_cons (m := .f) (de_int (m := .f)) (da_cons (m := .f) (de_callTy (m := .f) call_tuple_of o_tuple rfl T.n_tuple (by decide +kernel) (by exact rfl) (dai_cons (m := .f) rfl (DF.de (m := .f) (df_lc rfl S.nd (DH.di (dh_seq (de_var (m := .t) (i := 3) rfl rfl (by first | exact .inl rfl | exact .inr (.inl rfl) | exact .inr (.inr rfl))))) (blkOk_by (own := [("a", 5), ("b", 6)]) (by kernel_rfl)) rfl rfl (fun _ _ _ _ _ => (dg_tup rfl (dgs_cons (dg_name (i := 5) rfl S.nd rfl (by first | exact .inl rfl | exact .inr rfl) (by first | exact .inl rfl | exact .inr rfl)) (dgs_cons (dg_name (i := 6) rfl S.nd rfl (by first | exact .inl rfl | exact .inr rfl) (by first | exact .inl rfl | exact .inr rfl)) dgs_nil)))) (fun _ _ _ _ _ => dts_nil) (fun _ _ _ _ _ => (de_bin (m := .t) op_mod o_mod rfl rfl (de_callTy (m := .f) call_int1 o_int rfl T.n_int (by decide +kernel) (by exact rfl) (dai_cons (m := .f) rfl (de_bin (m := .f) op_sub o_sub rfl rfl (de_var (m := .f) (i := 5) rfl rfl (by first | exact .inl rfl | exact .inr (.inl rfl) | exact .inr (.inr rfl))) (de_var (m := .f) (i := 6) rfl rfl (by first | exact .inl rfl | exact .inr (.inl rfl) | exact .inr (.inr rfl)))) (dai_nil (m := .f)))) (de_var (m := .f) (i := 2) rfl rfl (by first | exact .inl rfl | exact .inr (.inl rfl) | exact .inr (.inr rfl))))))) (dai_nil (m := .f)))) (da_nil (m := .f))))))
 dss_nil)
 dss_nil)
 (dss_cons (ds_if (dt_cmp (op_eqD hr.units) o_eq (de_var (m := .f) (i := 0) rfl rfl (by first | exact .inl rfl | exact .inr (.inl rfl) | exact .inr (.inr rfl))) (de_int (m := .f)))
 (dss_cons (ds_ret (de_tup (m := .f) (da_cons (m := .f) (de_int (m := .f)) (da_cons (m := .f) (de_callTy (m := .f) call_tuple_of o_tuple rfl T.n_tuple (by decide +kernel) (by exact rfl) (dai_cons (m := .f) rfl (DF.de (m := .f) (df_lc rfl S.nd (DH.di (dh_rg1 T.n_range (by exact rfl) (de_var (m := .f) (i := 2) rfl rfl (by first | exact .inl rfl | exact .inr (.inl rfl) | exact .inr (.inr rfl))))) (blkOk_by (own := [("a", 5)]) (by kernel_rfl)) rfl rfl (fun _ _ _ _ _ => (dg_name (i := 5) rfl S.nd rfl (by first | exact .inl rfl | exact .inr rfl) (by first | exact .inl rfl | exact .inr rfl))) (fun _ _ _ _ _ => dts_nil) (fun _ _ _ _ _ => (de_bin (m := .t) op_mod o_mod rfl rfl (de_callTy (m := .f) call_int1 o_int rfl T.n_int (by decide +kernel) (by exact rfl) (dai_cons (m := .f) rfl (de_bin (m := .f) op_addG o_add rfl rfl (de_var (m := .f) (i := 5) rfl rfl (by first | exact .inl rfl | exact .inr (.inl rfl) | exact .inr (.inr rfl))) (de_int (m := .f))) (dai_nil (m := .f)))) (de_var (m := .f) (i := 2) rfl rfl (by first | exact .inl rfl | exact .inr (.inl rfl) | exact .inr (.inr rfl))))))) (dai_nil (m := .f)))) (da_nil (m := .f))))))
 dss_nil)
 dss_nil)
 (dss_cons (ds_if (dt_cmp (op_eqD hr.units) o_eq (de_var (m := .f) (i := 0) rfl rfl (by first | exact .inl rfl | exact .inr (.inl rfl) | exact .inr (.inr rfl))) (de_int (m := .f)))
 (dss_cons (ds_ret (de_tup (m := .f) (da_cons (m := .f) (de_int (m := .f)) (da_cons (m := .f) (de_callTy (m := .f) call_tuple_of o_tuple rfl T.n_tuple (by decide +kernel) (by exact rfl) (dai_cons (m := .f) rfl (DF.de (m := .f) (df_lc rfl S.nd (DH.di (dh_seq (de_var (m := .t) (i := 3) rfl rfl (by first | exact .inl rfl | exact .inr (.inl rfl) | exact .inr (.inr rfl))))) (blkOk_by (own := [("a", 5), ("b", 6)]) (by kernel_rfl)) rfl rfl (fun _ _ _ _ _ => (dg_tup rfl (dgs_cons (dg_name (i := 5) rfl S.nd rfl (by first | exact .inl rfl | exact .inr rfl) (by first | exact .inl rfl | exact .inr rfl)) (dgs_cons (dg_name (i := 6) rfl S.nd rfl (by first | exact .inl rfl | exact .inr rfl) (by first | exact .inl rfl | exact .inr rfl)) dgs_nil)))) (fun _ _ _ _ _ => dts_nil) (fun _ _ _ _ _ => (de_ix (m := .t) rfl rfl (de_var (m := .t) (i := 4) rfl rfl (by first | exact .inl rfl | exact .inr (.inl rfl) | exact .inr (.inr rfl))) (de_bin (m := .t) op_addG o_add rfl rfl (de_bin (m := .t) op_mulG o_mul rfl rfl (de_callB (m := .t) (call_min2 rfl) o_min2 rfl T.n_min (by decide +kernel) (by exact rfl) (dai_cons (m := .f) rfl (de_var (m := .f) (i := 5) rfl rfl (by first | exact .inl rfl | exact .inr (.inl rfl) | exact .inr (.inr rfl))) (dai_cons (m := .f) rfl (de_var (m := .f) (i := 6) rfl rfl (by first | exact .inl rfl | exact .inr (.inl rfl) | exact .inr (.inr rfl))) (dai_nil (m := .f))))) (de_var (m := .t) (i := 2) rfl rfl (by first | exact .inl rfl | exact .inr (.inl rfl) | exact .inr (.inr rfl)))) (de_callB (m := .t) (call_max2 rfl) o_max2 rfl T.n_max (by decide +kernel) (by exact rfl) (dai_cons (m := .f) rfl (de_var (m := .f) (i := 5) rfl rfl (by first | exact .inl rfl | exact .inr (.inl rfl) | exact .inr (.inr rfl))) (dai_cons (m := .f) rfl (de_var (m := .f) (i := 6) rfl rfl (by first | exact .inl rfl | exact .inr (.inl rfl) | exact .inr (.inr rfl))) (dai_nil (m := .f)))))))))) (dai_nil (m := .f)))) (da_nil (m := .f))))))
 dss_nil)
 dss_nil)
 (dss_cons (ds_if (dt_cmp (op_eqD hr.units) o_eq (de_var (m := .f) (i := 0) rfl rfl (by first | exact .inl rfl | exact .inr (.inl rfl) | exact .inr (.inr rfl))) (de_int (m := .f)))
 (dss_cons (ds_ret (de_tup (m := .f) (da_cons (m := .f) (de_int (m := .f)) (da_cons (m := .f) (de_callTy (m := .f) call_tuple_of o_tuple rfl T.n_tuple (by decide +kernel) (by exact rfl) (dai_cons (m := .f) rfl (DF.de (m := .f) (df_lc rfl S.nd (DH.di (dh_seq (de_var (m := .t) (i := 3) rfl rfl (by first | exact .inl rfl | exact .inr (.inl rfl) | exact .inr (.inr rfl))))) (blkOk_by (own := [("a", 5), ("b", 6)]) (by kernel_rfl)) rfl rfl (fun _ _ _ _ _ => (dg_tup rfl (dgs_cons (dg_name (i := 5) rfl S.nd rfl (by first | exact .inl rfl | exact .inr rfl) (by first | exact .inl rfl | exact .inr rfl)) (dgs_cons (dg_name (i := 6) rfl S.nd rfl (by first | exact .inl rfl | exact .inr rfl) (by first | exact .inl rfl | exact .inr rfl)) dgs_nil)))) (fun _ _ _ _ _ => dts_nil) (fun _ _ _ _ _ => (de_ix (m := .t) rfl rfl (de_lst (m := .t) (da_cons (m := .t) (de_var (m := .t) (i := 5) rfl rfl (by first | exact .inl rfl | exact .inr (.inl rfl) | exact .inr (.inr rfl))) (da_cons (m := .t) (de_var (m := .t) (i := 6) rfl rfl (by first | exact .inl rfl | exact .inr (.inl rfl) | exact .inr (.inr rfl))) (da_nil (m := .t))))) (de_bin (m := .t) op_mod o_mod rfl rfl (de_callTy (m := .f) call_int1 o_int rfl T.n_int (by decide +kernel) (by exact rfl) (dai_cons (m := .f) rfl (de_ix (m := .f) rfl rfl (de_var (m := .f) (i := 4) rfl rfl (by first | exact .inl rfl | exact .inr (.inl rfl) | exact .inr (.inr rfl))) (de_bin (m := .f) op_addG o_add rfl rfl (de_bin (m := .f) op_mulG o_mul rfl rfl (de_var (m := .f) (i := 5) rfl rfl (by first | exact .inl rfl | exact .inr (.inl rfl) | exact .inr (.inr rfl))) (de_var (m := .f) (i := 2) rfl rfl (by first | exact .inl rfl | exact .inr (.inl rfl) | exact .inr (.inr rfl)))) (de_var (m := .f) (i := 6) rfl rfl (by first | exact .inl rfl | exact .inr (.inl rfl) | exact .inr (.inr rfl))))) (dai_nil (m := .f)))) (de_int (m := .f))))))) (dai_nil (m := .f)))) (da_nil (m := .f))))))
 dss_nil)
 dss_nil)
 (dss_cons (ds_if (dt_cmp (op_eqD hr.units) o_eq (de_var (m := .f) (i := 0) rfl rfl (by first | exact .inl rfl | exact .inr (.inl rfl) | exact .inr (.inr rfl))) (de_int (m := .f)))
 (dss_cons (ds_ret (de_tup (m := .f) (da_cons (m := .f) (de_int (m := .f)) (da_cons (m := .f) (de_callTy (m := .f) call_tuple_of o_tuple rfl T.n_tuple (by decide +kernel) (by exact rfl) (dai_cons (m := .f) rfl (DF.de (m := .f) (df_lc rfl S.nd (DH.di (dh_rg1 T.n_range (by exact rfl) (de_var (m := .f) (i := 2) rfl rfl (by first | exact .inl rfl | exact .inr (.inl rfl) | exact .inr (.inr rfl))))) (blkOk_by (own := [("a", 5)]) (by kernel_rfl)) rfl rfl (fun _ _ _ _ _ => (dg_name (i := 5) rfl S.nd rfl (by first | exact .inl rfl | exact .inr rfl) (by first | exact .inl rfl | exact .inr rfl))) (fun _ _ _ _ _ => dts_nil) (fun _ _ _ _ _ => (de_bin (m := .t) op_sub o_sub rfl rfl (de_bin (m := .f) op_sub o_sub rfl rfl (de_var (m := .f) (i := 2) rfl rfl (by first | exact .inl rfl | exact .inr (.inl rfl) | exact .inr (.inr rfl))) (de_int (m := .f))) (de_var (m := .f) (i := 5) rfl rfl (by first | exact .inl rfl | exact .inr (.inl rfl) | exact .inr (.inr rfl))))))) (dai_nil (m := .f)))) (da_nil (m := .f))))))
 dss_nil)
 dss_nil)
 (dss_cons (ds_ret (de_tup (m := .f) (da_cons (m := .f) (de_int (m := .f)) (da_cons (m := .f) (de_callTy (m := .f) call_tuple_of o_tuple rfl T.n_tuple (by decide +kernel) (by exact rfl) (dai_cons (m := .f) rfl (DF.de (m := .f) (df_lc rfl S.nd (DH.di (dh_seq (de_var (m := .t) (i := 3) rfl rfl (by first | exact .inl rfl | exact .inr (.inl rfl) | exact .inr (.inr rfl))))) (blkOk_by (own := [("a", 5), ("b", 6)]) (by kernel_rfl)) rfl rfl (fun _ _ _ _ _ => (dg_tup rfl (dgs_cons (dg_name (i := 5) rfl S.nd rfl (by first | exact .inl rfl | exact .inr rfl) (by first | exact .inl rfl | exact .inr rfl)) (dgs_cons (dg_name (i := 6) rfl S.nd rfl (by first | exact .inl rfl | exact .inr rfl) (by first | exact .inl rfl | exact .inr rfl)) dgs_nil)))) (fun _ _ _ _ _ => dts_nil) (fun _ _ _ _ _ => (de_ix (m := .t) rfl rfl (de_lst (m := .t) (da_cons (m := .t) (de_var (m := .t) (i := 5) rfl rfl (by first | exact .inl rfl | exact .inr (.inl rfl) | exact .inr (.inr rfl))) (da_cons (m := .t) (de_var (m := .t) (i := 6) rfl rfl (by first | exact .inl rfl | exact .inr (.inl rfl) | exact .inr (.inr rfl))) (da_nil (m := .t))))) (de_callTy (m := .t) call_int1 o_int rfl T.n_int (by decide +kernel) (by exact rfl) (dai_cons (m := .f) rfl (de_cmp (m := .f) (op_eqD hr.units) o_eq (de_var (m := .f) (i := 0) rfl rfl (by first | exact .inl rfl | exact .inr (.inl rfl) | exact .inr (.inr rfl))) (de_int (m := .f))) (dai_nil (m := .f)))))))) (dai_nil (m := .f)))) (da_nil (m := .f))))))
 dss_nil)))))))))))))))

theorem sc__law_operations : FnScope ["cell", "n", "d", "kinds", "found", "k", "arity", "table"] ["cell", "n"] (defScope s__law_operations) := ⟨rfl, rfl, rfl, by decide +kernel, rfl, by decide +kernel, by decide +kernel⟩
theorem c__law_operations (T : Tx K mg fl b) : Cal P w K mg base fl 5 "_law_operations" 2 F__law_operations := by
  have S := sc__law_operations
  refine T.d__law_operations.cal (k := 4) (ow := [false, false, false, false, true, false, false, false]) S rfl rfl fun f cdv A outer s H E hr => ?_
  exact (dss_cons (ds_set (i := 2) rfl S.nd rfl (by first | exact .inl rfl | exact .inr rfl) (dc (m := .t) (takes_of rfl rfl rfl rfl) (c__law_digits T) hr (by decide) rfl (by exact rfl) (da_cons (m := .t) (dc (m := .t) (takes_of rfl rfl rfl rfl) (c__law_rich T) hr (by decide) rfl (by exact rfl) (da_cons (m := .t) (de_var (m := .t) (i := 0) rfl rfl (by first | exact .inl rfl | exact .inr (.inl rfl) | exact .inr (.inr rfl))) (da_nil (m := .t)))) (da_cons (m := .t) (de_lst (m := .t) (da_cons (m := .t) (de_int (m := .t)) (da_cons (m := .t) (de_int (m := .t)) (da_cons (m := .t) (de_int (m := .t)) (da_cons (m := .t) (de_int (m := .t)) (da_cons (m := .t) (de_int (m := .t)) (da_nil (m := .t)))))))) (da_nil (m := .t))))))
 (dss_cons (ds_set (i := 3) rfl S.nd rfl (by first | exact .inl rfl | exact .inr rfl) (de_slice (m := .t) rfl (de_lst (m := .t) (da_cons (m := .t) (de_ix (m := .t) rfl rfl (de_var (m := .t) (i := 2) rfl rfl (by first | exact .inl rfl | exact .inr (.inl rfl) | exact .inr (.inr rfl))) (de_int (m := .t))) (da_cons (m := .t) (de_ix (m := .t) rfl rfl (de_var (m := .t) (i := 2) rfl rfl (by first | exact .inl rfl | exact .inr (.inl rfl) | exact .inr (.inr rfl))) (de_int (m := .t))) (da_cons (m := .t) (de_ix (m := .t) rfl rfl (de_var (m := .t) (i := 2) rfl rfl (by first | exact .inl rfl | exact .inr (.inl rfl) | exact .inr (.inr rfl))) (de_int (m := .t))) (da_nil (m := .t)))))) dp_none (dp_some (de_ix (m := .f) rfl rfl (de_var (m := .f) (i := 2) rfl rfl (by first | exact .inl rfl | exact .inr (.inl rfl) | exact .inr (.inr rfl))) (de_int (m := .f))))))
 (dss_cons (ds_if (dt_cmp (op_eqD hr.units) o_eq (de_ix (m := .f) rfl rfl (de_var (m := .f) (i := 2) rfl rfl (by first | exact .inl rfl | exact .inr (.inl rfl) | exact .inr (.inr rfl))) (de_int (m := .f))) (de_int (m := .f)))
 (dss_cons (ds_set (i := 3) rfl S.nd rfl (by first | exact .inl rfl | exact .inr rfl) (de_lst (m := .t) (da_cons (m := .t) (de_int (m := .t)) (da_cons (m := .t) (de_int (m := .t)) (da_cons (m := .t) (de_ix (m := .t) rfl rfl (de_var (m := .t) (i := 2) rfl rfl (by first | exact .inl rfl | exact .inr (.inl rfl) | exact .inr (.inr rfl))) (de_int (m := .t))) (da_nil (m := .t)))))))
 dss_nil)
 dss_nil)
 (dss_cons (ds_if (dt_cmp (op_eqD hr.units) o_eq (de_ix (m := .f) rfl rfl (de_var (m := .f) (i := 2) rfl rfl (by first | exact .inl rfl | exact .inr (.inl rfl) | exact .inr (.inr rfl))) (de_int (m := .f))) (de_int (m := .f)))
 (dss_cons (ds_set (i := 3) rfl S.nd rfl (by first | exact .inl rfl | exact .inr rfl) (de_slice (m := .t) rfl (de_lst (m := .t) (da_cons (m := .t) (de_int (m := .t)) (da_cons (m := .t) (de_ix (m := .t) rfl rfl (de_lst (m := .t) (da_cons (m := .t) (de_int (m := .t)) (da_cons (m := .t) (de_int (m := .t)) (da_cons (m := .t) (de_int (m := .t)) (da_nil (m := .t)))))) (de_bin (m := .t) op_mod o_mod rfl rfl (de_callTy (m := .f) call_int1 o_int rfl T.n_int (by decide +kernel) (by exact rfl) (dai_cons (m := .f) rfl (de_ix (m := .f) rfl rfl (de_var (m := .f) (i := 2) rfl rfl (by first | exact .inl rfl | exact .inr (.inl rfl) | exact .inr (.inr rfl))) (de_int (m := .f))) (dai_nil (m := .f)))) (de_int (m := .f)))) (da_cons (m := .t) (de_ix (m := .t) rfl rfl (de_var (m := .t) (i := 2) rfl rfl (by first | exact .inl rfl | exact .inr (.inl rfl) | exact .inr (.inr rfl))) (de_int (m := .t))) (da_nil (m := .t)))))) dp_none (dp_some (de_bin (m := .f) op_addG o_add rfl rfl (de_int (m := .f)) (de_callTy (m := .f) call_int1 o_int rfl T.n_int (by decide +kernel) (by exact rfl) (dai_cons (m := .f) rfl (de_cmp (m := .f) op_gt (o_cmp _) (de_ix (m := .f) rfl rfl (de_var (m := .f) (i := 2) rfl rfl (by first | exact .inl rfl | exact .inr (.inl rfl) | exact .inr (.inr rfl))) (de_int (m := .f))) (de_int (m := .f))) (dai_nil (m := .f))))))))
 dss_nil)
 dss_nil)
 (dss_cons (ds_setO (i := 4) rfl S.nd rfl (by first | exact .inl rfl | exact .inr rfl) (df_lst (da_nil (m := .t))))
 (dss_cons (ds_for (passes_of rfl) rfl (dh_rg1 T.n_range (by exact rfl) (de_callB (m := .f) call_len o_len rfl T.n_len (by decide +kernel) (by exact rfl) (dai_cons (m := .f) rfl (de_var (m := .f) (i := 3) rfl rfl (by first | exact .inl rfl | exact .inr (.inl rfl) | exact .inr (.inr rfl))) (dai_nil (m := .f))))) (dg_name (i := 5) rfl S.nd rfl (by first | exact .inl rfl | exact .inr rfl) (by first | exact .inl rfl | exact .inr rfl))
 (dss_cons (ds_asg (dc (m := .t) (takes_of rfl rfl rfl rfl) (c__law_table T) hr (by decide) rfl (by exact rfl) (da_cons (m := .t) (de_ix (m := .t) rfl rfl (de_var (m := .t) (i := 3) rfl rfl (by first | exact .inl rfl | exact .inr (.inl rfl) | exact .inr (.inr rfl))) (de_var (m := .t) (i := 5) rfl rfl (by first | exact .inl rfl | exact .inr (.inl rfl) | exact .inr (.inr rfl)))) (da_cons (m := .t) (de_bin (m := .t) op_addG o_add rfl rfl (de_bin (m := .t) op_fdiv o_fdiv rfl rfl (de_var (m := .f) (i := 0) rfl rfl (by first | exact .inl rfl | exact .inr (.inl rfl) | exact .inr (.inr rfl))) (de_int (m := .f))) (de_bin (m := .t) op_mulG o_mul rfl rfl (de_int (m := .t)) (de_var (m := .t) (i := 5) rfl rfl (by first | exact .inl rfl | exact .inr (.inl rfl) | exact .inr (.inr rfl))))) (da_cons (m := .t) (de_var (m := .t) (i := 1) rfl rfl (by first | exact .inl rfl | exact .inr (.inl rfl) | exact .inr (.inr rfl))) (da_nil (m := .t)))))) (dg_tup rfl (dgs_cons (dg_name (i := 6) rfl S.nd rfl (by first | exact .inl rfl | exact .inr rfl) (by first | exact .inl rfl | exact .inr rfl)) (dgs_cons (dg_name (i := 7) rfl S.nd rfl (by first | exact .inl rfl | exact .inr rfl) (by first | exact .inl rfl | exact .inr rfl)) dgs_nil))))
 (dss_cons (ds_append (i := 4) rfl rfl (by first | exact .inl rfl | exact .inr (.inl rfl) | exact .inr (.inr rfl)) (de_tup (m := .t) (da_cons (m := .t) (de_ix (m := .t) rfl rfl (de_lst (m := .t) (da_cons (m := .t) (de_str (m := .t)) (da_cons (m := .t) (de_str (m := .t)) (da_cons (m := .t) (de_str (m := .t)) (da_nil (m := .t)))))) (de_var (m := .t) (i := 5) rfl rfl (by first | exact .inl rfl | exact .inr (.inl rfl) | exact .inr (.inr rfl)))) (da_cons (m := .t) (de_var (m := .t) (i := 6) rfl rfl (by first | exact .inl rfl | exact .inr (.inl rfl) | exact .inr (.inr rfl))) (da_cons (m := .t) (de_var (m := .t) (i := 7) rfl rfl (by first | exact .inl rfl | exact .inr (.inl rfl) | exact .inr (.inr rfl))) (da_nil (m := .t)))))))
 dss_nil)))
 (dss_cons (ds_ret (de_callTy (m := .f) call_tuple_of o_tuple rfl T.n_tuple (by decide +kernel) (by exact rfl) (dai_cons (m := .f) rfl (de_own (m := .f) (i := 4) rfl rfl rfl (by first | exact .inl rfl | exact .inr (.inl rfl) | exact .inr (.inr rfl))) (dai_nil (m := .f)))))
 dss_nil)))))))

theorem sc__law_joined : FnScope ["n", "operations", "pairs", "classes", "waiting", "step", "low", "high", "operation", "k", "a", "b", "told", "c"] ["n", "operations", "pairs"] (defScope s__law_joined) := ⟨rfl, rfl, rfl, by decide +kernel, rfl, by decide +kernel, by decide +kernel⟩
theorem c__law_joined (T : Tx K mg fl b) : Cal P w K mg base fl 2 "_law_joined" 3 F__law_joined := by
  have S := sc__law_joined
  refine T.d__law_joined.cal (k := 1) (ow := [false, false, false, false, true, false, false, false, false, false, false, false, false, false]) S rfl rfl fun f cdv A outer s H E hr => ?_
  exact (dss_cons (ds_setLc (i := 3) rfl S.nd rfl rfl (sw_true rfl rfl rfl (by decide +kernel)) (DH.di (dh_rg1 T.n_range (by exact rfl) (de_var (m := .f) (i := 0) rfl rfl (by first | exact .inl rfl | exact .inr (.inl rfl) | exact .inr (.inr rfl))))) (blkOk_by (own := [("k", 9)]) (by kernel_rfl)) rfl rfl (fun _ _ _ _ _ => (dg_name (i := 9) rfl S.nd rfl (by first | exact .inl rfl | exact .inr rfl) (by first | exact .inl rfl | exact .inr rfl))) (fun _ _ _ _ _ => dts_nil) (fun _ _ _ _ _ => (de_var (m := .t) (i := 9) rfl rfl (by first | exact .inl rfl | exact .inr (.inl rfl) | exact .inr (.inr rfl)))))
 (dss_cons (ds_setO (i := 4) rfl S.nd rfl (by first | exact .inl rfl | exact .inr rfl) (df_callTy call_list_of o_listF T.n_list (by decide +kernel) (by exact rfl) (dai_cons (m := .t) rfl (de_var (m := .t) (i := 2) rfl rfl (by first | exact .inl rfl | exact .inr (.inl rfl) | exact .inr (.inr rfl))) (dai_nil (m := .t)))))
 (dss_cons (ds_for (passes_of rfl) rfl (dh_rg1 T.n_range (by exact rfl) (de_int (m := .f))) (dg_name (i := 5) rfl S.nd rfl (by first | exact .inl rfl | exact .inr rfl) (by first | exact .inl rfl | exact .inr rfl))
 (dss_cons (ds_if (dt_cmp (op_eqD hr.units) o_eq (de_own (m := .f) (i := 4) rfl rfl rfl (by first | exact .inl rfl | exact .inr (.inl rfl) | exact .inr (.inr rfl))) (de_lst (m := .f) (da_nil (m := .f))))
 (dss_cons ds_break
 dss_nil)
 dss_nil)
 (dss_cons (ds_pop (i := 4) rfl rfl (by first | exact .inl rfl | exact .inr (.inl rfl) | exact .inr (.inr rfl)) (dg_tup rfl (dgs_cons (dg_name (i := 10) rfl S.nd rfl (by first | exact .inl rfl | exact .inr rfl) (by first | exact .inl rfl | exact .inr rfl)) (dgs_cons (dg_name (i := 11) rfl S.nd rfl (by first | exact .inl rfl | exact .inr rfl) (by first | exact .inl rfl | exact .inr rfl)) dgs_nil))))
 (dss_cons (ds_set (i := 6) rfl S.nd rfl (by first | exact .inl rfl | exact .inr rfl) (de_callB (m := .t) (call_min2 rfl) o_min2 rfl T.n_min (by decide +kernel) (by exact rfl) (dai_cons (m := .f) rfl (de_ix (m := .f) rfl rfl (de_var (m := .f) (i := 3) rfl rfl (by first | exact .inl rfl | exact .inr (.inl rfl) | exact .inr (.inr rfl))) (de_var (m := .f) (i := 10) rfl rfl (by first | exact .inl rfl | exact .inr (.inl rfl) | exact .inr (.inr rfl)))) (dai_cons (m := .f) rfl (de_ix (m := .f) rfl rfl (de_var (m := .f) (i := 3) rfl rfl (by first | exact .inl rfl | exact .inr (.inl rfl) | exact .inr (.inr rfl))) (de_var (m := .f) (i := 11) rfl rfl (by first | exact .inl rfl | exact .inr (.inl rfl) | exact .inr (.inr rfl)))) (dai_nil (m := .f))))))
 (dss_cons (ds_set (i := 7) rfl S.nd rfl (by first | exact .inl rfl | exact .inr rfl) (de_callB (m := .t) (call_max2 rfl) o_max2 rfl T.n_max (by decide +kernel) (by exact rfl) (dai_cons (m := .f) rfl (de_ix (m := .f) rfl rfl (de_var (m := .f) (i := 3) rfl rfl (by first | exact .inl rfl | exact .inr (.inl rfl) | exact .inr (.inr rfl))) (de_var (m := .f) (i := 10) rfl rfl (by first | exact .inl rfl | exact .inr (.inl rfl) | exact .inr (.inr rfl)))) (dai_cons (m := .f) rfl (de_ix (m := .f) rfl rfl (de_var (m := .f) (i := 3) rfl rfl (by first | exact .inl rfl | exact .inr (.inl rfl) | exact .inr (.inr rfl))) (de_var (m := .f) (i := 11) rfl rfl (by first | exact .inl rfl | exact .inr (.inl rfl) | exact .inr (.inr rfl)))) (dai_nil (m := .f))))))
 (dss_cons (ds_if (dt_cmp (op_eqD hr.units) o_eq (de_var (m := .f) (i := 6) rfl rfl (by first | exact .inl rfl | exact .inr (.inl rfl) | exact .inr (.inr rfl))) (de_var (m := .f) (i := 7) rfl rfl (by first | exact .inl rfl | exact .inr (.inl rfl) | exact .inr (.inr rfl))))
 (dss_cons ds_continue
 dss_nil)
 dss_nil)
 (dss_cons (ds_setLc (i := 3) rfl S.nd rfl rfl (sw_true rfl rfl rfl (by decide +kernel)) (DH.di (dh_seq (de_var (m := .t) (i := 3) rfl rfl (by first | exact .inl rfl | exact .inr (.inl rfl) | exact .inr (.inr rfl))))) (blkOk_by (own := [("told", 12)]) (by kernel_rfl)) rfl rfl (fun _ _ _ _ _ => (dg_name (i := 12) rfl S.nd rfl (by first | exact .inl rfl | exact .inr rfl) (by first | exact .inl rfl | exact .inr rfl))) (fun _ _ _ _ _ => dts_nil) (fun _ _ _ _ _ => (de_ix (m := .t) rfl rfl (de_lst (m := .t) (da_cons (m := .t) (de_var (m := .t) (i := 12) rfl rfl (by first | exact .inl rfl | exact .inr (.inl rfl) | exact .inr (.inr rfl))) (da_cons (m := .t) (de_var (m := .t) (i := 6) rfl rfl (by first | exact .inl rfl | exact .inr (.inl rfl) | exact .inr (.inr rfl))) (da_nil (m := .t))))) (de_callTy (m := .t) call_int1 o_int rfl T.n_int (by decide +kernel) (by exact rfl) (dai_cons (m := .f) rfl (de_cmp (m := .f) (op_eqD hr.units) o_eq (de_var (m := .f) (i := 12) rfl rfl (by first | exact .inl rfl | exact .inr (.inl rfl) | exact .inr (.inr rfl))) (de_var (m := .f) (i := 7) rfl rfl (by first | exact .inl rfl | exact .inr (.inl rfl) | exact .inr (.inr rfl)))) (dai_nil (m := .f)))))))
 (dss_cons (ds_for (passes_of rfl) rfl (dh_seq (de_var (m := .t) (i := 1) rfl rfl (by first | exact .inl rfl | exact .inr (.inl rfl) | exact .inr (.inr rfl)))) (dg_name (i := 8) rfl S.nd rfl (by first | exact .inl rfl | exact .inr rfl) (by first | exact .inl rfl | exact .inr rfl))
 (dss_cons (ds_if (dt_cmp (op_eqD hr.units) o_eq (de_ix (m := .f) rfl rfl (de_var (m := .f) (i := 8) rfl rfl (by first | exact .inl rfl | exact .inr (.inl rfl) | exact .inr (.inr rfl))) (de_int (m := .f))) (de_int (m := .f)))
 (dss_cons (ds_append (i := 4) rfl rfl (by first | exact .inl rfl | exact .inr (.inl rfl) | exact .inr (.inr rfl)) (de_tup (m := .t) (da_cons (m := .t) (de_ix (m := .t) rfl rfl (de_ix (m := .t) rfl rfl (de_var (m := .t) (i := 8) rfl rfl (by first | exact .inl rfl | exact .inr (.inl rfl) | exact .inr (.inr rfl))) (de_int (m := .t))) (de_var (m := .t) (i := 10) rfl rfl (by first | exact .inl rfl | exact .inr (.inl rfl) | exact .inr (.inr rfl)))) (da_cons (m := .t) (de_ix (m := .t) rfl rfl (de_ix (m := .t) rfl rfl (de_var (m := .t) (i := 8) rfl rfl (by first | exact .inl rfl | exact .inr (.inl rfl) | exact .inr (.inr rfl))) (de_int (m := .t))) (de_var (m := .t) (i := 11) rfl rfl (by first | exact .inl rfl | exact .inr (.inl rfl) | exact .inr (.inr rfl)))) (da_nil (m := .t))))))
 dss_nil)
 dss_nil)
 (dss_cons (ds_if (dt_cmp (op_eqD hr.units) o_eq (de_ix (m := .f) rfl rfl (de_var (m := .f) (i := 8) rfl rfl (by first | exact .inl rfl | exact .inr (.inl rfl) | exact .inr (.inr rfl))) (de_int (m := .f))) (de_int (m := .f)))
 (dss_cons (ds_for (passes_of rfl) rfl (dh_rg1 T.n_range (by exact rfl) (de_var (m := .f) (i := 0) rfl rfl (by first | exact .inl rfl | exact .inr (.inl rfl) | exact .inr (.inr rfl)))) (dg_name (i := 13) rfl S.nd rfl (by first | exact .inl rfl | exact .inr rfl) (by first | exact .inl rfl | exact .inr rfl))
 (dss_cons (ds_append (i := 4) rfl rfl (by first | exact .inl rfl | exact .inr (.inl rfl) | exact .inr (.inr rfl)) (de_tup (m := .t) (da_cons (m := .t) (de_ix (m := .t) rfl rfl (de_ix (m := .t) rfl rfl (de_var (m := .t) (i := 8) rfl rfl (by first | exact .inl rfl | exact .inr (.inl rfl) | exact .inr (.inr rfl))) (de_int (m := .t))) (de_bin (m := .t) op_addG o_add rfl rfl (de_bin (m := .t) op_mulG o_mul rfl rfl (de_var (m := .t) (i := 10) rfl rfl (by first | exact .inl rfl | exact .inr (.inl rfl) | exact .inr (.inr rfl))) (de_var (m := .t) (i := 0) rfl rfl (by first | exact .inl rfl | exact .inr (.inl rfl) | exact .inr (.inr rfl)))) (de_var (m := .t) (i := 13) rfl rfl (by first | exact .inl rfl | exact .inr (.inl rfl) | exact .inr (.inr rfl))))) (da_cons (m := .t) (de_ix (m := .t) rfl rfl (de_ix (m := .t) rfl rfl (de_var (m := .t) (i := 8) rfl rfl (by first | exact .inl rfl | exact .inr (.inl rfl) | exact .inr (.inr rfl))) (de_int (m := .t))) (de_bin (m := .t) op_addG o_add rfl rfl (de_bin (m := .t) op_mulG o_mul rfl rfl (de_var (m := .t) (i := 11) rfl rfl (by first | exact .inl rfl | exact .inr (.inl rfl) | exact .inr (.inr rfl))) (de_var (m := .t) (i := 0) rfl rfl (by first | exact .inl rfl | exact .inr (.inl rfl) | exact .inr (.inr rfl)))) (de_var (m := .t) (i := 13) rfl rfl (by first | exact .inl rfl | exact .inr (.inl rfl) | exact .inr (.inr rfl))))) (da_nil (m := .t))))))
 (dss_cons (ds_append (i := 4) rfl rfl (by first | exact .inl rfl | exact .inr (.inl rfl) | exact .inr (.inr rfl)) (de_tup (m := .t) (da_cons (m := .t) (de_ix (m := .t) rfl rfl (de_ix (m := .t) rfl rfl (de_var (m := .t) (i := 8) rfl rfl (by first | exact .inl rfl | exact .inr (.inl rfl) | exact .inr (.inr rfl))) (de_int (m := .t))) (de_bin (m := .t) op_addG o_add rfl rfl (de_bin (m := .t) op_mulG o_mul rfl rfl (de_var (m := .t) (i := 13) rfl rfl (by first | exact .inl rfl | exact .inr (.inl rfl) | exact .inr (.inr rfl))) (de_var (m := .t) (i := 0) rfl rfl (by first | exact .inl rfl | exact .inr (.inl rfl) | exact .inr (.inr rfl)))) (de_var (m := .t) (i := 10) rfl rfl (by first | exact .inl rfl | exact .inr (.inl rfl) | exact .inr (.inr rfl))))) (da_cons (m := .t) (de_ix (m := .t) rfl rfl (de_ix (m := .t) rfl rfl (de_var (m := .t) (i := 8) rfl rfl (by first | exact .inl rfl | exact .inr (.inl rfl) | exact .inr (.inr rfl))) (de_int (m := .t))) (de_bin (m := .t) op_addG o_add rfl rfl (de_bin (m := .t) op_mulG o_mul rfl rfl (de_var (m := .t) (i := 13) rfl rfl (by first | exact .inl rfl | exact .inr (.inl rfl) | exact .inr (.inr rfl))) (de_var (m := .t) (i := 0) rfl rfl (by first | exact .inl rfl | exact .inr (.inl rfl) | exact .inr (.inr rfl)))) (de_var (m := .t) (i := 11) rfl rfl (by first | exact .inl rfl | exact .inr (.inl rfl) | exact .inr (.inr rfl))))) (da_nil (m := .t))))))
 dss_nil)))
 dss_nil)
 dss_nil)
 dss_nil)))
 dss_nil))))))))
 (dss_cons (ds_ret (de_callTy (m := .f) call_tuple_of o_tuple rfl T.n_tuple (by decide +kernel) (by exact rfl) (dai_cons (m := .f) rfl (de_var (m := .f) (i := 3) rfl rfl (by first | exact .inl rfl | exact .inr (.inl rfl) | exact .inr (.inr rfl))) (dai_nil (m := .f)))))
 dss_nil))))

theorem sc__law_exchange : FnScope ["one", "other", "n", "there", "back", "a", "c", "b"] ["one", "other"] (defScope s__law_exchange) := ⟨rfl, rfl, rfl, by decide +kernel, rfl, by decide +kernel, by decide +kernel⟩
theorem c__law_exchange (T : Tx K mg fl b) : Cal P w K mg base fl 3 "_law_exchange" 2 F__law_exchange := by
  have S := sc__law_exchange
  refine T.d__law_exchange.cal (k := 2) (ow := [false, false, false, false, false, false, false, false]) S rfl rfl fun f cdv A outer s H E hr => ?_
  exact (dss_cons (ds_set (i := 2) rfl S.nd rfl (by first | exact .inl rfl | exact .inr rfl) (de_callB (m := .t) call_len o_len rfl T.n_len (by decide +kernel) (by exact rfl) (dai_cons (m := .f) rfl (de_var (m := .f) (i := 0) rfl rfl (by first | exact .inl rfl | exact .inr (.inl rfl) | exact .inr (.inr rfl))) (dai_nil (m := .f)))))
 (dss_cons (ds_setLc (i := 3) rfl S.nd rfl rfl (sw_true rfl rfl rfl (by decide +kernel)) (DH.di (dh_seq (dc (m := .t) (takes_of rfl rfl rfl rfl) (c__law_tuples T) hr (by decide) rfl (by exact rfl) (da_cons (m := .t) (de_var (m := .t) (i := 2) rfl rfl (by first | exact .inl rfl | exact .inr (.inl rfl) | exact .inr (.inr rfl))) (da_cons (m := .t) (de_int (m := .t)) (da_nil (m := .t))))))) (blkOk_by (own := [("a", 5), ("c", 6)]) (by kernel_rfl)) rfl rfl (fun _ _ _ _ _ => (dg_tup rfl (dgs_cons (dg_name (i := 5) rfl S.nd rfl (by first | exact .inl rfl | exact .inr rfl) (by first | exact .inl rfl | exact .inr rfl)) (dgs_cons (dg_name (i := 6) rfl S.nd rfl (by first | exact .inl rfl | exact .inr rfl) (by first | exact .inl rfl | exact .inr rfl)) dgs_nil)))) (fun _ _ _ _ _ => (dts_one (W := W0) (dt_cmp (op_neD hr.units) o_ne (DF.de (m := .f) (df_lc rfl S.nd (DH.di (dh_rg1 T.n_range (by exact rfl) (de_var (m := .f) (i := 2) rfl rfl (by first | exact .inl rfl | exact .inr (.inl rfl) | exact .inr (.inr rfl))))) (blkOk_by (own := [("b", 7)]) (by kernel_rfl)) rfl rfl (fun _ _ _ _ _ => (dg_name (i := 7) rfl S.nd rfl (by first | exact .inl rfl | exact .inr rfl) (by first | exact .inl rfl | exact .inr rfl))) (fun _ _ _ _ _ => (dts_one (W := W0) (DW.dt (dw_and (dt_cmp (op_eqD hr.units) o_eq (de_ix (m := .f) rfl rfl (de_var (m := .f) (i := 0) rfl rfl (by first | exact .inl rfl | exact .inr (.inl rfl) | exact .inr (.inr rfl))) (de_var (m := .f) (i := 5) rfl rfl (by first | exact .inl rfl | exact .inr (.inl rfl) | exact .inr (.inr rfl)))) (de_ix (m := .f) rfl rfl (de_var (m := .f) (i := 0) rfl rfl (by first | exact .inl rfl | exact .inr (.inl rfl) | exact .inr (.inr rfl))) (de_var (m := .f) (i := 7) rfl rfl (by first | exact .inl rfl | exact .inr (.inl rfl) | exact .inr (.inr rfl))))) (dw_and1 (dt_cmp (op_eqD hr.units) o_eq (de_ix (m := .f) rfl rfl (de_var (m := .f) (i := 1) rfl rfl (by first | exact .inl rfl | exact .inr (.inl rfl) | exact .inr (.inr rfl))) (de_var (m := .f) (i := 7) rfl rfl (by first | exact .inl rfl | exact .inr (.inl rfl) | exact .inr (.inr rfl)))) (de_ix (m := .f) rfl rfl (de_var (m := .f) (i := 1) rfl rfl (by first | exact .inl rfl | exact .inr (.inl rfl) | exact .inr (.inr rfl))) (de_var (m := .f) (i := 6) rfl rfl (by first | exact .inl rfl | exact .inr (.inl rfl) | exact .inr (.inr rfl)))))))))) (fun _ _ _ _ _ => (de_var (m := .t) (i := 7) rfl rfl (by first | exact .inl rfl | exact .inr (.inl rfl) | exact .inr (.inr rfl)))))) (de_lst (m := .f) (da_nil (m := .f)))))) (fun _ _ _ _ _ => (de_tup (m := .t) (da_cons (m := .t) (de_var (m := .t) (i := 5) rfl rfl (by first | exact .inl rfl | exact .inr (.inl rfl) | exact .inr (.inr rfl))) (da_cons (m := .t) (de_var (m := .t) (i := 6) rfl rfl (by first | exact .inl rfl | exact .inr (.inl rfl) | exact .inr (.inr rfl))) (da_nil (m := .t)))))))
 (dss_cons (ds_setLc (i := 4) rfl S.nd rfl rfl (sw_true rfl rfl rfl (by decide +kernel)) (DH.di (dh_seq (dc (m := .t) (takes_of rfl rfl rfl rfl) (c__law_tuples T) hr (by decide) rfl (by exact rfl) (da_cons (m := .t) (de_var (m := .t) (i := 2) rfl rfl (by first | exact .inl rfl | exact .inr (.inl rfl) | exact .inr (.inr rfl))) (da_cons (m := .t) (de_int (m := .t)) (da_nil (m := .t))))))) (blkOk_by (own := [("a", 5), ("c", 6)]) (by kernel_rfl)) rfl rfl (fun _ _ _ _ _ => (dg_tup rfl (dgs_cons (dg_name (i := 5) rfl S.nd rfl (by first | exact .inl rfl | exact .inr rfl) (by first | exact .inl rfl | exact .inr rfl)) (dgs_cons (dg_name (i := 6) rfl S.nd rfl (by first | exact .inl rfl | exact .inr rfl) (by first | exact .inl rfl | exact .inr rfl)) dgs_nil)))) (fun _ _ _ _ _ => (dts_one (W := W0) (dt_cmp (op_neD hr.units) o_ne (DF.de (m := .f) (df_lc rfl S.nd (DH.di (dh_rg1 T.n_range (by exact rfl) (de_var (m := .f) (i := 2) rfl rfl (by first | exact .inl rfl | exact .inr (.inl rfl) | exact .inr (.inr rfl))))) (blkOk_by (own := [("b", 7)]) (by kernel_rfl)) rfl rfl (fun _ _ _ _ _ => (dg_name (i := 7) rfl S.nd rfl (by first | exact .inl rfl | exact .inr rfl) (by first | exact .inl rfl | exact .inr rfl))) (fun _ _ _ _ _ => (dts_one (W := W0) (DW.dt (dw_and (dt_cmp (op_eqD hr.units) o_eq (de_ix (m := .f) rfl rfl (de_var (m := .f) (i := 1) rfl rfl (by first | exact .inl rfl | exact .inr (.inl rfl) | exact .inr (.inr rfl))) (de_var (m := .f) (i := 5) rfl rfl (by first | exact .inl rfl | exact .inr (.inl rfl) | exact .inr (.inr rfl)))) (de_ix (m := .f) rfl rfl (de_var (m := .f) (i := 1) rfl rfl (by first | exact .inl rfl | exact .inr (.inl rfl) | exact .inr (.inr rfl))) (de_var (m := .f) (i := 7) rfl rfl (by first | exact .inl rfl | exact .inr (.inl rfl) | exact .inr (.inr rfl))))) (dw_and1 (dt_cmp (op_eqD hr.units) o_eq (de_ix (m := .f) rfl rfl (de_var (m := .f) (i := 0) rfl rfl (by first | exact .inl rfl | exact .inr (.inl rfl) | exact .inr (.inr rfl))) (de_var (m := .f) (i := 7) rfl rfl (by first | exact .inl rfl | exact .inr (.inl rfl) | exact .inr (.inr rfl)))) (de_ix (m := .f) rfl rfl (de_var (m := .f) (i := 0) rfl rfl (by first | exact .inl rfl | exact .inr (.inl rfl) | exact .inr (.inr rfl))) (de_var (m := .f) (i := 6) rfl rfl (by first | exact .inl rfl | exact .inr (.inl rfl) | exact .inr (.inr rfl)))))))))) (fun _ _ _ _ _ => (de_var (m := .t) (i := 7) rfl rfl (by first | exact .inl rfl | exact .inr (.inl rfl) | exact .inr (.inr rfl)))))) (de_lst (m := .f) (da_nil (m := .f)))))) (fun _ _ _ _ _ => (de_tup (m := .t) (da_cons (m := .t) (de_var (m := .t) (i := 5) rfl rfl (by first | exact .inl rfl | exact .inr (.inl rfl) | exact .inr (.inr rfl))) (da_cons (m := .t) (de_var (m := .t) (i := 6) rfl rfl (by first | exact .inl rfl | exact .inr (.inl rfl) | exact .inr (.inr rfl))) (da_nil (m := .t)))))))
 (dss_cons (ds_ret (de_cmp (m := .f) (op_eqD hr.units) o_eq (de_var (m := .f) (i := 3) rfl rfl (by first | exact .inl rfl | exact .inr (.inl rfl) | exact .inr (.inr rfl))) (de_var (m := .f) (i := 4) rfl rfl (by first | exact .inl rfl | exact .inr (.inl rfl) | exact .inr (.inr rfl)))))
 dss_nil))))

theorem sc__law_is_bool : FnScope ["told", "due"] ["told", "due"] (defScope s__law_is_bool) := ⟨rfl, rfl, rfl, by decide +kernel, rfl, by decide +kernel, by decide +kernel⟩
theorem c__law_is_bool (T : Tx K mg fl b) : Cal P w K mg base fl 2 "_law_is_bool" 2 F__law_is_bool := by
  have S := sc__law_is_bool
  refine T.d__law_is_bool.cal (k := 1) (ow := [false, false]) S rfl rfl fun f cdv A outer s H E hr => ?_
  exact (dss_cons (ds_ret (de_and (m := .f) (de_isi (m := .f) (T := "bool") T.n_isinstance (by exact rfl) T.n_bool (by exact rfl) (by decide +kernel) (de_var (m := .f) (i := 0) rfl rfl (by first | exact .inl rfl | exact .inr (.inl rfl) | exact .inr (.inr rfl)))) (de_one (m := .f) (de_cmp (m := .f) (op_eqD hr.units) o_eq (de_var (m := .f) (i := 0) rfl rfl (by first | exact .inl rfl | exact .inr (.inl rfl) | exact .inr (.inr rfl))) (de_var (m := .f) (i := 1) rfl rfl (by first | exact .inl rfl | exact .inr (.inl rfl) | exact .inr (.inr rfl)))))))
 dss_nil)

theorem sc_law : FnScope ["script", "d", "n", "operations", "algebra", "drawn", "one", "other", "due", "rows", "k"] ["script"] (defScope s_law) := ⟨rfl, rfl, rfl, by decide +kernel, rfl, by decide +kernel, by decide +kernel⟩
theorem c_law (T : Tx K mg fl true) : CalAt P w K mg base fl 9 "law" s_law 1 F_law := by
  have S := sc_law
  refine T.d_law.calAt (k := 8) (ow := [false, false, false, false, false, false, false, false, false, false, false]) S rfl rfl fun f cdv A outer s H E hr => ?_
  exact (dss_cons (ds_set (i := 1) rfl S.nd rfl (by first | exact .inl rfl | exact .inr rfl) (dc (m := .t) (takes_of rfl rfl rfl rfl) (c__law_digits T) hr (by decide) rfl (by exact rfl) (da_cons (m := .t) (dc (m := .t) (takes_of rfl rfl rfl rfl) (c__law_rich T) hr (by decide) rfl (by exact rfl) (da_cons (m := .t) (dc (m := .t) (takes_of rfl rfl rfl rfl) (c__law_cell T) hr (by decide) rfl (by exact rfl) (da_cons (m := .t) (de_var (m := .t) (i := 0) rfl rfl (by first | exact .inl rfl | exact .inr (.inl rfl) | exact .inr (.inr rfl))) (da_cons (m := .t) (de_int (m := .t)) (da_nil (m := .t))))) (da_nil (m := .t)))) (da_cons (m := .t) (de_lst (m := .t) (da_cons (m := .t) (de_int (m := .t)) (da_cons (m := .t) (de_int (m := .t)) (da_cons (m := .t) (de_int (m := .t)) (da_cons (m := .t) (de_int (m := .t)) (da_nil (m := .t))))))) (da_nil (m := .t))))))
 (dss_cons (ds_set (i := 2) rfl S.nd rfl (by first | exact .inl rfl | exact .inr rfl) (de_bin (m := .t) op_addG o_add rfl rfl (de_int (m := .t)) (de_ix (m := .t) rfl rfl (de_var (m := .t) (i := 1) rfl rfl (by first | exact .inl rfl | exact .inr (.inl rfl) | exact .inr (.inr rfl))) (de_int (m := .t)))))
 (dss_cons (ds_set (i := 3) rfl S.nd rfl (by first | exact .inl rfl | exact .inr rfl) (dc (m := .t) (takes_of rfl rfl rfl rfl) (c__law_operations T) hr (by decide) rfl (by exact rfl) (da_cons (m := .t) (dc (m := .t) (takes_of rfl rfl rfl rfl) (c__law_cell T) hr (by decide) rfl (by exact rfl) (da_cons (m := .t) (de_var (m := .t) (i := 0) rfl rfl (by first | exact .inl rfl | exact .inr (.inl rfl) | exact .inr (.inr rfl))) (da_cons (m := .t) (de_int (m := .t)) (da_nil (m := .t))))) (da_cons (m := .t) (de_var (m := .t) (i := 2) rfl rfl (by first | exact .inl rfl | exact .inr (.inl rfl) | exact .inr (.inr rfl))) (da_nil (m := .t))))))
 (dss_cons (ds_set (i := 4) rfl S.nd rfl (by first | exact .inl rfl | exact .inr rfl) (dc_mk (m := .t) (takes_of rfl rfl rfl rfl) (c_Algebra___init__ T) hr (by decide) rfl (by exact rfl) (da_cons (m := .t) (de_var (m := .t) (i := 2) rfl rfl (by first | exact .inl rfl | exact .inr (.inl rfl) | exact .inr (.inr rfl))) (da_cons (m := .t) (de_var (m := .t) (i := 3) rfl rfl (by first | exact .inl rfl | exact .inr (.inl rfl) | exact .inr (.inr rfl))) (da_nil (m := .t))))))
 (dss_cons (ds_set (i := 5) rfl S.nd rfl (by first | exact .inl rfl | exact .inr rfl) (dc (m := .t) (takes_of rfl rfl rfl rfl) (c__law_draws T) hr (by decide) rfl (by exact rfl) (da_cons (m := .t) (dc (m := .t) (takes_of rfl rfl rfl rfl) (c__law_cell T) hr (by decide) rfl (by exact rfl) (da_cons (m := .t) (de_var (m := .t) (i := 0) rfl rfl (by first | exact .inl rfl | exact .inr (.inl rfl) | exact .inr (.inr rfl))) (da_cons (m := .t) (de_int (m := .t)) (da_nil (m := .t))))) (da_cons (m := .t) (de_var (m := .t) (i := 2) rfl rfl (by first | exact .inl rfl | exact .inr (.inl rfl) | exact .inr (.inr rfl))) (da_cons (m := .t) (de_int (m := .t)) (da_nil (m := .t)))))))
 (dss_cons (ds_set (i := 6) rfl S.nd rfl (by first | exact .inl rfl | exact .inr rfl) (dc (m := .t) (takes_of rfl rfl rfl rfl) (c__law_joined T) hr (by decide) rfl (by exact rfl) (da_cons (m := .t) (de_var (m := .t) (i := 2) rfl rfl (by first | exact .inl rfl | exact .inr (.inl rfl) | exact .inr (.inr rfl))) (da_cons (m := .t) (de_var (m := .t) (i := 3) rfl rfl (by first | exact .inl rfl | exact .inr (.inl rfl) | exact .inr (.inr rfl))) (da_cons (m := .t) (DF.de (m := .t) (df_lc rfl S.nd (DH.di (dh_rg1 T.n_range (by exact rfl) (de_ix (m := .f) rfl rfl (de_var (m := .f) (i := 1) rfl rfl (by first | exact .inl rfl | exact .inr (.inl rfl) | exact .inr (.inr rfl))) (de_int (m := .f))))) (blkOk_by (own := [("k", 10)]) (by kernel_rfl)) rfl rfl (fun _ _ _ _ _ => (dg_name (i := 10) rfl S.nd rfl (by first | exact .inl rfl | exact .inr rfl) (by first | exact .inl rfl | exact .inr rfl))) (fun _ _ _ _ _ => dts_nil) (fun _ _ _ _ _ => (de_tup (m := .t) (da_cons (m := .t) (de_ix (m := .t) rfl rfl (de_var (m := .t) (i := 5) rfl rfl (by first | exact .inl rfl | exact .inr (.inl rfl) | exact .inr (.inr rfl))) (de_bin (m := .t) op_mulG o_mul rfl rfl (de_int (m := .t)) (de_var (m := .t) (i := 10) rfl rfl (by first | exact .inl rfl | exact .inr (.inl rfl) | exact .inr (.inr rfl))))) (da_cons (m := .t) (de_ix (m := .t) rfl rfl (de_var (m := .t) (i := 5) rfl rfl (by first | exact .inl rfl | exact .inr (.inl rfl) | exact .inr (.inr rfl))) (de_bin (m := .t) op_addG o_add rfl rfl (de_bin (m := .t) op_mulG o_mul rfl rfl (de_int (m := .t)) (de_var (m := .t) (i := 10) rfl rfl (by first | exact .inl rfl | exact .inr (.inl rfl) | exact .inr (.inr rfl)))) (de_int (m := .t)))) (da_nil (m := .t)))))))) (da_nil (m := .t)))))))
 (dss_cons (ds_set (i := 7) rfl S.nd rfl (by first | exact .inl rfl | exact .inr rfl) (dc (m := .t) (takes_of rfl rfl rfl rfl) (c__law_joined T) hr (by decide) rfl (by exact rfl) (da_cons (m := .t) (de_var (m := .t) (i := 2) rfl rfl (by first | exact .inl rfl | exact .inr (.inl rfl) | exact .inr (.inr rfl))) (da_cons (m := .t) (de_var (m := .t) (i := 3) rfl rfl (by first | exact .inl rfl | exact .inr (.inl rfl) | exact .inr (.inr rfl))) (da_cons (m := .t) (DF.de (m := .t) (df_lc rfl S.nd (DH.di (dh_rg1 T.n_range (by exact rfl) (de_ix (m := .f) rfl rfl (de_var (m := .f) (i := 1) rfl rfl (by first | exact .inl rfl | exact .inr (.inl rfl) | exact .inr (.inr rfl))) (de_int (m := .f))))) (blkOk_by (own := [("k", 10)]) (by kernel_rfl)) rfl rfl (fun _ _ _ _ _ => (dg_name (i := 10) rfl S.nd rfl (by first | exact .inl rfl | exact .inr rfl) (by first | exact .inl rfl | exact .inr rfl))) (fun _ _ _ _ _ => dts_nil) (fun _ _ _ _ _ => (de_tup (m := .t) (da_cons (m := .t) (de_ix (m := .t) rfl rfl (de_var (m := .t) (i := 5) rfl rfl (by first | exact .inl rfl | exact .inr (.inl rfl) | exact .inr (.inr rfl))) (de_bin (m := .t) op_addG o_add rfl rfl (de_bin (m := .t) op_mulG o_mul rfl rfl (de_int (m := .t)) (de_var (m := .t) (i := 10) rfl rfl (by first | exact .inl rfl | exact .inr (.inl rfl) | exact .inr (.inr rfl)))) (de_int (m := .t)))) (da_cons (m := .t) (de_ix (m := .t) rfl rfl (de_var (m := .t) (i := 5) rfl rfl (by first | exact .inl rfl | exact .inr (.inl rfl) | exact .inr (.inr rfl))) (de_bin (m := .t) op_addG o_add rfl rfl (de_bin (m := .t) op_mulG o_mul rfl rfl (de_int (m := .t)) (de_var (m := .t) (i := 10) rfl rfl (by first | exact .inl rfl | exact .inr (.inl rfl) | exact .inr (.inr rfl)))) (de_int (m := .t)))) (da_nil (m := .t)))))))) (da_nil (m := .t)))))))
 (dss_cons (ds_set (i := 8) rfl S.nd rfl (by first | exact .inl rfl | exact .inr rfl) (dc (m := .t) (takes_of rfl rfl rfl rfl) (c__law_exchange T) hr (by decide) rfl (by exact rfl) (da_cons (m := .t) (de_var (m := .t) (i := 6) rfl rfl (by first | exact .inl rfl | exact .inr (.inl rfl) | exact .inr (.inr rfl))) (da_cons (m := .t) (de_var (m := .t) (i := 7) rfl rfl (by first | exact .inl rfl | exact .inr (.inl rfl) | exact .inr (.inr rfl))) (da_nil (m := .t))))))
 (dss_cons (ds_if (DW.dt (dw_or (dt_not (dt_val (dc (m := .f) (takes_of rfl rfl rfl rfl) (c__law_is_bool T) hr (by decide) rfl (by exact rfl) (da_cons (m := .f) (dc (m := .f) (takes_of rfl rfl rfl rfl) (c_exchange T) hr (by decide) rfl (by exact rfl) (da_cons (m := .f) (de_var (m := .f) (i := 4) rfl rfl (by first | exact .inl rfl | exact .inr (.inl rfl) | exact .inr (.inr rfl))) (da_cons (m := .f) (de_var (m := .f) (i := 6) rfl rfl (by first | exact .inl rfl | exact .inr (.inl rfl) | exact .inr (.inr rfl))) (da_cons (m := .f) (de_var (m := .f) (i := 7) rfl rfl (by first | exact .inl rfl | exact .inr (.inl rfl) | exact .inr (.inr rfl))) (da_nil (m := .f)))))) (da_cons (m := .f) (de_var (m := .f) (i := 8) rfl rfl (by first | exact .inl rfl | exact .inr (.inl rfl) | exact .inr (.inr rfl))) (da_nil (m := .f))))))) (dw_or1 (dt_not (dt_val (dc (m := .f) (takes_of rfl rfl rfl rfl) (c__law_is_bool T) hr (by decide) rfl (by exact rfl) (da_cons (m := .f) (dc (m := .f) (takes_of rfl rfl rfl rfl) (c_exchange T) hr (by decide) rfl (by exact rfl) (da_cons (m := .f) (de_var (m := .f) (i := 4) rfl rfl (by first | exact .inl rfl | exact .inr (.inl rfl) | exact .inr (.inr rfl))) (da_cons (m := .f) (de_var (m := .f) (i := 7) rfl rfl (by first | exact .inl rfl | exact .inr (.inl rfl) | exact .inr (.inr rfl))) (da_cons (m := .f) (de_var (m := .f) (i := 6) rfl rfl (by first | exact .inl rfl | exact .inr (.inl rfl) | exact .inr (.inr rfl))) (da_nil (m := .f)))))) (da_cons (m := .f) (de_var (m := .f) (i := 8) rfl rfl (by first | exact .inl rfl | exact .inr (.inl rfl) | exact .inr (.inr rfl))) (da_nil (m := .f))))))))))
 (dss_cons (ds_ret (de_bl (m := .f)))
 dss_nil)
 dss_nil)
 (dss_cons (ds_set (i := 9) rfl S.nd rfl (by first | exact .inl rfl | exact .inr rfl) (de_lst (m := .t) (da_cons (m := .t) (de_tup (m := .t) (da_cons (m := .t) (de_var (m := .t) (i := 6) rfl rfl (by first | exact .inl rfl | exact .inr (.inl rfl) | exact .inr (.inr rfl))) (da_cons (m := .t) (de_slice (m := .t) rfl (de_var (m := .t) (i := 7) rfl rfl (by first | exact .inl rfl | exact .inr (.inl rfl) | exact .inr (.inr rfl))) dp_none (dp_some (de_neg (m := .f) (de_int (m := .f))))) (da_nil (m := .t))))) (da_cons (m := .t) (de_tup (m := .t) (da_cons (m := .t) (de_bin (m := .t) op_addG o_add rfl rfl (de_var (m := .t) (i := 6) rfl rfl (by first | exact .inl rfl | exact .inr (.inl rfl) | exact .inr (.inr rfl))) (de_tup (m := .t) (da_cons (m := .t) (de_int (m := .t)) (da_nil (m := .t))))) (da_cons (m := .t) (de_var (m := .t) (i := 7) rfl rfl (by first | exact .inl rfl | exact .inr (.inl rfl) | exact .inr (.inr rfl))) (da_nil (m := .t))))) (da_nil (m := .t))))))
 (dss_cons (ds_tryE (sb := sbx) rfl rfl (takes_of rfl rfl rfl rfl) T.sub (fun W pn xe tk po => (dss_cons (ds_expr (dc (m := .f) tk (c_exchange T) hr (by decide) rfl (by exact rfl) (da_cons (m := .f) (de_var (m := .f) (i := 4) rfl rfl (by first | exact .inl rfl | exact .inr (.inl rfl) | exact .inr (.inr rfl))) (da_cons (m := .f) (de_ix (m := .f) rfl rfl (de_ix (m := .f) rfl rfl (de_var (m := .f) (i := 9) rfl rfl (by first | exact .inl rfl | exact .inr (.inl rfl) | exact .inr (.inr rfl))) (de_ix (m := .f) rfl rfl (de_var (m := .f) (i := 1) rfl rfl (by first | exact .inl rfl | exact .inr (.inl rfl) | exact .inr (.inr rfl))) (de_int (m := .f)))) (de_int (m := .f))) (da_cons (m := .f) (de_ix (m := .f) rfl rfl (de_ix (m := .f) rfl rfl (de_var (m := .f) (i := 9) rfl rfl (by first | exact .inl rfl | exact .inr (.inl rfl) | exact .inr (.inr rfl))) (de_ix (m := .f) rfl rfl (de_var (m := .f) (i := 1) rfl rfl (by first | exact .inl rfl | exact .inr (.inl rfl) | exact .inr (.inr rfl))) (de_int (m := .f)))) (de_int (m := .f))) (da_nil (m := .f)))))))
 dss_nil))
 (dhd_cons T.x_InvalidJoining (by exact rfl) (by decide) (fun _ _ _ => (dss_cons (ds_ret (de_bl (m := .f)))
 dss_nil)) ⟨_, DHd.nil⟩))
 (dss_cons (ds_ret (de_bl (m := .f)))
 dss_nil))))))))))))

end
end Lw

/-! The data layer: the law's head and end, by facts. -/
namespace DL
open PySem PySem.Spec PyProof.Rows L2
def sbFa (l : List (Str × Str × Bool)) : List He.Fa := l.map fun t => .exm t.1 t.2.1 t.2.2
def defOf' (x : Str) (st : Stmt) : He.DefD := ⟨(x, none), x, x, defArgs st, defBody st, defScope st, [], []⟩
section
variable {K : PySem.W.Frag} {mg : Str → Option Value} {h : Heap} {fa : List He.Fa} {fn : List He.DefD}
theorem sub_of {fl : Str → List Str} : ∀ {l : List (Str × Str × Bool)}, (∀ t ∈ l, He.Fa.ok K (.exm t.1 t.2.1 t.2.2) = true) → (∀ t ∈ l, mg t.1 = some (.ref (He.ga K t.1)) ∧ mg t.2.1 = some (.ref (He.ga K t.2.1))) → SubOk ⟨K, mg, fl⟩ (sbOf l)
  | [], _, _ => fun c c' C C' b h1 h2 h3 => nomatch h3
  | t :: r, hx, hm => fun c c' C C' b h1 h2 h3 => by
    unfold sbOf at h3
    split at h3
    · rename_i q
      obtain ⟨rfl, rfl⟩ := q
      obtain ⟨m1, m2⟩ := hm t (.head _)
      cases m1.symm.trans h1
      cases m2.symm.trans h2
      cases h3
      exact He.exm_ok (hx t (.head _))
    · exact sub_of (fun t' z => hx t' (.tail _ z)) (fun t' z => hm t' (.tail _ z)) c c' C C' b h1 h2 h3
/-- every fact of the list stands -/
theorem fact_all (c : He.SaysD fa fn K) : ∀ f ∈ fa, He.Fa.ok K f = true := fun f hf => by
  have c1 := (He.ba (show ((fa.all fun f => f.ok K) && fn.all fun d => d.ok K) = true from congrArg (fun z : He.AlD => z.1) c)).1
  exact List.all_eq_true.mp c1 f hf
theorem glo_any (X : K.In h) (G : h.Ns mainGlobals mg) (c : He.SaysD fa fn K) {x : Str} (hx : (fa.any fun f => match f with | .glo y => y == x | _ => false) = true) : mg x = some (.ref (He.ga K x)) := by
  obtain ⟨f, h1, h2⟩ := List.any_eq_true.mp hx
  split at h2
  · cases eq_of_beq h2
    exact He.glo_ok X G (fact_all c _ h1)
  · cases h2
theorem fun_ofQ {x q : Str} {st : Stmt} {f : Addr} {fd : FuncData} (F : FunD K x q (defArgs st) (defBody st) (defScope st) [] [] f fd) : Fun K x q st f fd := by
  obtain ⟨⟨oc, od, dV, kV, doc, pm, an, cdv, ct, osl, e, lk, cd, dd, _⟩, kp⟩ := F
  rcases dd with ⟨_, rfl⟩ | ⟨z, _⟩
  · exact ⟨⟨oc, od, kV, doc, pm, an, cdv, ct, osl, e, lk, cd⟩, kp⟩
  · exact absurd rfl z
theorem fun_ofD {x : Str} {st : Stmt} {f : Addr} {fd : FuncData} (F : FunD K x x (defArgs st) (defBody st) (defScope st) [] [] f fd) : Fun K x x st f fd := by
  obtain ⟨⟨oc, od, dV, kV, doc, pm, an, cdv, ct, osl, e, lk, cd, dd, _⟩, kp⟩ := F
  rcases dd with ⟨_, rfl⟩ | ⟨z, _⟩
  · exact ⟨⟨oc, od, kV, doc, pm, an, cdv, ct, osl, e, lk, cd⟩, kp⟩
  · exact absurd rfl z
theorem def_at {x : Str} {st : Stmt} {n : Nat} (i j : Nat) (X : K.In h) (G : h.Ns mainGlobals mg) (c : He.SaysD fa fn K) (hi : fa[i]? = some (.glo x)) (hj : fn[j]? = some (defOf' x st)) {ps : List Str}
    (hb : ∀ {fd : FuncData}, Fun K x x st (He.ga K x) fd → Binds K fd ps []) (hn : ps.length = n) (hp : ps = (defArgs st).args.map (·.arg)) : DefAt K mg x st n := by
  obtain ⟨fd, F⟩ := c.def_ j hj
  exact ⟨He.ga K x, fd, ps, He.glo_ok X G (c.fact i hi), fun_ofD F, hb (fun_ofD F), hn, hp⟩
theorem exc_at {x : Str} (i j : Nat) (X : K.In h) (G : h.Ns mainGlobals mg) (c : He.SaysD fa fn K) (hi : fa[i]? = some (.glo x)) (hj : fa[j]? = some (.exc x)) : ExcAt K mg x := by
  obtain ⟨h1, h2, h3, h4⟩ := He.exc_ok (c.fact j hj)
  exact ⟨He.ga K x, He.glo_ok X G (c.fact i hi), h1, h2, h3, h4⟩
theorem met_at {c x q : Str} {st : Stmt} {n : Nat} (i i2 i3 j : Nat) (X : K.In h) (G : h.Ns mainGlobals mg) (a : He.SaysD fa fn K) (hi : fa[i]? = some (.glo c)) (h2 : fa[i2]? = some (.cls c)) (h3 : fa[i3]? = some (.meth c x)) (hj : fn[j]? = some ⟨(c, some x), x, q, defArgs st, defBody st, defScope st, [], []⟩) {ps : List Str}
    (hb : ∀ {fd : FuncData}, Fun K x q st (He.ma K (He.ga K c) x) fd → Binds K fd ps []) (hn : ps.length = n) (hp : ps = (defArgs st).args.map (·.arg)) : MetAt K mg c x q st n := by
  obtain ⟨fd, F⟩ := a.def_ j hj
  have F' : Fun K x q st (He.ma K (He.ga K c) x) fd := fun_ofQ F
  exact ⟨He.ga K c, _, fd, ps, He.glo_ok X G (a.fact i hi), He.cls_ok (a.fact i2 h2), He.meth_ok (a.fact i3 h3), F', hb F', hn, hp⟩
theorem ini_at {c q : Str} {fs : List Str} {st : Stmt} {n : Nat} (i i2 i3 j : Nat) (X : K.In h) (G : h.Ns mainGlobals mg) (a : He.SaysD fa fn K) (hi : fa[i]? = some (.glo c)) (h2 : fa[i2]? = some (.cls c)) (h3 : fa[i3]? = some (.mkr c)) (hj : fn[j]? = some ⟨(c, some "__init__"), "__init__", q, defArgs st, defBody st, defScope st, [], []⟩)
    (hfs : (fs.all fun f => fa.any fun z => match z with | .noat c' f' => c' == c && f' == f | _ => false) = true) {ps : List Str} (hb : ∀ {fd : FuncData}, Fun K "__init__" q st (He.ma K (He.ga K c) "__init__") fd → Binds K fd ps []) (hn : ps.length = n + 1) (hp : ps = (defArgs st).args.map (·.arg)) : IniAt K mg c fs q st n := by
  obtain ⟨fd, F⟩ := a.def_ j hj
  have F' : Fun K "__init__" q st (He.ma K (He.ga K c) "__init__") fd := fun_ofQ F
  refine ⟨He.ga K c, _, fd, ps, He.glo_ok X G (a.fact i hi), He.mkr_ok (a.fact i3 h3), He.cls_ok (a.fact i2 h2), fun g hg => ?_, F', hb F', hn, hp⟩
  obtain ⟨z, z1, z2⟩ := List.any_eq_true.mp (List.all_eq_true.mp hfs g hg)
  split at z2
  · rw [Bool.and_eq_true] at z2
    obtain ⟨y1, y2⟩ := z2
    cases eq_of_beq y1
    cases eq_of_beq y2
    exact He.noat_ok (fact_all a _ z1)
  · cases z2
theorem fld_at {c x : Str} (i i2 i3 : Nat) (X : K.In h) (G : h.Ns mainGlobals mg) (a : He.SaysD fa fn K) (hi : fa[i]? = some (.glo c)) (h2 : fa[i2]? = some (.cls c)) (h3 : fa[i3]? = some (.noat c x)) : FldAt K mg c x :=
  ⟨He.ga K c, He.glo_ok X G (a.fact i hi), He.cls_ok (a.fact i2 h2), He.noat_ok (a.fact i3 h3)⟩
/-- what isinstance wants, decided -/
def insB (c : Str) (K : PySem.W.Frag) : Bool :=
  decide (PySem.W.findIn K (.ref (He.ga K c)) "__class__" = some (some (.builtin "object.__class__"))) && (decide (PySem.W.specialIn K (.builtin "object.__class__") "__get__" = some (some (.builtin "getset_descriptor.__get__"))) && (decide (PySem.W.takesIn K (.builtin "object.__class__") = some true) &&
    (decide (PySem.W.mroIn K (He.ga K c) (.type "object") = some true) && (decide (PySem.W.kitOne K (.ref (He.ga K c)) (.ref (He.ga K c)) = some true) && baseTys.all fun t => decide (PySem.W.kitOne K (.type t) (.ref (He.ga K c)) = some false)))))
theorem ins_at {c : Str} (i i2 : Nat) (X : K.In h) (G : h.Ns mainGlobals mg) (a : He.SaysD fa fn K) (hi : fa[i]? = some (.glo c)) (h2 : fa[i2]? = some (.cls c)) (b : insB c K = true) : InsAt K mg c := by
  obtain ⟨b1, b⟩ := He.ba b
  obtain ⟨b2, b⟩ := He.ba b
  obtain ⟨b3, b⟩ := He.ba b
  obtain ⟨b4, b⟩ := He.ba b
  obtain ⟨b5, b6⟩ := He.ba b
  exact ⟨He.ga K c, He.glo_ok X G (a.fact i hi), ⟨He.cls_ok (a.fact i2 h2), of_decide_eq_true b1, of_decide_eq_true b2, of_decide_eq_true b3, of_decide_eq_true b4, of_decide_eq_true b5⟩, fun t ht => of_decide_eq_true (List.all_eq_true.mp b6 t ht)⟩
def excB (c : Str) (K : PySem.W.Frag) : Bool :=
  decide (PySem.W.findIn K (.ref (He.ga K c)) "__getattribute__" = some (some (.builtin "BaseException.__getattribute__"))) && (decide (PySem.W.findIn K (.ref (He.ga K c)) "__getattr__" = some none) && (decide (PySem.W.subIn K (.ref (He.ga K c)) (.type "BaseException") = some true) && (PySem.W.hasDictIn K (He.ga K c) &&
    (decide (PySem.W.findIn K (.ref (He.ga K c)) "__class__" = some (some (.builtin "object.__class__"))) && (decide (PySem.W.specialIn K (.builtin "object.__class__") "__get__" = some (some (.builtin "getset_descriptor.__get__"))) && (decide (PySem.W.takesIn K (.builtin "object.__class__") = some true) && decide (PySem.W.mroIn K (He.ga K c) (.type "object") = some true)))))))
def kitX (t : Str × Str × Bool) (K : PySem.W.Frag) : Bool := excB t.1 K && decide (PySem.W.kitOne K (.ref (He.ga K t.1)) (.ref (He.ga K t.2.1)) = some t.2.2)
theorem isE_of {l : List (Str × Str × Bool)} (hk : ∀ t ∈ l, kitX t K = true) (hm : ∀ t ∈ l, mg t.1 = some (.ref (He.ga K t.1)) ∧ mg t.2.1 = some (.ref (He.ga K t.2.1))) : IsEOk K mg (sbOf l) := by
  refine ⟨fun c C h1 h2 => ?_, fun c C y Y b h1 h2 h3 => ?_⟩
  · have hmem := sbOf_mem h2
    cases h1.symm.trans (hm _ hmem).1
    obtain ⟨b, _⟩ := He.ba (hk _ hmem)
    obtain ⟨b1, b⟩ := He.ba b
    obtain ⟨b2, b⟩ := He.ba b
    obtain ⟨b3, b⟩ := He.ba b
    obtain ⟨b4, b⟩ := He.ba b
    obtain ⟨b5, b⟩ := He.ba b
    obtain ⟨b6, b⟩ := He.ba b
    obtain ⟨b7, b8⟩ := He.ba b
    exact ⟨of_decide_eq_true b1, of_decide_eq_true b2, of_decide_eq_true b3, b4, of_decide_eq_true b5, of_decide_eq_true b6, of_decide_eq_true b7, of_decide_eq_true b8⟩
  · have hmem := sbOf_mem h3
    cases h1.symm.trans (hm _ hmem).1
    cases h2.symm.trans (hm _ hmem).2
    exact of_decide_eq_true (He.ba (hk _ hmem)).2
end
/-! ### the head's Hook, with facts of one's own beside -/
def obsX (n : Nat) (fa : List He.Fa) (fn : List He.DefD) (xc : List (PySem.W.Frag → Bool)) (g : Addr → Option Obj) : He.AlD × Bool := (fun K => (He.obsD fa fn K, xc.all fun f => f K)) (He.frG g (He.asD g n))
def hookX (n : Nat) (fa : List He.Fa) (fn : List He.DefD) (xc : List (PySem.W.Frag → Bool)) : PySem.W.Hook where
  α := He.AlD × Bool
  obs := fun s => obsX n fa fn xc s.heap.get?
  val := fun _ => (He.valD fn, true)
  says := fun _ h => ∃ K : PySem.W.Frag, K.In h ∧ He.SaysD fa fn K ∧ (xc.all fun f => f K) = true
  of := fun _ _ e => ⟨_, He.frG_in, congrArg (fun z : He.AlD × Bool => z.1) e, congrArg (fun z : He.AlD × Bool => z.2) e⟩
  keeps := fun _ _ _ ⟨K, hK, c⟩ k => ⟨K, PySem.W.Frag.In.keeps hK k, c⟩
theorem obsX_eq {n : Nat} {fa : List He.Fa} {fn : List He.DefD} {xc : List (PySem.W.Frag → Bool)} {g : Addr → Option Obj} {s : Shared} (h : ∀ a, g a = s.heap.get? a) : obsX n fa fn xc g = (hookX n fa fn xc).obs s := by
  have e : g = s.heap.get? := funext h
  rw [e]
  rfl
theorem rp_ints {G : Gx} {H : Hp} {P : Addr → Prop} : ∀ ns : List Int, RpAll G H P (ns.map V.int) (ns.map D.int)
  | [] => .nil
  | n :: ns => .cons (.int n) (rp_ints ns)
/-- the row's end: the law's def keeps its promise at every script -/
theorem dl_end {l : PySem.W.OpenLaw} {q : Program} {loose : List Str} {XP : (Str → Option Value) → Heap → Prop} {fa : List He.Fa} {fn : List He.DefD} {xc : List (PySem.W.Frag → Bool)} {d : DefRec} {x y : Str} {k : Nat} {fl : Str → List Str} {st : Stmt} {F : List D → R D}
    (hl : l.most = some 63) (hdf : d.params.defaults = []) (hr : Room k callerA) (hnm : d.name = x)
    (hT : ∀ (w : World) (K : PySem.W.Frag) (mg : Str → Option Value) (h : Heap), K.In h → h.Ns mainGlobals mg → He.SaysD fa fn K → (xc.all fun f => f K) = true →
      (∃ fd, Fun K x x st (He.ga K x) fd ∧ ∀ (s : Shared) (u : Value), BindsTo s fd ⟨[u], []⟩ [(y, u)]) ∧ mg x = some (.ref (He.ga K x)) ∧ ∀ base : Heap, CalAt l.prog w K mg base fl k x st 1 F)
    (hps : (defArgs st).args.map (·.arg) = [y])
    (hF : ∀ ns : List Int, ns.length ≤ 63 → F [D.frz (ns.map D.int)] = .ok (.bl true)) :
    PySem.W.WalkO q loose XP (fun _ h => ∃ K : PySem.W.Frag, K.In h ∧ He.SaysD fa fn K ∧ (xc.all fun f => f K) = true) l.row.toRowW d [] (fun f vs => PySem.call f vs) := by
  refine Att.attach_call hl hdf ?_
  intro w s₀ s₁ mg mb fA o pm cd doc a vs ns G Y ho hd hcd hmg hobj hints hlen hg
  obtain ⟨K, KX, c, cx⟩ := Y
  rw [hnm] at hmg
  obtain ⟨⟨fd, hfd, hb⟩, hm, hC⟩ := hT w K mg _ KX G.T.g c cx
  cases hm.symm.trans hmg
  have h63 : (63 : Nat) ≤ sizeLine := by rw [sizeLine_eq]; omega
  refine law_call (sp := fun (ws : List V) (H : Hp) (Q : VK) (E : XK) => ∃ (b : Addr) (ms : List Int), ws = [V.ref b] ∧ SqF K H b (ms.map V.int) ∧ ms.length ≤ 63 ∧ ∀ H', Q (.bl true) H') (CX := L2.CX l.prog w) (fd := fd) (x := y)
    KX G.T.g G.T.b G.T.builtins G.T.nolimit hg hobj hints (Nat.le_trans hlen h63) hr ?_ hb ?_ ?_
  · intro base hB hN
    obtain ⟨f, fd', h1, h2, h3, h4⟩ := hC base
    cases h1.symm.trans hmg
    have e : fd' = fd := by
      obtain ⟨oc, od, kV, doc', pm', an, cdv, ct, osl, e1, e2, _⟩ := h2.ex
      obtain ⟨oc', od', kV', doc'', pm'', an', cdv', ct', osl', e3, e4, _⟩ := hfd.ex
      have e5 := Option.some.inj (e2.symm.trans e4)
      cases e5
      rfl
    subst e
    rw [hps] at h4
    refine h4.imp fun ws H Q E z => ?_
    obtain ⟨b, ms, rfl, hS, hm63, hQ⟩ := z
    refine ⟨rfl, fun _ => False, [D.frz (ms.map D.int)], fun _ z => z.elim, .cons (.lstF hS (by simpa using Nat.le_trans hm63 h63) (rp_ints ms)) .nil, ?_⟩
    rw [hF ms hm63]
    exact fun v H' s r => by
      cases r
      exact hQ H'
  · intro H hO hS
    refine ⟨a, ns, rfl, ?_, hlen, fun _ => rfl⟩
    rcases hS with h | h
    · rcases h with h | ⟨o', h⟩
      · rcases hO a with z | ⟨o', xs, z⟩
        · cases z.symm.trans h
        · cases z.symm.trans h
      · exact .inl ⟨o', h⟩
    · exact .inr h
  · intro H e s' z
    obtain ⟨a, B, H', cls, d, z1, z2, z3, z4, z5, z6, z7, z8⟩ := z
    exact z8
end DL

/-! The head of the law, printed by gen.py. -/
namespace Lw
open PySem PySem.Spec PyProof.Rows L2 DL

def faA_0 : List (He.Fa) := [.free "<raw>", .free "all", .free "bool", .free "int", .free "isinstance", .free "len", .free "list", .free "max", .free "min", .free "range", .free "set", .free "tuple", .str "LETTERS" "abcdefghijklmnopqrstuvwxyz", .int "MOST_ARGUMENTS" 2, .int "MOST_OPERATIONS" 4, .int "MOST_THINGS" 8, .glo "InvalidAlgebra", .exc "InvalidAlgebra", .glo "InvalidJoining", .exc "InvalidJoining", .glo "InvalidThings", .exc "InvalidThings", .glo "UnknownName", .exc "UnknownName", .glo "power", .glo "is_label", .glo "index_of", .glo "tuples", .glo "are_things", .glo "check_operation_of"]
def faA_1 : List (He.Fa) := [.glo "Algebra", .cls "Algebra", .mkr "Algebra", .noat "Algebra" "n", .noat "Algebra" "operations", .meth "Algebra" "operation", .meth "Algebra" "value", .glo "least_of", .glo "normal", .glo "moves", .glo "moved", .glo "move_rows", .glo "closed_under", .glo "is_equivalence", .glo "check_joining", .glo "are_exchanged", .glo "exchange", .glo "_law_cell", .glo "_law_digits", .glo "_law_rich", .glo "_law_draws", .glo "_law_tuples", .glo "_law_table", .glo "_law_operations", .glo "_law_joined", .glo "_law_exchange", .glo "_law_is_bool", .glo "law"]
def faA : List (He.Fa) := faA_0 ++ faA_1
def fa : List He.Fa := faA ++ sbFa sbl
def fn_0 : List (He.DefD) := [⟨("power", none), "power", "power", defArgs s_power, defBody s_power, defScope s_power, [], []⟩, ⟨("is_label", none), "is_label", "is_label", defArgs s_is_label, defBody s_is_label, defScope s_is_label, [], []⟩, ⟨("index_of", none), "index_of", "index_of", defArgs s_index_of, defBody s_index_of, defScope s_index_of, [], []⟩, ⟨("tuples", none), "tuples", "tuples", defArgs s_tuples, defBody s_tuples, defScope s_tuples, [], []⟩, ⟨("are_things", none), "are_things", "are_things", defArgs s_are_things, defBody s_are_things, defScope s_are_things, [], []⟩, ⟨("check_operation_of", none), "check_operation_of", "check_operation_of", defArgs s_check_operation_of, defBody s_check_operation_of, defScope s_check_operation_of, [], []⟩, ⟨("Algebra", some "__init__"), "__init__", "Algebra.__init__", defArgs s_Algebra___init__, defBody s_Algebra___init__, defScope s_Algebra___init__, [], []⟩, ⟨("Algebra", some "operation"), "operation", "Algebra.operation", defArgs s_Algebra_operation, defBody s_Algebra_operation, defScope s_Algebra_operation, [], []⟩, ⟨("Algebra", some "value"), "value", "Algebra.value", defArgs s_Algebra_value, defBody s_Algebra_value, defScope s_Algebra_value, [], []⟩, ⟨("least_of", none), "least_of", "least_of", defArgs s_least_of, defBody s_least_of, defScope s_least_of, [], []⟩, ⟨("normal", none), "normal", "normal", defArgs s_normal, defBody s_normal, defScope s_normal, [], []⟩, ⟨("moves", none), "moves", "moves", defArgs s_moves, defBody s_moves, defScope s_moves, [], []⟩, ⟨("moved", none), "moved", "moved", defArgs s_moved, defBody s_moved, defScope s_moved, [], []⟩, ⟨("move_rows", none), "move_rows", "move_rows", defArgs s_move_rows, defBody s_move_rows, defScope s_move_rows, [], []⟩, ⟨("closed_under", none), "closed_under", "closed_under", defArgs s_closed_under, defBody s_closed_under, defScope s_closed_under, [], []⟩, ⟨("is_equivalence", none), "is_equivalence", "is_equivalence", defArgs s_is_equivalence, defBody s_is_equivalence, defScope s_is_equivalence, [], []⟩, ⟨("check_joining", none), "check_joining", "check_joining", defArgs s_check_joining, defBody s_check_joining, defScope s_check_joining, [], []⟩, ⟨("are_exchanged", none), "are_exchanged", "are_exchanged", defArgs s_are_exchanged, defBody s_are_exchanged, defScope s_are_exchanged, [], []⟩, ⟨("exchange", none), "exchange", "exchange", defArgs s_exchange, defBody s_exchange, defScope s_exchange, [], []⟩, ⟨("_law_cell", none), "_law_cell", "_law_cell", defArgs s__law_cell, defBody s__law_cell, defScope s__law_cell, [], []⟩, ⟨("_law_digits", none), "_law_digits", "_law_digits", defArgs s__law_digits, defBody s__law_digits, defScope s__law_digits, [], []⟩, ⟨("_law_rich", none), "_law_rich", "_law_rich", defArgs s__law_rich, defBody s__law_rich, defScope s__law_rich, [], []⟩, ⟨("_law_draws", none), "_law_draws", "_law_draws", defArgs s__law_draws, defBody s__law_draws, defScope s__law_draws, [], []⟩, ⟨("_law_tuples", none), "_law_tuples", "_law_tuples", defArgs s__law_tuples, defBody s__law_tuples, defScope s__law_tuples, [], []⟩, ⟨("_law_table", none), "_law_table", "_law_table", defArgs s__law_table, defBody s__law_table, defScope s__law_table, [], []⟩, ⟨("_law_operations", none), "_law_operations", "_law_operations", defArgs s__law_operations, defBody s__law_operations, defScope s__law_operations, [], []⟩, ⟨("_law_joined", none), "_law_joined", "_law_joined", defArgs s__law_joined, defBody s__law_joined, defScope s__law_joined, [], []⟩, ⟨("_law_exchange", none), "_law_exchange", "_law_exchange", defArgs s__law_exchange, defBody s__law_exchange, defScope s__law_exchange, [], []⟩, ⟨("_law_is_bool", none), "_law_is_bool", "_law_is_bool", defArgs s__law_is_bool, defBody s__law_is_bool, defScope s__law_is_bool, [], []⟩, ⟨("law", none), "law", "law", defArgs s_law, defBody s_law, defScope s_law, [], []⟩]
def fn : List (He.DefD) := fn_0
def xcA_0 : List (PySem.W.Frag → Bool) := []
def xcA : List (PySem.W.Frag → Bool) := xcA_0
def xc : List (PySem.W.Frag → Bool) := xcA ++ []
abbrev hk : PySem.W.Hook := hookX 5 fa fn xc
def ob (s : PySem.W.SharedT) : He.AlD × Bool := obsX 5 fa fn xc (HandSHeadRun.getT s)
theorem ob_eq (s : PySem.W.SharedT) : ob s = hk.obs s.abs := obsX_eq (HandSHeadRun.getT_eq s)
abbrev rw0 : PySem.W.OpenRow := PySem.W.OpenLaw.row PySem.Challenge.rw_lawsofdeeds_k11_exchange
def loose_0 : List PySem.Str := ["__name__", "DeedsError", "InvalidAlgebra", "InvalidThings", "InvalidJoining", "UnknownName", "MOST_THINGS", "MOST_OPERATIONS", "MOST_ARGUMENTS", "LETTERS", "power", "is_label", "index_of", "tuples", "are_things", "check_operation_of", "Algebra", "least_of", "normal", "moves", "moved", "move_rows", "closed_under", "is_equivalence", "check_joining", "are_exchanged", "exchange", "_law_cell", "_law_digits", "_law_rich"]
def loose_1 : List PySem.Str := ["_law_draws", "_law_tuples", "_law_table", "_law_operations", "_law_joined", "_law_exchange", "_law_is_bool"]
def loose : List PySem.Str := loose_0 ++ loose_1
theorem run (w : World) : HandSHeadRun.RunEq rw0 (PySem.W.view rw0.prog [40]) hk ob 4000 loose w := by
  intro os
  kernel_rfl
section
variable {K : PySem.W.Frag} {mg : Str → Option Value} {h : Heap}
theorem sub_glo (X : K.In h) (G : h.Ns mainGlobals mg) (c : He.SaysD fa fn K) {t : Str × Str × Bool} (ht : t ∈ sbl) : mg t.1 = some (.ref (He.ga K t.1)) ∧ mg t.2.1 = some (.ref (He.ga K t.2.1)) := by
  have hall : ∀ t ∈ sbl, (fa.any fun f => match f with | .glo x => x == t.1 | _ => false) = true ∧ (fa.any fun f => match f with | .glo x => x == t.2.1 | _ => false) = true := by decide +kernel
  exact ⟨glo_any X G c (hall t ht).1, glo_any X G c (hall t ht).2⟩
theorem facts0 (X : K.In h) (G : h.Ns mainGlobals mg) (c : He.SaysD fa fn K) (cx : xc.all (fun f => f K) = true) : Tx0 K mg :=
  have xall := fun (i : Nat) {f : PySem.W.Frag → Bool} (e : xc[i]? = some f) => List.all_eq_true.mp cx f (List.mem_of_getElem? e)
  {
  n_raw := He.free_ok X G (c.fact 0 rfl),
  n_all := He.free_ok X G (c.fact 1 rfl),
  n_bool := He.free_ok X G (c.fact 2 rfl),
  n_int := He.free_ok X G (c.fact 3 rfl),
  n_isinstance := He.free_ok X G (c.fact 4 rfl),
  n_len := He.free_ok X G (c.fact 5 rfl),
  n_list := He.free_ok X G (c.fact 6 rfl),
  n_max := He.free_ok X G (c.fact 7 rfl),
  n_min := He.free_ok X G (c.fact 8 rfl),
  n_range := He.free_ok X G (c.fact 9 rfl),
  n_set := He.free_ok X G (c.fact 10 rfl),
  n_tuple := He.free_ok X G (c.fact 11 rfl),
  c_LETTERS := He.str_ok X G (c.fact 12 rfl),
  c_MOST_ARGUMENTS := He.int_ok X G (c.fact 13 rfl),
  c_MOST_OPERATIONS := He.int_ok X G (c.fact 14 rfl),
  c_MOST_THINGS := He.int_ok X G (c.fact 15 rfl),
  x_InvalidAlgebra := exc_at 16 17 X G c rfl rfl,
  x_InvalidJoining := exc_at 18 19 X G c rfl rfl,
  x_InvalidThings := exc_at 20 21 X G c rfl rfl,
  x_UnknownName := exc_at 22 23 X G c rfl rfl,
  d_power := def_at 24 0 X G c rfl rfl (ps := ["base", "exponent"]) (fun F => F.binds fun _ _ _ _ _ _ us hl => match us, hl with | [_, _], _ => rfl) rfl rfl,
  d_is_label := def_at 25 1 X G c rfl rfl (ps := ["name"]) (fun F => F.binds fun _ _ _ _ _ _ us hl => match us, hl with | [_], _ => rfl) rfl rfl,
  d_index_of := def_at 26 2 X G c rfl rfl (ps := ["n", "things"]) (fun F => F.binds fun _ _ _ _ _ _ us hl => match us, hl with | [_, _], _ => rfl) rfl rfl,
  d_tuples := def_at 27 3 X G c rfl rfl (ps := ["n", "k"]) (fun F => F.binds fun _ _ _ _ _ _ us hl => match us, hl with | [_, _], _ => rfl) rfl rfl,
  d_are_things := def_at 28 4 X G c rfl rfl (ps := ["n", "things"]) (fun F => F.binds fun _ _ _ _ _ _ us hl => match us, hl with | [_, _], _ => rfl) rfl rfl,
  d_check_operation_of := def_at 29 5 X G c rfl rfl (ps := ["n", "operation"]) (fun F => F.binds fun _ _ _ _ _ _ us hl => match us, hl with | [_, _], _ => rfl) rfl rfl,
  d_Algebra___init__ := ini_at 30 31 32 6 X G c rfl rfl rfl rfl (by decide +kernel) (ps := ["self", "n", "operations"]) (fun F => F.binds fun _ _ _ _ _ _ us hl => match us, hl with | [_, _, _], _ => rfl) rfl rfl,
  d_Algebra_operation := met_at 30 31 35 7 X G c rfl rfl rfl rfl (ps := ["self", "name"]) (fun F => F.binds fun _ _ _ _ _ _ us hl => match us, hl with | [_, _], _ => rfl) rfl rfl,
  d_Algebra_value := met_at 30 31 36 8 X G c rfl rfl rfl rfl (ps := ["self", "name", "things"]) (fun F => F.binds fun _ _ _ _ _ _ us hl => match us, hl with | [_, _, _], _ => rfl) rfl rfl,
  d_least_of := def_at 37 9 X G c rfl rfl (ps := ["classes", "thing"]) (fun F => F.binds fun _ _ _ _ _ _ us hl => match us, hl with | [_, _], _ => rfl) rfl rfl,
  d_normal := def_at 38 10 X G c rfl rfl (ps := ["classes"]) (fun F => F.binds fun _ _ _ _ _ _ us hl => match us, hl with | [_], _ => rfl) rfl rfl,
  d_moves := def_at 39 11 X G c rfl rfl (ps := ["algebra"]) (fun F => F.binds fun _ _ _ _ _ _ us hl => match us, hl with | [_], _ => rfl) rfl rfl,
  d_moved := def_at 40 12 X G c rfl rfl (ps := ["algebra", "move", "thing"]) (fun F => F.binds fun _ _ _ _ _ _ us hl => match us, hl with | [_, _, _], _ => rfl) rfl rfl,
  d_move_rows := def_at 41 13 X G c rfl rfl (ps := ["algebra"]) (fun F => F.binds fun _ _ _ _ _ _ us hl => match us, hl with | [_], _ => rfl) rfl rfl,
  d_closed_under := def_at 42 14 X G c rfl rfl (ps := ["algebra", "pairs"]) (fun F => F.binds fun _ _ _ _ _ _ us hl => match us, hl with | [_, _], _ => rfl) rfl rfl,
  d_is_equivalence := def_at 43 15 X G c rfl rfl (ps := ["n", "joining"]) (fun F => F.binds fun _ _ _ _ _ _ us hl => match us, hl with | [_, _], _ => rfl) rfl rfl,
  d_check_joining := def_at 44 16 X G c rfl rfl (ps := ["algebra", "joining"]) (fun F => F.binds fun _ _ _ _ _ _ us hl => match us, hl with | [_, _], _ => rfl) rfl rfl,
  d_are_exchanged := def_at 45 17 X G c rfl rfl (ps := ["one", "other"]) (fun F => F.binds fun _ _ _ _ _ _ us hl => match us, hl with | [_, _], _ => rfl) rfl rfl,
  d_exchange := def_at 46 18 X G c rfl rfl (ps := ["algebra", "one", "other"]) (fun F => F.binds fun _ _ _ _ _ _ us hl => match us, hl with | [_, _, _], _ => rfl) rfl rfl,
  d__law_cell := def_at 47 19 X G c rfl rfl (ps := ["script", "k"]) (fun F => F.binds fun _ _ _ _ _ _ us hl => match us, hl with | [_, _], _ => rfl) rfl rfl,
  d__law_digits := def_at 48 20 X G c rfl rfl (ps := ["cell", "sizes"]) (fun F => F.binds fun _ _ _ _ _ _ us hl => match us, hl with | [_, _], _ => rfl) rfl rfl,
  d__law_rich := def_at 49 21 X G c rfl rfl (ps := ["cell"]) (fun F => F.binds fun _ _ _ _ _ _ us hl => match us, hl with | [_], _ => rfl) rfl rfl,
  d__law_draws := def_at 50 22 X G c rfl rfl (ps := ["cell", "size", "count"]) (fun F => F.binds fun _ _ _ _ _ _ us hl => match us, hl with | [_, _, _], _ => rfl) rfl rfl,
  d__law_tuples := def_at 51 23 X G c rfl rfl (ps := ["n", "k"]) (fun F => F.binds fun _ _ _ _ _ _ us hl => match us, hl with | [_, _], _ => rfl) rfl rfl,
  d__law_table := def_at 52 24 X G c rfl rfl (ps := ["kind", "cell", "n"]) (fun F => F.binds fun _ _ _ _ _ _ us hl => match us, hl with | [_, _, _], _ => rfl) rfl rfl,
  d__law_operations := def_at 53 25 X G c rfl rfl (ps := ["cell", "n"]) (fun F => F.binds fun _ _ _ _ _ _ us hl => match us, hl with | [_, _], _ => rfl) rfl rfl,
  d__law_joined := def_at 54 26 X G c rfl rfl (ps := ["n", "operations", "pairs"]) (fun F => F.binds fun _ _ _ _ _ _ us hl => match us, hl with | [_, _, _], _ => rfl) rfl rfl,
  d__law_exchange := def_at 55 27 X G c rfl rfl (ps := ["one", "other"]) (fun F => F.binds fun _ _ _ _ _ _ us hl => match us, hl with | [_, _], _ => rfl) rfl rfl,
  d__law_is_bool := def_at 56 28 X G c rfl rfl (ps := ["told", "due"]) (fun F => F.binds fun _ _ _ _ _ _ us hl => match us, hl with | [_, _], _ => rfl) rfl rfl,
  d_law := def_at 57 29 X G c rfl rfl (ps := ["script"]) (fun F => F.binds fun _ _ _ _ _ _ us hl => match us, hl with | [_], _ => rfl) rfl rfl,
  a_Algebra_n := fld_at 30 31 33 X G c rfl rfl rfl,
  a_Algebra_operations := fld_at 30 31 34 X G c rfl rfl rfl,
  sub := sub_of (fun t ht => fact_all c _ (List.mem_append_right faA (List.mem_map.mpr ⟨t, ht, rfl⟩))) (fun t ht => sub_glo X G c ht) }
theorem facts (X : K.In h) (G : h.Ns mainGlobals mg) (c : He.SaysD fa fn K) (cx : xc.all (fun f => f K) = true) : Tx K mg fl0 true := ⟨facts0 X G c cx, (fun _ => rfl), rfl⟩
end
theorem whole (hF : ∀ ns : List Int, ns.length ≤ 63 → F_law [D.frz (ns.map D.int)] = .ok (.bl true)) : PySem.Challenge.rw_lawsofdeeds_k11_exchange.Holds := by
  w_on; o_law
  refine HandSHeadRun.head_any (r := rw0) (q := PySem.W.view rw0.prog [40]) (H := hk) (ob := ob) (M := 4000) (loose := loose) (d := HandSHeadRun.topDef rw0.prog 40) (kwd := []) ob_eq
    (by kernel_rfl) (fun s => by kernel_rfl) run (by kernel_rfl) (by kernel_rfl) (by kernel_rfl) (by rfl) (by first | assumption | decide +kernel) (by decide +kernel) ⟨rfl, rfl, rfl, rfl, rfl, by decide +kernel⟩ ?hw ?hc
  case hw => w_witness2
  case hc =>
    refine dl_end (l := PySem.Challenge.rw_lawsofdeeds_k11_exchange) (fa := fa) (fn := fn) (xc := xc) (x := "law") (y := "script") (k := 9) (fl := fl0) (st := s_law) (F := F_law) rfl (by kernel_rfl) ⟨rfl, by decide, by decide⟩ (by kernel_rfl) ?T (by kernel_rfl) hF
    intro w K mg h X G c cx
    obtain ⟨fd, F⟩ := c.def_ 29 (d := defOf' "law" s_law) rfl
    exact ⟨⟨fd, fun_ofD F, fun s u => FunD.bindsA (ps := ["script"]) F (fun _ _ _ _ _ _ us hl => match us, hl with | [_], _ => rfl) s [u] rfl⟩, He.glo_ok X G (c.fact 57 rfl), fun base => c_law (facts X G c cx)⟩

end Lw

theorem PySem.Challenge.cw_lawsofdeeds_k11_exchange_holds : PySem.Challenge.rw_lawsofdeeds_k11_exchange.Holds := by
  exact Lw.whole fun ns _ => Lw.law_eq ns
