import PyProof.Rows.All
import Wide.All
import OpenK.AllK
import Wide.FinOn
import HandS.ForMost
import HandS.ForExc
import HandS.Flow
import HandS.Wide
import KE.KDictKeyed
import HandS.Walk
import HandS.TryOnly
import HandS.Zip
import HandS.CallSlots
import HandS.Defaults
import HandS.TupAny
import HandS.Deep
import HandS.Iter
import HandS.IsInst
import HandS.WordsDict
import HandS.SortInts
import HandS.Text
import HandS.List
import KE.KStateDown
import HandS.EndBits
import HandS.More
import HandS.Head0
import HandS.Head1
import HandS.Head2
import HandS.HeadEnd
import HandS.HeadHook1
import HandS.HeadHook2
import PySem.Challenge.RW_steploft_k69_whole_long_ways
set_option Elab.async false
set_option linter.all false
set_option maxRecDepth 100000
set_option maxHeartbeats 0
namespace L3
open PySem PySem.Spec PyProof.Rows L2

abbrev St := L2.St
inductive D where
  | non | bl (b : Bool) | int (i : Int) | str (x : Str) | tup (l : List D) | lst (l : List D) | ref (a : Addr) | ty (n : String)

/-- what stands at a tracked address -/
inductive GO where
  | lst (ds : List D)
  | dic (kvs : List (Key × D))
  | rdd (kvs : List (Key × D))
  | ins (C : Addr) (fs : List (Str × D))
  | dn (w : World) (kvs : List (D × D))

abbrev Gp := Addr → Option GO
def gup (G : Gp) (a : Addr) (o : GO) : Gp := fun b => if b = a then some o else G b
def grm (G : Gp) (a : Addr) : Gp := fun b => if b = a then none else G b
theorem gup_same {G : Gp} {a : Addr} {o : GO} : gup G a o a = some o := by unfold gup; rw [if_pos rfl]
theorem gup_ne {G : Gp} {a b : Addr} {o : GO} (h : b ≠ a) : gup G a o b = G b := by unfold gup; rw [if_neg h]
theorem gup_gup {G : Gp} {a : Addr} {o u : GO} : gup (gup G a o) a u = gup G a u := by
  funext b; unfold gup; split <;> rfl
theorem grm_same {G : Gp} {a : Addr} : grm G a a = none := by unfold grm; rw [if_pos rfl]
theorem grm_ne {G : Gp} {a b : Addr} (h : b ≠ a) : grm G a b = G b := by unfold grm; rw [if_neg h]
/-- less is tracked -/
def Sub (G' G : Gp) : Prop := ∀ a o, G' a = some o → G a = some o
theorem Sub.refl (G : Gp) : Sub G G := fun _ _ e => e
theorem Sub.trans {G1 G2 G3 : Gp} (a : Sub G1 G2) (b : Sub G2 G3) : Sub G1 G3 := fun c o e => b c o (a c o e)
theorem Sub.nn {G' G : Gp} (s : Sub G' G) {a : Addr} (e : G a = none) : G' a = none := by
  cases q : G' a with
  | none => rfl
  | some o => rw [s a o q] at e; cases e
theorem Sub.gup {G : Gp} {a : Addr} {o : GO} (h : G a = none) : Sub G (gup G a o) := fun b u e => by
  rw [gup_ne (fun z => by rw [z, h] at e; cases e)]; exact e
theorem Sub.gup2 {G' G : Gp} {a : Addr} {o : GO} (s : Sub G' G) : Sub (L3.gup G' a o) (L3.gup G a o) := fun b u e => by
  unfold L3.gup at e ⊢
  split <;> rename_i h
  · rw [if_pos h] at e; exact e
  · rw [if_neg h] at e; exact s b u e
theorem Sub.to_gup {G' G : Gp} {a : Addr} {o : GO} (s : Sub G' G) (h : G' a = none) : Sub G' (L3.gup G a o) := fun b u e => by
  rw [gup_ne (fun z => by rw [z, h] at e; cases e)]; exact s b u e
theorem Sub.grm {G : Gp} {a : Addr} : Sub (grm G a) G := fun b u e => by
  unfold L3.grm at e
  split at e
  · cases e
  · exact e

/-- a tuple of the written part -/
def KTup (K : PySem.W.Frag) (a : Addr) (xs : List V) : Prop := ∃ (o : Obj) (its : Array Value) (n : Nat), K.lookup a = some o ∧ o.cls = .type "tuple" ∧ o.dict = none ∧ o.data = .seq its n ∧ its.size ≤ sizeLine ∧ Vals xs its.toList
/-- a tuple of the heap (it has no dict of its own) -/
def HTup (H : Hp) (a : Addr) (xs : List V) : Prop := ∃ o : Obj, H a = some (.frz o (.tup xs)) ∧ o.dict = none
theorem KTup.sq {K : PySem.W.Frag} {a : Addr} {xs : List V} (h : KTup K a xs) (H : Hp) : SqT K H a xs := by
  obtain ⟨o, its, n, h1, h2, h3, h4, h5, h6⟩ := h
  exact .inr ⟨o, its, n, h1, h2, h4, h5, h6⟩
theorem HTup.sq {K : PySem.W.Frag} {H : Hp} {a : Addr} {xs : List V} (h : HTup H a xs) : SqT K H a xs := by
  obtain ⟨o, h, _⟩ := h
  exact .inl (.inr ⟨o, h⟩)
/-- a list of the written part; a list that is only read -/
def KLst (K : PySem.W.Frag) (a : Addr) (xs : List V) : Prop := ∃ (its : Array Value) (n : Nat), K.lookup a = some { cls := .type "list", data := .seq its n } ∧ its.size ≤ sizeLine ∧ Vals xs its.toList
def LsX (K : PySem.W.Frag) (H : Hp) (a : Addr) (xs : List V) : Prop := Rd H a (.lst xs) ∨ KLst K a xs
theorem KLst.sq {K : PySem.W.Frag} {a : Addr} {xs : List V} (h : KLst K a xs) (H : Hp) : SqL K H a xs := by
  obtain ⟨its, n, h1, h2, h3⟩ := h
  exact .inr ⟨_, its, n, h1, rfl, rfl, rfl, h2, h3⟩
theorem LsX.sq {K : PySem.W.Frag} {H : Hp} {a : Addr} {xs : List V} (h : LsX K H a xs) : SqL K H a xs := h.elim .inl fun k => k.sq H
mutual
def Rep (K : PySem.W.Frag) (G : Gp) (H : Hp) : D → V → Prop
  | .non, v => v = .non
  | .bl b, v => v = .bl b
  | .int i, v => v = .int i
  | .str x, v => v = .str x
  | .tup ds, v => ∃ a xs, v = .ref a ∧ ((G a = none ∧ HTup H a xs) ∨ KTup K a xs) ∧ RepL K G H ds xs
  | .lst ds, v => ∃ a xs, v = .ref a ∧ ((G a = none ∧ Rd H a (.lst xs)) ∨ KLst K a xs) ∧ RepL K G H ds xs
  | .ref a, v => v = .ref a
  | .ty n, v => v = .ty n
def RepL (K : PySem.W.Frag) (G : Gp) (H : Hp) : List D → List V → Prop
  | [], vs => vs = []
  | d :: ds, vs => ∃ v r, vs = v :: r ∧ Rep K G H d v ∧ RepL K G H ds r
end
section
variable {K : PySem.W.Frag} {G G' G'' : Gp} {H H' H'' : Hp}
theorem RepL.length : ∀ {ds : List D} {vs : List V}, RepL K G H ds vs → ds.length = vs.length
  | [], vs, h => by simp only [RepL] at h; subst h; rfl
  | d :: ds, vs, h => by
    simp only [RepL] at h
    obtain ⟨v, r, rfl, _, h⟩ := h
    simp [RepL.length h]
theorem RepL.cons {d : D} {v : V} {ds : List D} {vs : List V} (h : Rep K G H d v) (t : RepL K G H ds vs) : RepL K G H (d :: ds) (v :: vs) := by
  simp only [RepL]; exact ⟨v, vs, rfl, h, t⟩
theorem RepL.nil : RepL K G H [] [] := by simp only [RepL]
theorem RepL.get : ∀ {ds : List D} {vs : List V} {i : Nat} {d : D}, RepL K G H ds vs → ds[i]? = some d → ∃ v, vs[i]? = some v ∧ Rep K G H d v
  | [], _, _, _, _, e => by simp at e
  | d :: ds, vs, 0, _, h, e => by
    simp only [RepL] at h
    obtain ⟨v, r, rfl, h1, _⟩ := h
    simp at e; subst e; exact ⟨v, rfl, h1⟩
  | d :: ds, vs, i + 1, x, h, e => by
    simp only [RepL] at h
    obtain ⟨v, r, rfl, _, h2⟩ := h
    obtain ⟨u, q1, q2⟩ := RepL.get (i := i) (d := x) h2 (by simpa using e)
    exact ⟨u, by simpa using q1, q2⟩
theorem RepL.getV : ∀ {ds : List D} {vs : List V} {i : Nat} {v : V}, RepL K G H ds vs → vs[i]? = some v → ∃ d, ds[i]? = some d ∧ Rep K G H d v
  | [], vs, i, v, h, e => by simp only [RepL] at h; subst h; simp at e
  | d :: ds, vs, 0, v, h, e => by
    simp only [RepL] at h
    obtain ⟨u, r, rfl, h1, _⟩ := h
    simp at e; subst e; exact ⟨d, rfl, h1⟩
  | d :: ds, vs, i + 1, v, h, e => by
    simp only [RepL] at h
    obtain ⟨u, r, rfl, _, h2⟩ := h
    obtain ⟨x, q1, q2⟩ := RepL.getV (i := i) (v := v) h2 (by simpa using e)
    exact ⟨x, by simpa using q1, q2⟩
theorem RepL.append : ∀ {ds es : List D} {vs us : List V}, RepL K G H ds vs → RepL K G H es us → RepL K G H (ds ++ es) (vs ++ us)
  | [], _, vs, _, h, t => by simp only [RepL] at h; subst h; exact t
  | d :: ds, _, vs, _, h, t => by
    simp only [RepL] at h
    obtain ⟨v, r, rfl, h1, h2⟩ := h
    exact .cons h1 (RepL.append h2 t)
theorem RepL.take : ∀ {ds : List D} {vs : List V} (n : Nat), RepL K G H ds vs → RepL K G H (ds.take n) (vs.take n)
  | _, _, 0, _ => by simpa using RepL.nil
  | [], vs, n + 1, h => by simp only [RepL] at h; subst h; exact .nil
  | d :: ds, vs, n + 1, h => by
    simp only [RepL] at h
    obtain ⟨v, r, rfl, h1, h2⟩ := h
    exact .cons h1 (RepL.take n h2)
theorem RepL.drop : ∀ {ds : List D} {vs : List V} (n : Nat), RepL K G H ds vs → RepL K G H (ds.drop n) (vs.drop n)
  | _, _, 0, h => h
  | [], vs, n + 1, h => by simp only [RepL] at h; subst h; exact .nil
  | d :: ds, vs, n + 1, h => by
    simp only [RepL] at h
    obtain ⟨v, r, rfl, h1, h2⟩ := h
    exact RepL.drop n h2
theorem RepL.set : ∀ {ds : List D} {vs : List V} {d : D} {v : V} (i : Nat), RepL K G H ds vs → Rep K G H d v → RepL K G H (ds.set i d) (vs.set i v)
  | [], vs, _, _, _, h, _ => by simp only [RepL] at h; subst h; exact .nil
  | d :: ds, vs, _, _, 0, h, q => by
    simp only [RepL] at h
    obtain ⟨v, r, rfl, h1, h2⟩ := h
    exact .cons q h2
  | d :: ds, vs, _, _, i + 1, h, q => by
    simp only [RepL] at h
    obtain ⟨v, r, rfl, h1, h2⟩ := h
    exact .cons h1 (RepL.set i h2 q)
theorem RepL.dropLast {ds : List D} {vs : List V} (h : RepL K G H ds vs) : RepL K G H ds.dropLast vs.dropLast := by
  rw [List.dropLast_eq_take, List.dropLast_eq_take, h.length]; exact h.take _
theorem RepL.eraseIdx : ∀ {ds : List D} {vs : List V} (i : Nat), RepL K G H ds vs → RepL K G H (ds.eraseIdx i) (vs.eraseIdx i)
  | [], vs, _, h => by simp only [RepL] at h; subst h; exact .nil
  | d :: ds, vs, 0, h => by
    simp only [RepL] at h
    obtain ⟨v, r, rfl, h1, h2⟩ := h
    exact h2
  | d :: ds, vs, i + 1, h => by
    simp only [RepL] at h
    obtain ⟨v, r, rfl, h1, h2⟩ := h
    exact .cons h1 (RepL.eraseIdx i h2)
theorem RepL.reverse : ∀ {ds : List D} {vs : List V}, RepL K G H ds vs → RepL K G H ds.reverse vs.reverse
  | [], vs, h => by simp only [RepL] at h; subst h; exact .nil
  | d :: ds, vs, h => by
    simp only [RepL] at h
    obtain ⟨v, r, rfl, h1, h2⟩ := h
    rw [List.reverse_cons, List.reverse_cons]
    exact (RepL.reverse h2).append (.cons h1 .nil)

/-- what stays: every object of H that G does not track; nothing new is tracked but what was not there -/
def Fr (G : Gp) (H : Hp) (G' : Gp) (H' : Hp) : Prop := ∀ a o, G a = none → H a = some o → H' a = some o ∧ G' a = none
theorem Fr.refl : Fr G H G H := fun _ _ h e => ⟨e, h⟩
theorem Fr.trans (a : Fr G H G' H') (b : Fr G' H' G'' H'') : Fr G H G'' H'' := fun c o h e => b c o (a c o h e).2 (a c o h e).1
theorem Fr.sub (a : Fr G H G' H') (s : Sub G'' G') : Fr G H G'' H' := fun c o h e => ⟨(a c o h e).1, s.nn (a c o h e).2⟩
theorem rd_fr {a : Addr} {u : HO} (r : Rd H a u) (f : Fr G H G' H') (n : G a = none) : Rd H' a u ∧ G' a = none := by
  rcases r with e | ⟨o, e⟩
  · exact ⟨.inl (f a _ n e).1, (f a _ n e).2⟩
  · exact ⟨.inr ⟨o, (f a _ n e).1⟩, (f a _ n e).2⟩
mutual
theorem Rep.fr (f : Fr G H G' H') : ∀ {d : D} {v : V}, Rep K G H d v → Rep K G' H' d v
  | .non, _, h => by simpa only [Rep] using h
  | .bl b, _, h => by simpa only [Rep] using h
  | .int i, _, h => by simpa only [Rep] using h
  | .str x, _, h => by simpa only [Rep] using h
  | .tup ds, _, h => by
    simp only [Rep] at h ⊢
    obtain ⟨a, xs, e, q, t⟩ := h
    refine ⟨a, xs, e, ?_, RepL.fr f t⟩
    rcases q with ⟨n, o, r, hd⟩ | q
    · obtain ⟨r', n'⟩ := f a _ n r
      exact .inl ⟨n', o, r', hd⟩
    · exact .inr q
  | .lst ds, _, h => by
    simp only [Rep] at h ⊢
    obtain ⟨a, xs, e, q, t⟩ := h
    refine ⟨a, xs, e, ?_, RepL.fr f t⟩
    rcases q with ⟨n, r⟩ | q
    · obtain ⟨r', n'⟩ := rd_fr r f n
      exact .inl ⟨n', r'⟩
    · exact .inr q
  | .ref a, _, h => by simpa only [Rep] using h
  | .ty n, _, h => by simpa only [Rep] using h
theorem RepL.fr (f : Fr G H G' H') : ∀ {ds : List D} {vs : List V}, RepL K G H ds vs → RepL K G' H' ds vs
  | [], _, h => by simpa only [RepL] using h
  | d :: ds, _, h => by
    simp only [RepL] at h ⊢
    obtain ⟨v, r, e, h1, h2⟩ := h
    exact ⟨v, r, e, Rep.fr f h1, RepL.fr f h2⟩
end
mutual
theorem Rep.sub (s : Sub G' G) : ∀ {d : D} {v : V}, Rep K G H d v → Rep K G' H d v
  | .non, _, h => by simpa only [Rep] using h
  | .bl b, _, h => by simpa only [Rep] using h
  | .int i, _, h => by simpa only [Rep] using h
  | .str x, _, h => by simpa only [Rep] using h
  | .tup ds, _, h => by
    simp only [Rep] at h ⊢
    obtain ⟨a, xs, e, q, t⟩ := h
    refine ⟨a, xs, e, ?_, RepL.sub s t⟩
    rcases q with ⟨n, r⟩ | q
    · exact .inl ⟨s.nn n, r⟩
    · exact .inr q
  | .lst ds, _, h => by
    simp only [Rep] at h ⊢
    obtain ⟨a, xs, e, q, t⟩ := h
    refine ⟨a, xs, e, ?_, RepL.sub s t⟩
    rcases q with ⟨n, r⟩ | q
    · exact .inl ⟨s.nn n, r⟩
    · exact .inr q
  | .ref a, _, h => by simpa only [Rep] using h
  | .ty n, _, h => by simpa only [Rep] using h
theorem RepL.sub (s : Sub G' G) : ∀ {ds : List D} {vs : List V}, RepL K G H ds vs → RepL K G' H ds vs
  | [], _, h => by simpa only [RepL] using h
  | d :: ds, _, h => by
    simp only [RepL] at h ⊢
    obtain ⟨v, r, e, h1, h2⟩ := h
    exact ⟨v, r, e, Rep.sub s h1, RepL.sub s h2⟩
end
theorem Rep.tupSq {ds : List D} {v : V} (h : Rep K G H (.tup ds) v) : ∃ a xs, v = .ref a ∧ SqT K H a xs ∧ RepL K G H ds xs := by
  simp only [Rep] at h
  obtain ⟨a, xs, e, q, t⟩ := h
  refine ⟨a, xs, e, ?_, t⟩
  rcases q with ⟨_, r⟩ | q
  · exact r.sq
  · exact q.sq H
theorem Rep.lstX {ds : List D} {v : V} (h : Rep K G H (.lst ds) v) : ∃ a xs, v = .ref a ∧ LsX K H a xs ∧ RepL K G H ds xs := by
  simp only [Rep] at h
  obtain ⟨a, xs, e, q, t⟩ := h
  exact ⟨a, xs, e, q.elim (fun z => .inl z.2) .inr, t⟩
theorem Rep.lstSq {ds : List D} {v : V} (h : Rep K G H (.lst ds) v) : ∃ a xs, v = .ref a ∧ SqL K H a xs ∧ RepL K G H ds xs := by
  obtain ⟨a, xs, e, q, t⟩ := h.lstX
  exact ⟨a, xs, e, q.sq, t⟩

def KRep (K : PySem.W.Frag) (G : Gp) (H : Hp) : List (Key × D) → List (Key × V) → Prop := fun kvs ws => ws.map (·.1) = kvs.map (·.1) ∧ RepL K G H (kvs.map (·.2)) (ws.map (·.2))
def FRep (K : PySem.W.Frag) (G : Gp) (H : Hp) : List (Str × D) → List (Str × V) → Prop := fun kvs ws => ws.map (·.1) = kvs.map (·.1) ∧ RepL K G H (kvs.map (·.2)) (ws.map (·.2))
/-- a dict with tuple keys, by its entries -/
def dnPhi (a : Addr) (es : Array DictEntry) (ep : Nat) : Heap → Prop := fun h => (a == sysModules) = false ∧ ∃ o, h.get? a = some o ∧ o.ExactDict ∧ o.data = .dict es ep
mutual
def nkey : D → Option NestedKey
  | .non => some .none
  | .bl b => some (.num (if b then 1 else 0))
  | .int i => some (.num i)
  | .str x => some (.text x)
  | .tup l => (nkeys l).map .tup
  | .lst _ => none
  | .ref _ => none
  | .ty _ => none
def nkeys : List D → Option (List NestedKey)
  | [] => some []
  | d :: ds => (nkey d).bind fun k => (nkeys ds).map (k :: ·)
end
def dnEnt (w : World) (x : NestedKey × Addr × Value) : DictEntry := ⟨x.1.hash w, .ref x.2.1, x.2.2⟩
def DnAll (K : PySem.W.Frag) (G : Gp) (H : Hp) : List (D × D) → List (NestedKey × Addr × Value) → Prop
  | [], xs => xs = []
  | kv :: r, xs => ∃ k b u ys v, xs = (k, b, u) :: ys ∧ nkey kv.1 = some k ∧ k.depth ≤ 8 ∧ Rep K G H kv.1 (.ref b) ∧ RelV v u ∧ Rep K G H kv.2 v ∧ DnAll K G H r ys
theorem DnAll.fr (f : Fr G H G' H') : ∀ {kvs : List (D × D)} {xs : List (NestedKey × Addr × Value)}, DnAll K G H kvs xs → DnAll K G' H' kvs xs
  | [], _, h => h
  | kv :: r, _, ⟨k, b, u, ys, v, e, h1, h2, h3, h4, h5, h6⟩ => ⟨k, b, u, ys, v, e, h1, h2, h3.fr f, h4, h5.fr f, DnAll.fr f h6⟩
theorem DnAll.sub (s : Sub G' G) : ∀ {kvs : List (D × D)} {xs : List (NestedKey × Addr × Value)}, DnAll K G H kvs xs → DnAll K G' H kvs xs
  | [], _, h => h
  | kv :: r, _, ⟨k, b, u, ys, v, e, h1, h2, h3, h4, h5, h6⟩ => ⟨k, b, u, ys, v, e, h1, h2, h3.sub s, h4, h5.sub s, DnAll.sub s h6⟩
def ORel (K : PySem.W.Frag) (G : Gp) (H : Hp) (a : Addr) : GO → Prop
  | .lst ds => ∃ xs, H a = some (.lst xs) ∧ RepL K G H ds xs
  | .dic kvs => ∃ ws, H a = some (.dK ws) ∧ KRep K G H kvs ws
  | .rdd kvs => ∃ o ws, H a = some (.frz o (.dK ws)) ∧ KRep K G H kvs ws
  | .ins C fs => ∃ dx ws, H a = some (.ins C dx ws) ∧ FRep K G H fs ws
  | .dn w kvs => ∃ es ep xs, H a = some (.ext (dnPhi a es ep)) ∧ es.toList = xs.map (dnEnt w) ∧ (xs.map (·.1)).Nodup ∧ DnAll K G H kvs xs
def GRel (K : PySem.W.Frag) (G : Gp) (H : Hp) : Prop := ∀ a o, G a = some o → ORel K G H a o
theorem ORel.there {a : Addr} {o : GO} (h : ORel K G H a o) : ∃ u, H a = some u := by
  cases o with
  | lst ds => obtain ⟨xs, e, _⟩ := h; exact ⟨_, e⟩
  | dic kvs => obtain ⟨xs, e, _⟩ := h; exact ⟨_, e⟩
  | rdd kvs => obtain ⟨o, xs, e, _⟩ := h; exact ⟨_, e⟩
  | ins C fs => obtain ⟨dx, xs, e, _⟩ := h; exact ⟨_, e⟩
  | dn w kvs => obtain ⟨es, ep, xs, e, _⟩ := h; exact ⟨_, e⟩
theorem GRel.nn (g : GRel K G H) {a : Addr} (h : H a = none) : G a = none := by
  cases q : G a with
  | none => rfl
  | some o =>
    obtain ⟨u, e⟩ := (g a o q).there
    rw [e] at h; cases h
theorem KRep.fr (f : Fr G H G' H') {kvs : List (Key × D)} {ws : List (Key × V)} (h : KRep K G H kvs ws) : KRep K G' H' kvs ws := ⟨h.1, h.2.fr f⟩
theorem FRep.fr (f : Fr G H G' H') {kvs : List (Str × D)} {ws : List (Str × V)} (h : FRep K G H kvs ws) : FRep K G' H' kvs ws := ⟨h.1, h.2.fr f⟩
/-- the object's own place as it was -/
theorem ORel.fr (f : Fr G H G' H') {a : Addr} {o : GO} (h : ORel K G H a o) (e : H' a = H a) : ORel K G' H' a o := by
  cases o with
  | lst ds => obtain ⟨xs, q, t⟩ := h; exact ⟨xs, e.trans q, t.fr f⟩
  | dic kvs => obtain ⟨xs, q, t⟩ := h; exact ⟨xs, e.trans q, t.fr f⟩
  | rdd kvs => obtain ⟨u, xs, q, t⟩ := h; exact ⟨u, xs, e.trans q, t.fr f⟩
  | ins C fs => obtain ⟨dx, xs, q, t⟩ := h; exact ⟨dx, xs, e.trans q, t.fr f⟩
  | dn w kvs => obtain ⟨es, ep, xs, q, h1, h2, t⟩ := h; exact ⟨es, ep, xs, e.trans q, h1, h2, t.fr f⟩
theorem ORel.sub (s : Sub G' G) {a : Addr} {o : GO} (h : ORel K G H a o) : ORel K G' H a o := by
  cases o with
  | lst ds => obtain ⟨xs, q, t⟩ := h; exact ⟨xs, q, t.sub s⟩
  | dic kvs => obtain ⟨xs, q, t1, t⟩ := h; exact ⟨xs, q, t1, t.sub s⟩
  | rdd kvs => obtain ⟨u, xs, q, t1, t⟩ := h; exact ⟨u, xs, q, t1, t.sub s⟩
  | ins C fs => obtain ⟨dx, xs, q, t1, t⟩ := h; exact ⟨dx, xs, q, t1, t.sub s⟩
  | dn w kvs => obtain ⟨es, ep, xs, q, h1, h2, t⟩ := h; exact ⟨es, ep, xs, q, h1, h2, t.sub s⟩
theorem GRel.sub (g : GRel K G H) (s : Sub G' G) : GRel K G' H := fun a o e => (g a o (s a o e)).sub s
/-- a new object is laid and tracked in H alone -/
theorem Fr.newH {p : Addr} {o : HO} (h : H p = none) : Fr G H G (upd H p o) := fun a u n e => ⟨by rw [upd_ne (ne_of_none e h)]; exact e, n⟩
theorem GRel.newH (g : GRel K G H) {p : Addr} {o : HO} (h : H p = none) : GRel K G (upd H p o) := fun a u e => by
  obtain ⟨w, q⟩ := (g a u e).there
  exact (g a u e).fr (Fr.newH h) (upd_ne (ne_of_none q h))
/-- .. and in G -/
theorem Fr.new {p : Addr} {o : HO} {u : GO} (h : H p = none) : Fr G H (gup G p u) (upd H p o) := fun a w n e => ⟨by rw [upd_ne (ne_of_none e h)]; exact e, by rw [gup_ne (ne_of_none e h)]; exact n⟩
theorem GRel.new (g : GRel K G H) {p : Addr} {o : HO} {u : GO} (h : H p = none) (r : ORel K (gup G p u) (upd H p o) p u) : GRel K (gup G p u) (upd H p o) := fun a w e => by
  by_cases ha : a = p
  · subst ha; rw [gup_same] at e; cases e; exact r
  · rw [gup_ne ha] at e
    exact (g a w e).fr (Fr.new h) (upd_ne ha)
/-- a tracked object is changed -/
theorem Fr.set {p : Addr} {o : HO} {u u0 : GO} (h : G p = some u0) : Fr G H (gup G p u) (upd H p o) := fun a w n e => by
  have ne : a ≠ p := fun z => by rw [z, h] at n; cases n
  exact ⟨by rw [upd_ne ne]; exact e, by rw [gup_ne ne]; exact n⟩
theorem GRel.set (g : GRel K G H) {p : Addr} {o : HO} {u u0 : GO} (h : G p = some u0) (r : ORel K (gup G p u) (upd H p o) p u) : GRel K (gup G p u) (upd H p o) := fun a w e => by
  by_cases ha : a = p
  · subst ha; rw [gup_same] at e; cases e; exact r
  · rw [gup_ne ha] at e
    exact (g a w e).fr (Fr.set h) (upd_ne ha)

abbrev St3 := List (Option D)
def SlRel (K : PySem.W.Frag) (G : Gp) (H : Hp) : St3 → St → Prop
  | [], σ => σ = []
  | none :: r, σ => ∃ p q, σ = p :: q ∧ SlRel K G H r q
  | some d :: r, σ => ∃ v q, σ = some v :: q ∧ Rep K G H d v ∧ SlRel K G H r q
theorem SlRel.get : ∀ {σ3 : St3} {σ : St} {i : Nat} {d : D}, SlRel K G H σ3 σ → σ3[i]? = some (some d) → ∃ v, σ[i]? = some (some v) ∧ Rep K G H d v
  | [], _, _, _, _, e => by simp at e
  | none :: r, σ, 0, _, _, e => by simp at e
  | none :: r, σ, i + 1, d, h, e => by
    obtain ⟨p, q, rfl, h⟩ := h
    obtain ⟨v, h1, h2⟩ := SlRel.get (i := i) h (by simpa using e)
    exact ⟨v, by simpa using h1, h2⟩
  | some x :: r, σ, 0, d, h, e => by
    obtain ⟨v, q, rfl, h1, h⟩ := h
    simp at e; subst e; exact ⟨v, rfl, h1⟩
  | some x :: r, σ, i + 1, d, h, e => by
    obtain ⟨v, q, rfl, h1, h⟩ := h
    obtain ⟨v, h1, h2⟩ := SlRel.get (i := i) h (by simpa using e)
    exact ⟨v, by simpa using h1, h2⟩
theorem SlRel.set : ∀ {σ3 : St3} {σ : St} {i : Nat} {d : D} {v : V}, SlRel K G H σ3 σ → Rep K G H d v → SlRel K G H (σ3.set i (some d)) (σ.set i (some v))
  | [], σ, _, _, _, h, _ => by
    have e : σ = [] := h
    subst e; exact rfl
  | none :: r, σ, 0, _, _, h, q => by
    obtain ⟨p, t, rfl, h⟩ := h
    exact ⟨_, t, rfl, q, h⟩
  | none :: r, σ, i + 1, d, _, h, q => by
    obtain ⟨p, t, rfl, h⟩ := h
    exact ⟨p, _, rfl, SlRel.set (i := i) h q⟩
  | some x :: r, σ, 0, d, _, h, q => by
    obtain ⟨v, t, rfl, h1, h⟩ := h
    exact ⟨_, t, rfl, q, h⟩
  | some x :: r, σ, i + 1, d, _, h, q => by
    obtain ⟨v, t, rfl, h1, h⟩ := h
    exact ⟨v, _, rfl, h1, SlRel.set (i := i) h q⟩
/-- a slot forgotten on both sides -/
theorem SlRel.setN : ∀ {σ3 : St3} {σ : St} {i : Nat} {p : Option V}, SlRel K G H σ3 σ → SlRel K G H (σ3.set i none) (σ.set i p)
  | [], σ, _, _, h => by
    have e : σ = [] := h
    subst e; exact rfl
  | none :: r, σ, 0, _, h => by
    obtain ⟨p, t, rfl, h⟩ := h
    exact ⟨_, t, rfl, h⟩
  | none :: r, σ, i + 1, _, h => by
    obtain ⟨p, t, rfl, h⟩ := h
    exact ⟨p, _, rfl, SlRel.setN (i := i) h⟩
  | some x :: r, σ, 0, _, h => by
    obtain ⟨v, t, rfl, h1, h⟩ := h
    exact ⟨_, t, rfl, h⟩
  | some x :: r, σ, i + 1, _, h => by
    obtain ⟨v, t, rfl, h1, h⟩ := h
    exact ⟨v, _, rfl, h1, SlRel.setN (i := i) h⟩
theorem SlRel.length : ∀ {σ3 : St3} {σ : St}, SlRel K G H σ3 σ → σ3.length = σ.length
  | [], σ, h => by
    have e : σ = [] := h
    subst e; rfl
  | none :: r, σ, h => by
    obtain ⟨p, q, rfl, h⟩ := h
    simp [SlRel.length h]
  | some d :: r, σ, h => by
    obtain ⟨v, q, rfl, _, h⟩ := h
    simp [SlRel.length h]
theorem SlRel.fr (f : Fr G H G' H') : ∀ {σ3 : St3} {σ : St}, SlRel K G H σ3 σ → SlRel K G' H' σ3 σ
  | [], _, h => h
  | none :: r, σ, h => by
    obtain ⟨p, q, e, h⟩ := h
    exact ⟨p, q, e, SlRel.fr f h⟩
  | some d :: r, σ, h => by
    obtain ⟨v, q, e, h1, h⟩ := h
    exact ⟨v, q, e, h1.fr f, SlRel.fr f h⟩
theorem SlRel.sub (s : Sub G' G) : ∀ {σ3 : St3} {σ : St}, SlRel K G H σ3 σ → SlRel K G' H σ3 σ
  | [], _, h => h
  | none :: r, σ, h => by
    obtain ⟨p, q, e, h⟩ := h
    exact ⟨p, q, e, SlRel.sub s h⟩
  | some d :: r, σ, h => by
    obtain ⟨v, q, e, h1, h⟩ := h
    exact ⟨v, q, e, h1.sub s, SlRel.sub s h⟩
/-- slots forgotten -/
def SlSub : St3 → St3 → Prop
  | [], t => t = []
  | none :: r, t => ∃ p q, t = p :: q ∧ SlSub r q
  | some d :: r, t => ∃ q, t = some d :: q ∧ SlSub r q
theorem SlSub.refl : ∀ σ : St3, SlSub σ σ
  | [] => rfl
  | none :: r => ⟨none, r, rfl, SlSub.refl r⟩
  | some d :: r => ⟨r, rfl, SlSub.refl r⟩
theorem SlRel.weak : ∀ {τ σ3 : St3} {σ : St}, SlSub τ σ3 → SlRel K G H σ3 σ → SlRel K G H τ σ
  | [], t, σ, s, h => by
    have e : t = [] := s
    subst e; exact h
  | none :: r, t, σ, s, h => by
    obtain ⟨p, q, rfl, s⟩ := s
    cases p with
    | none =>
      obtain ⟨p, q, rfl, h⟩ := h
      exact ⟨p, q, rfl, SlRel.weak s h⟩
    | some d =>
      obtain ⟨v, q, rfl, h1, h⟩ := h
      exact ⟨_, q, rfl, SlRel.weak s h⟩
  | some d :: r, t, σ, s, h => by
    obtain ⟨q, rfl, s⟩ := s
    obtain ⟨v, q, rfl, h1, h⟩ := h
    exact ⟨v, q, rfl, h1, SlRel.weak s h⟩
end

def jn (G F : Gp) : Gp := fun a => match G a with
  | some o => some o
  | none => F a
def Dj (G F : Gp) : Prop := ∀ a o, G a = some o → F a = none
theorem jn_none {G F : Gp} {a : Addr} (h : G a = none) : jn G F a = F a := by unfold jn; rw [h]
theorem jn_some {G F : Gp} {a : Addr} {o : GO} (h : G a = some o) : jn G F a = some o := by unfold jn; rw [h]
theorem jn_nn {G F : Gp} {a : Addr} (h : jn G F a = none) : G a = none ∧ F a = none := by
  cases q : G a with
  | none => rw [jn_none q] at h; exact ⟨rfl, h⟩
  | some o => rw [jn_some q] at h; cases h
theorem jn_gup {G F : Gp} {a : Addr} {o : GO} : jn (gup G a o) F = gup (jn G F) a o := by
  funext b
  by_cases h : b = a
  · subst h; rw [gup_same, jn_some gup_same]
  · rw [gup_ne h]; unfold jn; rw [gup_ne h]
theorem jn_gupF {G F : Gp} {a : Addr} {o : GO} (h : G a = none) : jn G (gup F a o) = gup (jn G F) a o := by
  funext b
  by_cases e : b = a
  · subst e; rw [gup_same, jn_none h, gup_same]
  · rw [gup_ne e]; unfold jn; rw [gup_ne e]
theorem jn_sub {G G' F : Gp} (s : Sub G' G) (d : Dj G F) : Sub (jn G' F) (jn G F) := fun a o e => by
  cases q : G' a with
  | some u => rw [jn_some q] at e; rw [jn_some (s a u q)]; exact e
  | none =>
    rw [jn_none q] at e
    cases q2 : G a with
    | none => rw [jn_none q2]; exact e
    | some u => rw [d a u q2] at e; cases e
theorem Dj.sub {G G' F : Gp} (d : Dj G F) (s : Sub G' G) : Dj G' F := fun a o e => d a o (s a o e)
theorem Dj.gup {G F : Gp} {p : Addr} {u : GO} (d : Dj G F) (h : F p = none) : Dj (gup G p u) F := fun a o e => by
  by_cases ha : a = p
  · rw [ha]; exact h
  · rw [gup_ne ha] at e; exact d a o e
/-- from (G, H) to (G', H'), F beside it -/
structure Tr (K : PySem.W.Frag) (F G : Gp) (H : Hp) (G' : Gp) (H' : Hp) : Prop where
  dj : Dj G' F
  g : GRel K (jn G' F) H'
  f : Fr (jn G F) H (jn G' F) H'
  k : ∀ a o, F a = some o → H' a = H a
section
variable {K : PySem.W.Frag} {F G G' G'' : Gp} {H H' H'' : Hp}
theorem Tr.refl (d : Dj G F) (g : GRel K (jn G F) H) : Tr K F G H G H := ⟨d, g, Fr.refl, fun _ _ _ => rfl⟩
theorem Tr.trans (a : Tr K F G H G' H') (b : Tr K F G' H' G'' H'') : Tr K F G H G'' H'' := ⟨b.dj, b.g, a.f.trans b.f, fun c o e => (b.k c o e).trans (a.k c o e)⟩
theorem Tr.sub (a : Tr K F G H G' H') (s : Sub G'' G') : Tr K F G H G'' H' := ⟨a.dj.sub s, a.g.sub (jn_sub s a.dj), a.f.sub (jn_sub s a.dj), a.k⟩
theorem Tr.rep {d : D} {v : V} (a : Tr K F G H G' H') (r : Rep K (jn G F) H d v) : Rep K (jn G' F) H' d v := r.fr a.f
theorem Tr.repL {d : List D} {v : List V} (a : Tr K F G H G' H') (r : RepL K (jn G F) H d v) : RepL K (jn G' F) H' d v := r.fr a.f
theorem Tr.newH {p : Addr} {o : HO} (d : Dj G F) (g : GRel K (jn G F) H) (h : H p = none) : Tr K F G H G (upd H p o) := ⟨d, g.newH h, Fr.newH h, fun a u e => upd_ne (fun z => by
  have q := (jn_nn (g.nn h)).2
  rw [← z, e] at q; cases q)⟩
theorem Tr.new {p : Addr} {o : HO} {u : GO} (d : Dj G F) (g : GRel K (jn G F) H) (h : H p = none) (r : ORel K (gup (jn G F) p u) (upd H p o) p u) : Tr K F G H (gup G p u) (upd H p o) := by
  have q := (jn_nn (g.nn h)).2
  refine ⟨d.gup q, ?_, ?_, fun a u e => upd_ne (fun z => by rw [← z, e] at q; cases q)⟩
  · rw [jn_gup]; exact g.new h r
  · rw [jn_gup]; exact Fr.new h
theorem Tr.set {p : Addr} {o : HO} {u u0 : GO} (d : Dj G F) (g : GRel K (jn G F) H) (h : G p = some u0) (r : ORel K (gup (jn G F) p u) (upd H p o) p u) : Tr K F G H (gup G p u) (upd H p o) := by
  have q := d p u0 h
  refine ⟨d.gup q, ?_, ?_, fun a u e => upd_ne (fun z => by rw [← z, e] at q; cases q)⟩
  · rw [jn_gup]; exact g.set (jn_some h) r
  · rw [jn_gup]; exact Fr.set (jn_some h)
structure Rel (K : PySem.W.Frag) (F : Gp) (σ3 : St3) (G : Gp) (σ : St) (H : Hp) : Prop where
  sl : SlRel K (jn G F) H σ3 σ
  g : GRel K (jn G F) H
  dj : Dj G F
theorem Rel.tr {σ3 : St3} {σ : St} (r : Rel K F σ3 G σ H) (a : Tr K F G H G' H') : Rel K F σ3 G' σ H' := ⟨r.sl.fr a.f, a.g, a.dj⟩
theorem Rel.sub {σ3 : St3} {σ : St} (r : Rel K F σ3 G σ H) (s : Sub G' G) : Rel K F σ3 G' σ H := ⟨r.sl.sub (jn_sub s r.dj), r.g.sub (jn_sub s r.dj), r.dj.sub s⟩
theorem Rel.here {σ3 : St3} {σ : St} (r : Rel K F σ3 G σ H) : Tr K F G H G H := .refl r.dj r.g
end
end L3
namespace L3
open PySem PySem.Spec PyProof.Rows L2

abbrev XK3 := Value → List (Str × D) → Gp → Prop
abbrev TE3 := St3 → Gp → XK3 → (D → Gp → Prop) → Prop
abbrev TT3 := St3 → Gp → XK3 → (Bool → Gp → Prop) → Prop
abbrev TA3 := St3 → Gp → XK3 → (List D → Gp → Prop) → Prop
abbrev R3 := D → D → Gp → (D → Gp → Prop) → Prop
abbrev F3 := List D → Gp → (D → Gp → Prop) → Prop
abbrev TS := L2.TS
abbrev TE := L2.TE
abbrev TT := L2.TT
abbrev TA := L2.TA

/-- an exception's own dict -/
def XRel (K : PySem.W.Frag) (G : Gp) (H : Hp) (d : Option Addr) (fs : List (Str × D)) : Prop :=
  fs = [] ∨ ∃ dd ws, d = some dd ∧ H dd = some (.xd ws) ∧ G dd = none ∧ FRep K G H fs ws
def Post (K : PySem.W.Frag) (F G : Gp) (H : Hp) (Q3 : D → Gp → Prop) (Q : VK) : Prop :=
  ∀ x G', Q3 x G' → ∀ v H', Tr K F G H G' H' → Rep K (jn G' F) H' x v → Q v H'
def PostB (K : PySem.W.Frag) (F G : Gp) (H : Hp) (Q3 : Bool → Gp → Prop) (Q : Bool → Hp → Prop) : Prop :=
  ∀ b G', Q3 b G' → ∀ H', Tr K F G H G' H' → Q b H'
def PostA (K : PySem.W.Frag) (F G : Gp) (H : Hp) (Q3 : List D → Gp → Prop) (Q : List V → Hp → Prop) : Prop :=
  ∀ ds G', Q3 ds G' → ∀ vs H', Tr K F G H G' H' → RepL K (jn G' F) H' ds vs → Q vs H'
/-- a list that was made just now -/
def PostL (K : PySem.W.Frag) (F G : Gp) (H : Hp) (Q3 : List D → Gp → Prop) (Q : VK) : Prop :=
  ∀ ds G', Q3 ds G' → ∀ a H', G' a = none → Tr K F G H (gup G' a (.lst ds)) H' → Q (.ref a) H'
def PostX (K : PySem.W.Frag) (F G : Gp) (H : Hp) (E3 : XK3) (E : Value → Option Addr → Hp → Prop) : Prop :=
  ∀ c fs G', E3 c fs G' → ∀ d H', Tr K F G H G' H' → XRel K (jn G' F) H' d fs → E c d H'
section
variable {K : PySem.W.Frag} {F G G1 : Gp} {H H1 : Hp}
theorem Post.tr {Q3 : D → Gp → Prop} {Q : VK} (p : Post K F G H Q3 Q) (f : Tr K F G H G1 H1) : Post K F G1 H1 Q3 Q := fun x G' h v H' f' r => p x G' h v H' (f.trans f') r
theorem PostB.tr {Q3 : Bool → Gp → Prop} {Q : Bool → Hp → Prop} (p : PostB K F G H Q3 Q) (f : Tr K F G H G1 H1) : PostB K F G1 H1 Q3 Q := fun x G' h H' f' => p x G' h H' (f.trans f')
theorem PostA.tr {Q3 : List D → Gp → Prop} {Q : List V → Hp → Prop} (p : PostA K F G H Q3 Q) (f : Tr K F G H G1 H1) : PostA K F G1 H1 Q3 Q := fun x G' h v H' f' r => p x G' h v H' (f.trans f') r
theorem PostL.tr {Q3 : List D → Gp → Prop} {Q : VK} (p : PostL K F G H Q3 Q) (f : Tr K F G H G1 H1) : PostL K F G1 H1 Q3 Q := fun ds G' h a H' n f' => p ds G' h a H' n (f.trans f')
theorem PostX.tr {E3 : XK3} {E : Value → Option Addr → Hp → Prop} (p : PostX K F G H E3 E) (f : Tr K F G H G1 H1) : PostX K F G1 H1 E3 E := fun c fs G' h d H' f' r => p c fs G' h d H' (f.trans f') r
end
def liftE (K : PySem.W.Frag) (W : WX) (t : TE3) : TE := fun σ H Q => ∃ σ3 G F E3 Q3, Rel K F σ3 G σ H ∧ t σ3 G E3 Q3 ∧ PostX K F G H E3 (fun c d H' => W c d σ H') ∧ Post K F G H Q3 Q
def liftT (K : PySem.W.Frag) (W : WX) (t : TT3) : TT := fun σ H Q => ∃ σ3 G F E3 Q3, Rel K F σ3 G σ H ∧ t σ3 G E3 Q3 ∧ PostX K F G H E3 (fun c d H' => W c d σ H') ∧ PostB K F G H Q3 Q
def liftA (K : PySem.W.Frag) (W : WX) (t : TA3) : TA := fun σ H Q => ∃ σ3 G F E3 Q3, Rel K F σ3 G σ H ∧ t σ3 G E3 Q3 ∧ PostX K F G H E3 (fun c d H' => W c d σ H') ∧ PostA K F G H Q3 Q
def liftL (K : PySem.W.Frag) (W : WX) (t : TA3) : TE := fun σ H Q => ∃ σ3 G F E3 Q3, Rel K F σ3 G σ H ∧ t σ3 G E3 Q3 ∧ PostX K F G H E3 (fun c d H' => W c d σ H') ∧ PostL K F G H Q3 Q
/-- by values: the heap as it stands -/
structure At (K : PySem.W.Frag) (F G : Gp) (H : Hp) : Prop where
  dj : Dj G F
  g : GRel K (jn G F) H
theorem At.tr {K : PySem.W.Frag} {F G : Gp} {H : Hp} (a : At K F G H) : Tr K F G H G H := .refl a.dj a.g
theorem Tr.at {K : PySem.W.Frag} {F G G' : Gp} {H H' : Hp} (a : Tr K F G H G' H') : At K F G' H' := ⟨a.dj, a.g⟩
theorem Rel.at {K : PySem.W.Frag} {F G : Gp} {H : Hp} {σ3 : St3} {σ : St} (a : Rel K F σ3 G σ H) : At K F G H := ⟨a.dj, a.g⟩
def liftR (K : PySem.W.Frag) (r : R3) : R2 := fun v u H Q => ∃ x y G F Q3, At K F G H ∧ Rep K (jn G F) H x v ∧ Rep K (jn G F) H y u ∧ r x y G Q3 ∧ Post K F G H Q3 Q
def liftRL (K : PySem.W.Frag) (r : D → D → Gp → (List D → Gp → Prop) → Prop) : R2 := fun v u H Q => ∃ x y G F Q3, At K F G H ∧ Rep K (jn G F) H x v ∧ Rep K (jn G F) H y u ∧ r x y G Q3 ∧ PostL K F G H Q3 Q
def liftU (K : PySem.W.Frag) (r : D → Gp → (D → Gp → Prop) → Prop) : V → Hp → VK → Prop := fun v H Q => ∃ x G F Q3, At K F G H ∧ Rep K (jn G F) H x v ∧ r x G Q3 ∧ Post K F G H Q3 Q
def liftF (K : PySem.W.Frag) (r : F3) : List V → Hp → VK → Prop := fun vs H Q => ∃ ds G F Q3, At K F G H ∧ RepL K (jn G F) H ds vs ∧ r ds G Q3 ∧ Post K F G H Q3 Q
/-- .. whose answer is a new list -/
def liftFL (K : PySem.W.Frag) (r : List D → Gp → (List D → Gp → Prop) → Prop) : List V → Hp → VK → Prop := fun vs H Q => ∃ ds G F Q3, At K F G H ∧ RepL K (jn G F) H ds vs ∧ r ds G Q3 ∧ PostL K F G H Q3 Q
def liftM (K : PySem.W.Frag) (r : D → List D → Gp → (D → Gp → Prop) → Prop) : V → List V → Hp → VK → Prop := fun v vs H Q => ∃ x ds G F Q3, At K F G H ∧ Rep K (jn G F) H x v ∧ RepL K (jn G F) H ds vs ∧ r x ds G Q3 ∧ Post K F G H Q3 Q
def liftML (K : PySem.W.Frag) (r : D → List D → Gp → (List D → Gp → Prop) → Prop) : V → List V → Hp → VK → Prop := fun v vs H Q => ∃ x ds G F Q3, At K F G H ∧ Rep K (jn G F) H x v ∧ RepL K (jn G F) H ds vs ∧ r x ds G Q3 ∧ PostL K F G H Q3 Q
/-- a value's truth -/
def liftTr (K : PySem.W.Frag) (r : D → Gp → (Bool → Gp → Prop) → Prop) : V → Hp → (Bool → Hp → Prop) → Prop := fun v H Q => ∃ x G F Q3, At K F G H ∧ Rep K (jn G F) H x v ∧ r x G Q3 ∧ PostB K F G H Q3 Q

def PE3 (X : Cx) (e : Expr) (t : TE3) : Prop := ∀ W, Takes X W → PE X e (liftE X.K W t)
def PT3 (X : Cx) (e : Expr) (t : TT3) : Prop := ∀ W, Takes X W → PT X e (liftT X.K W t)
def PW3 (X : Cx) (e : Expr) (t : TT3) : Prop := ∀ W, Takes X W → PW X e (liftT X.K W t)
def PA3 (X : Cx) (es : List Expr) (t : TA3) : Prop := ∀ W, Takes X W → PA X es (liftA X.K W t)
def PL3 (X : Cx) (e : Expr) (t : TA3) : Prop := ∀ W, Takes X W → PE X e (liftL X.K W t)

section
variable {X : Cx} {e : Expr} {es : List Expr}
theorem PE.imp {t t' : TE} (h : PE X e t) (i : ∀ σ H Q, t' σ H Q → t σ H Q) : PE X e t' := ⟨fun pins s σ H Q I q => h.run pins s σ H Q I (i σ H Q q)⟩
theorem PT.imp {t t' : TT} (h : PT X e t) (i : ∀ σ H Q, t' σ H Q → t σ H Q) : PT X e t' := ⟨fun pins s σ H Q I q => h.run pins s σ H Q I (i σ H Q q)⟩
theorem PW.imp {t t' : TT} (h : PW X e t) (i : ∀ σ H Q, t' σ H Q → t σ H Q) : PW X e t' := ⟨fun wh pins s σ H Q I q => h.run wh pins s σ H Q I (i σ H Q q)⟩
theorem PA.imp {t t' : TA} (h : PA X es t) (i : ∀ σ H Q, t' σ H Q → t σ H Q) : PA X es t' := ⟨fun p pins s σ H Q I q => h.run p pins s σ H Q I (i σ H Q q)⟩
theorem PS.imp {st : Stmt} {t t' : TS} (h : PS X st t) (i : ∀ D σ H, t' D σ H → t D σ H) : PS X st t' := ⟨fun pins s σ H D I q => h.run pins s σ H D I (i D σ H q)⟩
theorem PSs.imp {st : List Stmt} {t t' : TS} (h : PSs X st t) (i : ∀ D σ H, t' D σ H → t D σ H) : PSs X st t' := ⟨fun pins s σ H D I q => h.run pins s σ H D I (i D σ H q)⟩
theorem OpR.imp {f : Value → Value → Sem Value} {r r' : R2} (h : OpR X f r) (i : ∀ x y H Q, r' x y H Q → r x y H Q) : OpR X f r' := fun pins s σ H x y v u Q I rx ry q => h pins s σ H x y v u Q I rx ry (i _ _ _ _ q)
theorem UnR.imp {f : Value → Sem Value} {r r' : V → Hp → VK → Prop} (h : UnR X f r) (i : ∀ x H Q, r' x H Q → r x H Q) : UnR X f r' := fun pins s σ H x v Q I rx q => h pins s σ H x v Q I rx (i _ _ _ q)
theorem CallR.imp {f : Value} {r r' : List V → Hp → VK → Prop} (h : CallR X f r) (i : ∀ xs H Q, r' xs H Q → r xs H Q) : CallR X f r' := fun pins s σ H xs us Q I rx q => h pins s σ H xs us Q I rx (i _ _ _ q)
theorem IxR.imp {r r' : R2} (h : IxR X r) (i : ∀ x y H Q, r' x y H Q → r x y H Q) : IxR X r' := fun value slice pins s σ H x y v u Q I rx ry q hs => h value slice pins s σ H x y v u Q I rx ry (i _ _ _ _ q) hs
theorem MtR.imp {id : String} {r r' : V → List V → Hp → VK → Prop} (h : MtR X id r) (i : ∀ x xs H Q, r' x xs H Q → r x xs H Q) : MtR X id r' := fun pins s σ H x xs v us Q I rx rxs q => h pins s σ H x xs v us Q I rx rxs (i _ _ _ _ q)
theorem SlR.imp {r r' : V → Option Int → Option Int → Hp → VK → Prop} (h : SlR X r) (i : ∀ x lo hi H Q, r' x lo hi H Q → r x lo hi H Q) : SlR X r' := fun pins s σ H x v vl vu lo hi sl Q I rx hs pl pu q => h pins s σ H x v vl vu lo hi sl Q I rx hs pl pu (i _ _ _ _ _ q)
end

def tVar3 (i : Nat) : TE3 := fun σ G _ Q => match σ[i]? with
  | some (some d) => Q d G
  | _ => False
def tC3 (d : D) : TE3 := fun _ G _ Q => Q d G
def tNo3 : TE3 := fun _ _ _ _ => False
section
variable {X : Cx} {e a b : Expr} {es : List Expr} {pos : Pos} {ta tb te : TE3}
theorem pe3_no : PE3 X e tNo3 := fun W tk => ⟨fun pins s σ H Q I q => by obtain ⟨_, _, _, _, _, _, h, _⟩ := q; exact h.elim⟩
theorem pe3_var {i : Nat} {x : Str} (hN : X.N[i]? = some x) (hv : Vis X.env.scope x) (hd : (x == ("__debug__" : Str)) = false) (hcd : (x == ("__classdict__" : Str)) = false) : PE3 X (.Name x pos) (tVar3 i) := fun W tk =>
  PE.imp (pe_var hN hv hd hcd) fun σ H Q ⟨σ3, G, F, E3, Q3, r, h, px, p⟩ => by
    unfold tVar3 at h
    split at h
    · rename_i d e
      obtain ⟨v, q1, q2⟩ := r.sl.get e
      exact ⟨v, q1, p _ _ h _ _ r.here q2⟩
    · exact h.elim
/-- a datum that stands for a value whatever the heap -/
def Fix (K : PySem.W.Frag) (d : D) (v : V) : Prop := ∀ G H, Rep K G H d v
theorem pe3_const {d : D} {v : V} (h : PE X e (tC v)) (f : Fix X.K d v) : PE3 X e (tC3 d) := fun W tk =>
  PE.imp h fun σ H Q ⟨σ3, G, F, E3, Q3, r, h, px, p⟩ => p _ _ h _ _ r.here (f _ H)
theorem fix_int {K i} : Fix K (.int i) (.int i) := fun _ _ => by simp only [Rep]
theorem fix_bl {K i} : Fix K (.bl i) (.bl i) := fun _ _ => by simp only [Rep]
theorem fix_str {K i} : Fix K (.str i) (.str i) := fun _ _ => by simp only [Rep]
theorem fix_non {K} : Fix K .non .non := fun _ _ => by simp only [Rep]
theorem fix_ty {K n} : Fix K (.ty n) (.ty n) := fun _ _ => by simp only [Rep]
theorem fix_ref {K n} : Fix K (.ref n) (.ref n) := fun _ _ => by simp only [Rep]
theorem pe3_int {i j} : PE3 X (.Constant (.int i) j pos) (tC3 (.int i)) := pe3_const pe_int fix_int
theorem pe3_bl {i j} : PE3 X (.Constant (.bool i) j pos) (tC3 (.bl i)) := pe3_const pe_bl fix_bl
theorem pe3_str {i j} : PE3 X (.Constant (.str i) j pos) (tC3 (.str i)) := pe3_const pe_str fix_str
theorem pe3_non {j} : PE3 X (.Constant .none j pos) (tC3 .non) := pe3_const pe_non fix_non

def tNil3 : TA3 := fun _ G _ Q => Q [] G
def tCons3 (ta : TE3) (tr : TA3) : TA3 := fun σ G E Q => ta σ G E fun x G1 => tr σ G1 E fun xs G2 => Q (x :: xs) G2
theorem pa3_nil : PA3 X [] tNil3 := fun W tk => PA.imp pa_nil fun σ H Q ⟨σ3, G, F, E3, Q3, r, h, px, p⟩ => p _ _ h _ _ r.here .nil
theorem pa3_cons {tr : TA3} (ha : PE3 X e ta) (hr : PA3 X es tr) (hs : starEach (e :: es) X.env = (false, eval e X.env) :: starEach es X.env) : PA3 X (e :: es) (tCons3 ta tr) := fun W tk =>
  PA.imp (pa_cons (ha W tk) (hr W tk) hs) fun σ H Q ⟨σ3, G, F, E3, Q3, r, h, px, p⟩ =>
    ⟨σ3, G, F, E3, _, r, h, px, fun x G1 hx v H1 f1 rv => ⟨σ3, G1, F, E3, _, r.tr f1, hx, px.tr f1, fun xs G2 hxs vs H2 f2 rvs => p _ _ hxs _ _ (f1.trans f2) (.cons (f2.rep rv) rvs)⟩⟩
def tTup3 (ta : TA3) : TE3 := fun σ G E Q => ta σ G E fun ds G1 => ds.length ≤ sizeLine ∧ Q (.tup ds) G1
theorem rep_tupNew {K : PySem.W.Frag} {G : Gp} {H : Hp} {ds : List D} {xs : List V} {p : Addr} {o : Obj} (g : GRel K G H) (h : H p = none) (ho : o.dict = none) (r : RepL K G H ds xs) : Rep K G (upd H p (.frz o (.tup xs))) (.tup ds) (.ref p) := by
  simp only [Rep]
  exact ⟨p, xs, rfl, .inl ⟨g.nn h, o, upd_same, ho⟩, r.fr (Fr.newH h)⟩
/-- a new tuple is known to have no dict -/
def tTupF (t : TA) : TE := fun σ H Q => t σ H fun xs H1 => xs.length ≤ sizeLine ∧ ∀ p o, H1 p = none → o.dict = none → Q (.ref p) (upd H1 p (.frz o (.tup xs)))
theorem laid_tup {pins : List (Addr × Obj)} {σ : St} {H : Hp} {s : Shared} {xs : List V} {us : List Value} {Q : VK} (I : Inv X pins σ H s) (r : Vals xs us) (z : xs.length ≤ sizeLine) (q : ∀ p o, H p = none → o.dict = none → Q (.ref p) (upd H p (.frz o (.tup xs)))) :
    EP X pins σ Q (.ref s.heap.objs.size) { s with heap := s.heap.push { cls := .type "tuple", data := .seq us.toArray } } := by
  have hf : H s.heap.objs.size = none := I.hok.fresh (Nat.le_refl _)
  refine ⟨.ref s.heap.objs.size, upd H s.heap.objs.size (.frz { cls := .type "tuple", data := .seq us.toArray } (.tup xs)), I.laid (t' := s.toks) (fun b u e => Heap.get?_push_of_some _ e) (Nat.le_refl _) ?_, rfl, q _ _ hf rfl⟩
  exact ⟨Heap.get?_push_size _ rfl, z, us, r, ⟨_, Heap.get?_push_size _ rfl, rfl, _, rfl⟩⟩
theorem pe_tupF {x1} {t : TA} (h : PA X es t) : PE X (.Tuple es x1 pos) (tTupF t) := by
  refine ⟨fun pins s σ H Q I hq => ?_⟩
  exact wpAny_Tuple_spliced (thn (h.run pos pins s σ H _ I hq) fun us s1 ⟨xs, H1, I1, r, z, q⟩ => ⟨by rw [← r.length]; exact z, laid_tup I1 r z q⟩)
theorem orel_new {K : PySem.W.Frag} {G : Gp} {H : Hp} {ds : List D} {xs : List V} {p : Addr} (h : H p = none) (r : RepL K G H ds xs) : ORel K (gup G p (.lst ds)) (upd H p (.lst xs)) p (.lst ds) := ⟨xs, upd_same, r.fr (Fr.new h)⟩
theorem pe3_tup {t : TA3} {k : Nat} (h : PA3 X es t) : PE3 X (.Tuple es k pos) (tTup3 t) := fun W tk =>
  PE.imp (pe_tupF (h W tk)) fun σ H Q ⟨σ3, G, F, E3, Q3, r, h, px, p⟩ =>
    ⟨σ3, G, F, E3, _, r, h, px, fun ds G1 hd vs H1 f1 rv => ⟨by rw [← rv.length]; exact hd.1, fun a o ha ho => p _ _ hd.2 _ _ (f1.trans (.newH f1.dj f1.g ha)) (rep_tupNew f1.g ha ho rv)⟩⟩
def tLs3 (t : TA3) : TA3 := fun σ G E Q => t σ G E fun ds G1 => ds.length ≤ sizeLine ∧ Q ds G1
theorem pl3_list {t : TA3} (h : PA3 X es t) : PL3 X (.List es pos) (tLs3 t) := fun W tk =>
  PE.imp (pe_lst (h W tk)) fun σ H Q ⟨σ3, G, F, E3, Q3, r, h, px, p⟩ =>
    ⟨σ3, G, F, E3, _, r, h, px, fun ds G1 hd vs H1 f1 rv => ⟨by rw [← rv.length]; exact hd.1, fun a ha => p _ _ hd.2 _ _ (jn_nn (f1.g.nn ha)).1 (f1.trans (.new f1.dj f1.g ha (orel_new ha rv)))⟩⟩
/-- a new list, as a value, as a tracked one -/
def tLv3 (t : TA3) : TE3 := fun σ G E Q => t σ G E fun ds G1 => Q (.lst ds) G1
def tLn3 (t : TA3) : TE3 := fun σ G E Q => t σ G E fun ds G1 => ∀ a, G1 a = none → Q (.ref a) (gup G1 a (.lst ds))
theorem rep_lstOf {K : PySem.W.Frag} {F G : Gp} {H : Hp} {ds : List D} {a : Addr} (n : G a = none) (d : Dj (gup G a (.lst ds)) F) (g : GRel K (jn (gup G a (.lst ds)) F) H) : Rep K (jn G F) H (.lst ds) (.ref a) := by
  obtain ⟨xs, e, r⟩ := g a _ (jn_some gup_same)
  simp only [Rep]
  exact ⟨a, xs, rfl, .inl ⟨by rw [jn_none n]; exact d a _ gup_same, .inl e⟩, r.sub (jn_sub (Sub.gup n) d)⟩
theorem pe3_lv {t : TA3} (h : PL3 X e t) : PE3 X e (tLv3 t) := fun W tk =>
  PE.imp (h W tk) fun σ H Q ⟨σ3, G, F, E3, Q3, r, h, px, p⟩ =>
    ⟨σ3, G, F, E3, _, r, h, px, fun ds G1 hd a H1 n f1 => p _ _ hd _ _ (f1.sub (Sub.gup n)) (rep_lstOf n f1.dj f1.g)⟩
theorem pe3_ln {t : TA3} (h : PL3 X e t) : PE3 X e (tLn3 t) := fun W tk =>
  PE.imp (h W tk) fun σ H Q ⟨σ3, G, F, E3, Q3, r, h, px, p⟩ =>
    ⟨σ3, G, F, E3, _, r, h, px, fun ds G1 hd a H1 n f1 => p _ _ (hd a n) _ _ f1 (by simp only [Rep])⟩

def Op3 (X : Cx) (f : Value → Value → Sem Value) (r : R3) : Prop := OpR X f (liftR X.K r)
def tOp3 (r : R3) (ta tb : TE3) : TE3 := fun σ G E Q => ta σ G E fun x G1 => tb σ G1 E fun y G2 => r x y G2 Q
theorem op_step {W : WX} {r : R3} {σ : St} {H : Hp} {Q : VK} (h : liftE X.K W (tOp3 r ta tb) σ H Q) : tOp (liftR X.K r) (liftE X.K W ta) (liftE X.K W tb) σ H Q := by
  obtain ⟨σ3, G, F, E3, Q3, r, h, px, p⟩ := h
  exact ⟨σ3, G, F, E3, _, r, h, px, fun x G1 hx v H1 f1 rv => ⟨σ3, G1, F, E3, _, r.tr f1, hx, px.tr f1, fun y G2 hy u H2 f2 ru => ⟨x, y, G2, F, Q3, f2.at, f2.rep rv, ru, hy, p.tr (f1.trans f2)⟩⟩⟩
theorem pe3_op {op : Operator} {r : R3} (ho : Op3 X (binaryOp op) r) (ha : PE3 X a ta) (hb : PE3 X b tb) : PE3 X (.BinOp a op b pos) (tOp3 r ta tb) := fun W tk =>
  PE.imp (pe_op ho (ha W tk) (hb W tk)) fun σ H Q h => op_step h
/-- an operator that makes a list -/
def OpL3 (X : Cx) (f : Value → Value → Sem Value) (r : D → D → Gp → (List D → Gp → Prop) → Prop) : Prop := OpR X f (liftRL X.K r)
def tOpL3 (r : D → D → Gp → (List D → Gp → Prop) → Prop) (ta tb : TE3) : TA3 := fun σ G E Q => ta σ G E fun x G1 => tb σ G1 E fun y G2 => r x y G2 Q
theorem pl3_op {op : Operator} {r : D → D → Gp → (List D → Gp → Prop) → Prop} (ho : OpL3 X (binaryOp op) r) (ha : PE3 X a ta) (hb : PE3 X b tb) : PL3 X (.BinOp a op b pos) (tOpL3 r ta tb) := fun W tk =>
  PE.imp (pe_op ho (ha W tk) (hb W tk)) fun σ H Q ⟨σ3, G, F, E3, Q3, r, h, px, p⟩ =>
    ⟨σ3, G, F, E3, _, r, h, px, fun x G1 hx v H1 f1 rv => ⟨σ3, G1, F, E3, _, r.tr f1, hx, px.tr f1, fun y G2 hy u H2 f2 ru => ⟨x, y, G2, F, Q3, f2.at, f2.rep rv, ru, hy, p.tr (f1.trans f2)⟩⟩⟩
theorem pe3_cmp {op : CmpOp} {r : R3} (ho : Op3 X (compareOp op) r) (ha : PE3 X a ta) (hb : PE3 X b tb) (hm : behindInMarks op b = false) : PE3 X (.Compare a [op] [b] pos) (tOp3 r ta tb) := fun W tk =>
  PE.imp (pe_cmpR ho (ha W tk) (hb W tk) hm) fun σ H Q h => op_step h
/-- a bool as a test -/
def tB3 (t : TE3) : TT3 := fun σ G E Q => t σ G E fun x G1 => match x with
  | .bl k => Q k G1
  | _ => False
theorem rep_bl {K : PySem.W.Frag} {G : Gp} {H : Hp} {k : Bool} {v : V} (r : Rep K G H (.bl k) v) : v = .bl k := by simpa only [Rep] using r
theorem rep_int {K : PySem.W.Frag} {G : Gp} {H : Hp} {k : Int} {v : V} (r : Rep K G H (.int k) v) : v = .int k := by simpa only [Rep] using r
theorem rep_str {K : PySem.W.Frag} {G : Gp} {H : Hp} {k : Str} {v : V} (r : Rep K G H (.str k) v) : v = .str k := by simpa only [Rep] using r
theorem rep_non {K : PySem.W.Frag} {G : Gp} {H : Hp} {v : V} (r : Rep K G H .non v) : v = .non := by simpa only [Rep] using r
theorem rep_ref {K : PySem.W.Frag} {G : Gp} {H : Hp} {k : Addr} {v : V} (r : Rep K G H (.ref k) v) : v = .ref k := by simpa only [Rep] using r
theorem rep_ty {K : PySem.W.Frag} {G : Gp} {H : Hp} {k : String} {v : V} (r : Rep K G H (.ty k) v) : v = .ty k := by simpa only [Rep] using r
theorem pt3_cmp {op : CmpOp} {r : R3} (ho : Op3 X (compareOp op) r) (ha : PE3 X a ta) (hb : PE3 X b tb) (hm : behindInMarks op b = false) : PT3 X (.Compare a [op] [b] pos) (tB3 (tOp3 r ta tb)) := fun W tk =>
  PT.imp (pt_cmpR ho (ha W tk) (hb W tk) hm) fun σ H Q ⟨σ3, G, F, E3, Q3, r, h, px, p⟩ => op_step (W := W) ⟨σ3, G, F, E3, _, r, h, px, fun x G1 hx v H1 f1 rv => by
    cases x with
    | bl k => exact ⟨k, rep_bl rv, p _ _ hx _ f1⟩
    | _ => exact hx.elim⟩
theorem pt3_val (h : PE3 X e te) (he : ∀ whole, isTrue e X.env whole = (do let v ← whole; standAt e.pos; holding [v] (truthy v))) : PT3 X e (tB3 te) := fun W tk =>
  PT.imp (pt_val (h W tk) he) fun σ H Q ⟨σ3, G, F, E3, Q3, r, h, px, p⟩ => ⟨σ3, G, F, E3, _, r, h, px, fun x G1 hx v H1 f1 rv => by
    cases x with
    | bl k => exact ⟨k, rep_bl rv, p _ _ hx _ f1⟩
    | _ => exact hx.elim⟩
/-- two comparisons in a row -/
def tChain3 (r r' : R3) (ta tb tc : TE3) : TE3 := fun σ G E Q => ta σ G E fun x G1 => tb σ G1 E fun y G2 => r x y G2 fun z G3 => match z with
  | .bl true => tc σ G3 E fun w G4 => r' y w G4 Q
  | .bl false => Q (.bl false) G3
  | _ => False
end
end L3
namespace L3
open PySem PySem.Spec PyProof.Rows L2
section
variable {X : Cx} {e a b c : Expr} {es rest : List Expr} {pos : Pos} {ta tb tc te : TE3} {t u : TT3}
theorem chain_step {W : WX} {r r' : R3} {σ : St} {H : Hp} {Q : VK} (h : liftE X.K W (tChain3 r r' ta tb tc) σ H Q) : tChain (liftR X.K r) (liftR X.K r') (liftE X.K W ta) (liftE X.K W tb) (liftE X.K W tc) σ H Q := by
  obtain ⟨σ3, G, F, E3, Q3, rr, h, px, p⟩ := h
  refine ⟨σ3, G, F, E3, _, rr, h, px, fun x G1 hx v H1 f1 rv => ⟨σ3, G1, F, E3, _, rr.tr f1, hx, px.tr f1, fun y G2 hy u H2 f2 ru => ⟨x, y, G2, F, _, f2.at, f2.rep rv, ru, hy, fun z G3 hz w H3 f3 rw' => ?_⟩⟩⟩
  cases z with
  | bl k =>
    refine ⟨k, rep_bl rw', ?_⟩
    have f13 := f1.trans (f2.trans f3)
    cases k with
    | true =>
      exact ⟨σ3, G3, F, E3, _, rr.tr f13, hz, px.tr f13, fun w G4 hw w' H4 f4 rw4 => ⟨y, w, G4, F, Q3, f4.at, (f3.trans f4).rep ru, rw4, hw, p.tr (f13.trans f4)⟩⟩
    | false => exact p _ _ hz _ _ f13 (by simp only [Rep])
  | _ => exact hz.elim
theorem pe3_chain {op op' : CmpOp} {r r' : R3} (ho : Op3 X (compareOp op) r) (ho' : Op3 X (compareOp op') r') (ha : PE3 X a ta) (hb : PE3 X b tb) (hc : PE3 X c tc) (hm : lastMarks [op, op'] [b, c] = false) : PE3 X (.Compare a [op, op'] [b, c] pos) (tChain3 r r' ta tb tc) := fun W tk =>
  PE.imp (pe_chain ho ho' (ha W tk) (hb W tk) (hc W tk) hm) fun σ H Q h => chain_step h
theorem pt3_chain {op op' : CmpOp} {r r' : R3} (ho : Op3 X (compareOp op) r) (ho' : Op3 X (compareOp op') r') (ha : PE3 X a ta) (hb : PE3 X b tb) (hc : PE3 X c tc) (hm : lastMarks [op, op'] [b, c] = false) : PT3 X (.Compare a [op, op'] [b, c] pos) (tB3 (tChain3 r r' ta tb tc)) := fun W tk =>
  PT.imp (pt_chain ho ho' (ha W tk) (hb W tk) (hc W tk) hm) fun σ H Q ⟨σ3, G, F, E3, Q3, rr, h, px, p⟩ => chain_step (W := W) ⟨σ3, G, F, E3, _, rr, h, px, fun x G1 hx v H1 f1 rv => by
    cases x with
    | bl k => exact ⟨k, rep_bl rv, p _ _ hx _ f1⟩
    | _ => exact hx.elim⟩

def tAnd3 (t u : TT3) : TT3 := fun σ G E Q => t σ G E fun k G1 => match k with
  | true => u σ G1 E Q
  | false => Q false G1
def tOr3 (t u : TT3) : TT3 := fun σ G E Q => t σ G E fun k G1 => match k with
  | true => Q true G1
  | false => u σ G1 E Q
def tNot3 (t : TT3) : TT3 := fun σ G E Q => t σ G E fun k G1 => Q (!k) G1
theorem pw3_and1 (ha : PT3 X a t) : PW3 X (.BoolOp .And [a] pos) t := fun W tk => pw_and1 (ha W tk)
theorem pw3_or1 (ha : PT3 X a t) : PW3 X (.BoolOp .Or [a] pos) t := fun W tk => pw_or1 (ha W tk)
theorem pw3_and (ha : PT3 X a t) (hb : PW3 X (.BoolOp .And (b :: rest) pos) u) : PW3 X (.BoolOp .And (a :: b :: rest) pos) (tAnd3 t u) := fun W tk =>
  PW.imp (pw_and (ha W tk) (hb W tk)) fun σ H Q ⟨σ3, G, F, E3, Q3, r, h, px, p⟩ => ⟨σ3, G, F, E3, _, r, h, px, fun k G1 hk H1 f1 => by
    cases k with
    | true => rw [if_pos rfl]; exact ⟨σ3, G1, F, E3, Q3, r.tr f1, hk, px.tr f1, p.tr f1⟩
    | false => rw [if_neg Bool.false_ne_true]; exact p _ _ hk _ f1⟩
theorem pw3_or (ha : PT3 X a t) (hb : PW3 X (.BoolOp .Or (b :: rest) pos) u) : PW3 X (.BoolOp .Or (a :: b :: rest) pos) (tOr3 t u) := fun W tk =>
  PW.imp (pw_or (ha W tk) (hb W tk)) fun σ H Q ⟨σ3, G, F, E3, Q3, r, h, px, p⟩ => ⟨σ3, G, F, E3, _, r, h, px, fun k G1 hk H1 f1 => by
    cases k with
    | false => rw [if_neg Bool.false_ne_true]; exact ⟨σ3, G1, F, E3, Q3, r.tr f1, hk, px.tr f1, p.tr f1⟩
    | true => rw [if_pos rfl]; exact p _ _ hk _ f1⟩
theorem PW3.pt {X : Cx} {e : Expr} {t : TT3} (h : PW3 X e t) : PT3 X e t := fun W tk => (h W tk).pt
theorem pt3_not (ha : PT3 X a t) : PT3 X (.UnaryOp .Not a pos) (tNot3 t) := fun W tk =>
  PT.imp (pt_not (ha W tk)) fun σ H Q ⟨σ3, G, F, E3, Q3, r, h, px, p⟩ => ⟨σ3, G, F, E3, _, r, h, px, fun k G1 hk H1 f1 => p _ _ hk _ f1⟩
/-- as values, of bools -/
def tAndV3 (ta tb : TE3) : TE3 := fun σ G E Q => ta σ G E fun x G1 => match x with
  | .bl true => tb σ G1 E Q
  | .bl false => Q (.bl false) G1
  | _ => False
def tOrV3 (ta tb : TE3) : TE3 := fun σ G E Q => ta σ G E fun x G1 => match x with
  | .bl true => Q (.bl true) G1
  | .bl false => tb σ G1 E Q
  | _ => False
def tNotV3 (ta : TE3) : TE3 := fun σ G E Q => ta σ G E fun x G1 => match x with
  | .bl k => Q (.bl (!k)) G1
  | _ => False
theorem pe3_one {op} (h : PE3 X a ta) : PE3 X (.BoolOp op [a] pos) ta := fun W tk => pe_one (h W tk)
theorem pe3_and (ha : PE3 X a ta) (hb : PE3 X (.BoolOp .And (b :: rest) pos) tb) : PE3 X (.BoolOp .And (a :: b :: rest) pos) (tAndV3 ta tb) := fun W tk =>
  PE.imp (pe_and (ha W tk) (hb W tk)) fun σ H Q ⟨σ3, G, F, E3, Q3, r, h, px, p⟩ => ⟨σ3, G, F, E3, _, r, h, px, fun x G1 hx v H1 f1 rv => by
    cases x with
    | bl k =>
      refine ⟨k, rep_bl rv, ?_⟩
      cases k with
      | true => rw [if_pos rfl]; exact ⟨σ3, G1, F, E3, Q3, r.tr f1, hx, px.tr f1, p.tr f1⟩
      | false => rw [if_neg Bool.false_ne_true]; exact p _ _ hx _ _ f1 (by simp only [Rep])
    | _ => exact hx.elim⟩
theorem pe3_or (ha : PE3 X a ta) (hb : PE3 X (.BoolOp .Or (b :: rest) pos) tb) : PE3 X (.BoolOp .Or (a :: b :: rest) pos) (tOrV3 ta tb) := fun W tk =>
  PE.imp (pe_or (ha W tk) (hb W tk)) fun σ H Q ⟨σ3, G, F, E3, Q3, r, h, px, p⟩ => ⟨σ3, G, F, E3, _, r, h, px, fun x G1 hx v H1 f1 rv => by
    cases x with
    | bl k =>
      refine ⟨k, rep_bl rv, ?_⟩
      cases k with
      | false => rw [if_neg Bool.false_ne_true]; exact ⟨σ3, G1, F, E3, Q3, r.tr f1, hx, px.tr f1, p.tr f1⟩
      | true => rw [if_pos rfl]; exact p _ _ hx _ _ f1 (by simp only [Rep])
    | _ => exact hx.elim⟩
theorem pe3_not (ha : PE3 X a ta) : PE3 X (.UnaryOp .Not a pos) (tNotV3 ta) := fun W tk =>
  PE.imp (pe_not (ha W tk)) fun σ H Q ⟨σ3, G, F, E3, Q3, r, h, px, p⟩ => ⟨σ3, G, F, E3, _, r, h, px, fun x G1 hx v H1 f1 rv => by
    cases x with
    | bl k => exact ⟨k, rep_bl rv, p _ _ hx _ _ f1 (by simp only [Rep])⟩
    | _ => exact hx.elim⟩
def tIf3 (t : TT3) (ta tb : TE3) : TE3 := fun σ G E Q => t σ G E fun k G1 => match k with
  | true => ta σ G1 E Q
  | false => tb σ G1 E Q
theorem pe3_if {c : Expr} (hc : PT3 X c t) (ha : PE3 X a ta) (hb : PE3 X b tb) : PE3 X (.IfExp c a b pos) (tIf3 t ta tb) := fun W tk =>
  PE.imp (pe_ifExp (hc W tk) (ha W tk) (hb W tk)) fun σ H Q ⟨σ3, G, F, E3, Q3, r, h, px, p⟩ => ⟨σ3, G, F, E3, _, r, h, px, fun k G1 hk H1 f1 => by
    cases k with
    | true => rw [if_pos rfl]; exact ⟨σ3, G1, F, E3, Q3, r.tr f1, hk, px.tr f1, p.tr f1⟩
    | false => rw [if_neg Bool.false_ne_true]; exact ⟨σ3, G1, F, E3, Q3, r.tr f1, hk, px.tr f1, p.tr f1⟩⟩
/-- one operand -/
def Un3 (X : Cx) (f : Value → Sem Value) (r : D → Gp → (D → Gp → Prop) → Prop) : Prop := UnR X f (liftU X.K r)
def tUn3 (r : D → Gp → (D → Gp → Prop) → Prop) (ta : TE3) : TE3 := fun σ G E Q => ta σ G E fun x G1 => r x G1 Q
theorem pe3_un {op : UnaryOp} {r : D → Gp → (D → Gp → Prop) → Prop} (ho : Un3 X (unaryOp op) r) (ha : PE3 X a ta) : PE3 X (.UnaryOp op a pos) (tUn3 r ta) := fun W tk =>
  PE.imp (pe_un ho (ha W tk)) fun σ H Q ⟨σ3, G, F, E3, Q3, r, h, px, p⟩ => ⟨σ3, G, F, E3, _, r, h, px, fun x G1 hx v H1 f1 rv => ⟨x, G1, F, Q3, f1.at, rv, hx, p.tr f1⟩⟩
end

structure Ends3 where
  nx : St3 → Gp → Prop
  rt : D → Gp → Prop
  bk : St3 → Gp → Prop := fun _ _ => False
  ct : St3 → Gp → Prop := fun _ _ => False
  ex : Value → List (Str × D) → St3 → Gp → Prop := fun _ _ _ _ => False
abbrev TS3 := Ends3 → St3 → Gp → Prop
/-- behind: the slots too -/
structure TrS (K : PySem.W.Frag) (F G : Gp) (H : Hp) (τ : St3) (G' : Gp) (σ' : St) (H' : Hp) : Prop where
  t : Tr K F G H G' H'
  sl : SlRel K (jn G' F) H' τ σ'
theorem TrS.rel {K : PySem.W.Frag} {F G : Gp} {H : Hp} {τ : St3} {G' : Gp} {σ' : St} {H' : Hp} (a : TrS K F G H τ G' σ' H') : Rel K F τ G' σ' H' := ⟨a.sl, a.t.g, a.t.dj⟩
theorem Rel.tS {K : PySem.W.Frag} {F G G' : Gp} {H H' : Hp} {τ : St3} {σ : St} (r : Rel K F τ G σ H) (f : Tr K F G H G' H') : TrS K F G H τ G' σ H' := ⟨f, r.sl.fr f.f⟩
theorem Tr.tS {K : PySem.W.Frag} {F G G1 G' : Gp} {H H1 H' : Hp} {τ : St3} {σ' : St} (f : Tr K F G H G1 H1) (a : TrS K F G1 H1 τ G' σ' H') : TrS K F G H τ G' σ' H' := ⟨f.trans a.t, a.sl⟩
def PostS (K : PySem.W.Frag) (F G : Gp) (H : Hp) (q : St3 → Gp → Prop) (Q : St → Hp → Prop) : Prop :=
  ∀ τ G', q τ G' → ∀ σ' H', TrS K F G H τ G' σ' H' → Q σ' H'
structure EndsOk (K : PySem.W.Frag) (W : WX) (F G : Gp) (H : Hp) (D3 : Ends3) (D : Ends) : Prop where
  nx : PostS K F G H D3.nx D.nx
  rt : Post K F G H D3.rt D.rt
  bk : PostS K F G H D3.bk D.bk
  ct : PostS K F G H D3.ct D.ct
  ex : ∀ c fs τ G', D3.ex c fs τ G' → ∀ d σ' H', TrS K F G H τ G' σ' H' → XRel K (jn G' F) H' d fs → W c d σ' H'
theorem PostS.tr {K : PySem.W.Frag} {F G G1 : Gp} {H H1 : Hp} {q : St3 → Gp → Prop} {Q : St → Hp → Prop} (p : PostS K F G H q Q) (f : Tr K F G H G1 H1) : PostS K F G1 H1 q Q := fun τ G' h σ' H' r => p τ G' h σ' H' (f.tS r)
theorem EndsOk.tr {K : PySem.W.Frag} {W : WX} {F G G1 : Gp} {H H1 : Hp} {D3 : Ends3} {D : Ends} (p : EndsOk K W F G H D3 D) (f : Tr K F G H G1 H1) : EndsOk K W F G1 H1 D3 D :=
  ⟨p.nx.tr f, p.rt.tr f, p.bk.tr f, p.ct.tr f, fun c fs τ G' h d σ' H' r x => p.ex c fs τ G' h d σ' H' (f.tS r) x⟩
def liftS (K : PySem.W.Frag) (W : WX) (t : TS3) : TS := fun D σ H => ∃ σ3 G F D3, Rel K F σ3 G σ H ∧ t D3 σ3 G ∧ EndsOk K W F G H D3 D
def PS3 (X : Cx) (st : Stmt) (t : TS3) : Prop := ∀ W, Takes X W → PS X st (liftS X.K W t)
def PSs3 (X : Cx) (st : List Stmt) (t : TS3) : Prop := ∀ W, Takes X W → PSs X st (liftS X.K W t)
/-- what a statement's expression is to do with an exception -/
abbrev Ends3.xk (D : Ends3) (σ : St3) : XK3 := fun c fs G => D.ex c fs σ G
theorem EndsOk.xp {K : PySem.W.Frag} {W : WX} {F G : Gp} {H : Hp} {D3 : Ends3} {D : Ends} {σ3 : St3} {σ : St} (p : EndsOk K W F G H D3 D) (r : Rel K F σ3 G σ H) : PostX K F G H (D3.xk σ3) (fun c d H' => W c d σ H') :=
  fun c fs G' h d H' f x => p.ex c fs σ3 G' h d σ H' (r.tS f) x
section
variable {X : Cx} {st : Stmt} {sts : List Stmt} {e : Expr} {pos : Pos} {t u : TS3} {te : TE3}
def tNext3 : TS3 := fun D σ G => D.nx σ G
def tSeq3 (t u : TS3) : TS3 := fun D σ G => t { D with nx := u D } σ G
theorem pss3_nil : PSs3 X [] tNext3 := fun W tk => PSs.imp pss_nil fun D σ H ⟨σ3, G, F, D3, r, h, p⟩ => p.nx _ _ h _ _ (r.tS r.here)
theorem pss3_cons (h1 : PS3 X st t) (h2 : PSs3 X sts u) : PSs3 X (st :: sts) (tSeq3 t u) := fun W tk =>
  PSs.imp (pss_cons (h1 W tk) (h2 W tk)) fun D σ H ⟨σ3, G, F, D3, r, h, p⟩ => ⟨σ3, G, F, _, r, h, ⟨fun τ G' q σ' H' r' => ⟨τ, G', F, D3, r'.rel, q, p.tr r'.t⟩, p.rt, p.bk, p.ct, p.ex⟩⟩
theorem ps3_pass : PS3 X (.Pass pos) tNext3 := fun W tk => PS.imp ps_pass fun D σ H ⟨σ3, G, F, D3, r, h, p⟩ => p.nx _ _ h _ _ (r.tS r.here)
def tBreak3 : TS3 := fun D σ G => D.bk σ G
def tCont3 : TS3 := fun D σ G => D.ct σ G
theorem ps3_break : PS3 X (.Break pos) tBreak3 := fun W tk => PS.imp ps_break fun D σ H ⟨σ3, G, F, D3, r, h, p⟩ => p.bk _ _ h _ _ (r.tS r.here)
theorem ps3_continue : PS3 X (.Continue pos) tCont3 := fun W tk => PS.imp ps_continue fun D σ H ⟨σ3, G, F, D3, r, h, p⟩ => p.ct _ _ h _ _ (r.tS r.here)
def tNever3 : TS3 := fun _ _ _ => False
theorem ps3_never : PS3 X st tNever3 := fun W tk => PS.imp ps_never fun D σ H ⟨σ3, G, F, D3, r, h, p⟩ => h.elim
theorem pss3_never : PSs3 X sts tNever3 := fun W tk => PSs.imp pss_never fun D σ H ⟨σ3, G, F, D3, r, h, p⟩ => h.elim
/-- an expression statement -/
def tDrop3 (te : TE3) : TS3 := fun D σ G => te σ G (D.xk σ) fun _ G1 => D.nx σ G1
theorem ps3_expr (he : PE3 X e te) (hs : swapsWith e none pos.line X.env = pure false) : PS3 X (.Expr e pos) (tDrop3 te) := fun W tk =>
  PS.imp (ps_expr (he W tk) hs) fun D σ H ⟨σ3, G, F, D3, r, h, p⟩ => ⟨σ3, G, F, _, _, r, h, p.xp r, fun x G1 hx v H1 f1 rv => p.nx _ _ hx _ _ (r.tS f1)⟩
def tRet3 (te : TE3) : TS3 := fun D σ G => te σ G (D.xk σ) D.rt
theorem ps3_ret (he : PE3 X e te) : PS3 X (.Return (some e) pos) (tRet3 te) := fun W tk =>
  PS.imp (ps_ret (he W tk)) fun D σ H ⟨σ3, G, F, D3, r, h, p⟩ => ⟨σ3, G, F, _, _, r, h, p.xp r, p.rt⟩
def tRetN3 : TS3 := fun D _ G => D.rt .non G
theorem ps3_retN : PS3 X (.Return none pos) tRetN3 := fun W tk =>
  PS.imp ps_retN fun D σ H ⟨σ3, G, F, D3, r, h, p⟩ => p.rt _ _ h _ _ r.here (by simp only [Rep])
def tIfS3 (c : TT3) (t u : TS3) : TS3 := fun D σ G => c σ G (D.xk σ) fun k G1 => match k with
  | true => t D σ G1
  | false => u D σ G1
theorem ps3_if {c : Expr} {a b : List Stmt} {tc : TT3} (hc : PT3 X c tc) (ha : PSs3 X a t) (hb : PSs3 X b u) : PS3 X (.If c a b pos) (tIfS3 tc t u) := fun W tk =>
  PS.imp (ps_if (hc W tk) (ha W tk) (hb W tk)) fun D σ H ⟨σ3, G, F, D3, r, h, p⟩ => ⟨σ3, G, F, _, _, r, h, p.xp r, fun k G1 hk H1 f1 => by
    cases k with
    | true => rw [if_pos rfl]; exact ⟨σ3, G1, F, D3, r.tr f1, hk, p.tr f1⟩
    | false => rw [if_neg Bool.false_ne_true]; exact ⟨σ3, G1, F, D3, r.tr f1, hk, p.tr f1⟩⟩

abbrev TG3 := D → St3 → Gp → XK3 → (St3 → Gp → Prop) → Prop
abbrev TGs3 := List D → St3 → Gp → (St3 → Gp → Prop) → Prop
def liftG (K : PySem.W.Frag) (W : WX) (g : TG3) : TG := fun v σ H Q => ∃ x σ3 G F E3 Q3, Rel K F σ3 G σ H ∧ Rep K (jn G F) H x v ∧ g x σ3 G E3 Q3 ∧ PostX K F G H E3 (fun c d H' => W c d σ H') ∧ PostS K F G H Q3 Q
def liftGs (K : PySem.W.Frag) (g : TGs3) : TGs := fun vs σ H Q => ∃ xs σ3 G F Q3, Rel K F σ3 G σ H ∧ RepL K (jn G F) H xs vs ∧ g xs σ3 G Q3 ∧ PostS K F G H Q3 Q
def PG3 (X : Cx) (e : Expr) (g : TG3) : Prop := ∀ W, Takes X W → PG X e (liftG X.K W g)
/-- targets in a row (their parts raise nothing) -/
def PGs3 (X : Cx) (es : List Expr) (g : TGs3) : Prop := ∀ W, Takes X W → PGs X es (liftGs X.K g)
theorem PG.imp {g g' : TG} (h : PG X e g) (i : ∀ v σ H Q, g' v σ H Q → g v σ H Q) : PG X e g' := ⟨fun pins s σ H v u Q I r q => h.run pins s σ H v u Q I r (i _ _ _ _ q)⟩
theorem PG.or {g g' : TG} (h : PG X e g) (h' : PG X e g') : PG X e (fun v σ H Q => g v σ H Q ∨ g' v σ H Q) := ⟨fun pins s σ H v u Q I r q => q.elim (h.run pins s σ H v u Q I r) (h'.run pins s σ H v u Q I r)⟩
theorem PGs.imp {es : List Expr} {g g' : TGs} (h : PGs X es g) (i : ∀ v σ H Q, g' v σ H Q → g v σ H Q) : PGs X es g' := ⟨fun pins s σ H v u Q I r q => h.run pins s σ H v u Q I r (i _ _ _ _ q)⟩
def gName3 (i : Nat) : TG3 := fun x σ G _ Q => Q (σ.set i (some x)) G
theorem pg3_name {i : Nat} {x : Str} (hN : X.N.Nodup) (hi : X.N[i]? = some x) (hx : Loc X.env.scope x) (hf : X.fn x = true ∨ X.env.scope.names.lookup x = some .local) : PG3 X (.Name x pos) (gName3 i) := fun W tk =>
  PG.imp (pg_name hN hi hx hf) fun v σ H Q ⟨x, σ3, G, F, E3, Q3, r, rv, h, px, p⟩ => p _ _ h _ _ ⟨r.here, r.sl.set rv⟩
def gNil3 : TGs3 := fun xs σ G Q => match xs with
  | [] => Q σ G
  | _ => False
def gCons3 (g : TG3) (gs : TGs3) : TGs3 := fun xs σ G Q => match xs with
  | x :: r => g x σ G (fun _ _ _ => False) fun σ' G' => gs r σ' G' Q
  | [] => False
theorem pgs3_nil : PGs3 X [] gNil3 := fun W tk => PGs.imp pgs_nil fun vs σ H Q ⟨xs, σ3, G, F, Q3, r, rv, h, p⟩ => by
  cases xs with
  | nil => simp only [RepL] at rv; exact ⟨rv, p _ _ h _ _ (r.tS r.here)⟩
  | cons _ _ => exact h.elim
theorem pgs3_cons {es : List Expr} {g : TG3} {gs : TGs3} (h1 : PG3 X e g) (h2 : PGs3 X es gs) (hs : (assignEach (e :: es) X.env).map (·.2) = assign e X.env :: (assignEach es X.env).map (·.2)) : PGs3 X (e :: es) (gCons3 g gs) := fun W tk =>
  PGs.imp (pgs_cons (h1 W tk) (h2 W tk) hs) fun vs σ H Q ⟨xs, σ3, G, F, Q3, r, rv, h, p⟩ => by
    cases xs with
    | nil => exact h.elim
    | cons x xs =>
      simp only [RepL] at rv
      obtain ⟨v, rr, e1, r1, r2⟩ := rv
      exact ⟨v, rr, e1, x, σ3, G, F, _, _, r, r1, h, fun _ _ _ z => z.elim, fun τ G1 q σ1 H1 rl => ⟨xs, τ, G1, F, Q3, rl.rel, rl.t.repL r2, q, p.tr rl.t⟩⟩
/-- a tuple of targets -/
def gTup3 (n : Nat) (gs : TGs3) : TG3 := fun x σ G _ Q => match x with
  | .tup ds => ds.length = n ∧ gs ds σ G Q
  | .lst ds => ds.length = n ∧ gs ds σ G Q
  | .ref a => (match G a with
    | some (.lst ds) => ds.length = n ∧ gs ds σ G Q
    | _ => False)
  | _ => False
theorem at_list {K : PySem.W.Frag} {F G : Gp} {H : Hp} (t : At K F G H) {a : Addr} {ds : List D} (h : G a = some (.lst ds)) : ∃ xs, H a = some (.lst xs) ∧ RepL K (jn G F) H ds xs := t.g a _ (jn_some h)
theorem pg3_tup {es : List Expr} {k n : Nat} {gs : TGs3} (hc : X.calm = true) (h : PGs3 X es gs) (hn : (assignEach es X.env).length = n) (hst : (assignEach es X.env).findIdx? (·.1) = none) : PG3 X (.Tuple es k pos) (gTup3 n gs) := fun W tk =>
  PG.imp (PG.or (pg_tup hc (h W tk) hn hst) (pg_lst hc (h W tk) hn hst)) fun v σ H Q ⟨x, σ3, G, F, E3, Q3, r, rv, hh, px, p⟩ => by
    cases x with
    | tup ds =>
      obtain ⟨a, xs, e, q, t⟩ := rv.tupSq
      exact .inl ⟨a, xs, e, q, by rw [← t.length]; exact hh.1, ds, σ3, G, F, Q3, r, t, hh.2, p⟩
    | lst ds =>
      obtain ⟨a, xs, e, q, t⟩ := rv.lstSq
      exact .inr ⟨a, xs, e, q, by rw [← t.length]; exact hh.1, ds, σ3, G, F, Q3, r, t, hh.2, p⟩
    | ref a =>
      have ev := rep_ref rv
      simp only [gTup3] at hh
      split at hh
      · rename_i ds e
        obtain ⟨xs, q, t⟩ := at_list r.at e
        exact .inr ⟨a, xs, ev, SqL.of q, by rw [← t.length]; exact hh.1, ds, σ3, G, F, Q3, r, t, hh.2, p⟩
      · exact hh.elim
    | _ => exact hh.elim
/-- target = value -/
def tAsg3 (te : TE3) (g : TG3) : TS3 := fun D σ G => te σ G (D.xk σ) fun x G1 => g x σ G1 (D.xk σ) D.nx
theorem ps3_asg {tg e : Expr} {g : TG3} (he : PE3 X e te) (hg : PG3 X tg g) (hs : swapsWithSole [tg] e pos.line X.env = pure false) (hw : swappedStores [tg] e X.env = pure none) (h1 : (assignEach [tg] X.env).map (·.2) = [assign tg X.env]) : PS3 X (.Assign [tg] e pos) (tAsg3 te g) := fun W tk =>
  PS.imp (ps_asg (he W tk) (hg W tk) hs hw h1) fun D σ H ⟨σ3, G, F, D3, r, h, p⟩ => ⟨σ3, G, F, _, _, r, h, p.xp r, fun x G1 hx v H1 f1 rv => ⟨x, σ3, G1, F, _, _, r.tr f1, rv, hx, (p.tr f1).xp (r.tr f1), p.nx.tr f1⟩⟩
theorem ps3_set {i : Nat} {x : Str} {pos' : Pos} (hN : X.N.Nodup) (hi : X.N[i]? = some x) (hx : Loc X.env.scope x) (he : PE3 X e te) (hs : swapsWith e (some (.Name x pos')) pos.line X.env = pure false) (hf : X.fn x = true ∨ X.env.scope.names.lookup x = some .local) :
    PS3 X (.Assign [.Name x pos'] e pos) (tAsg3 te (gName3 i)) := fun W tk =>
  PS.imp (ps_set hN hi hx (he W tk) hs hf) fun D σ H ⟨σ3, G, F, D3, r, h, p⟩ => ⟨σ3, G, F, _, _, r, h, p.xp r, fun x G1 hx v H1 f1 rv => p.nx _ _ hx _ _ ⟨f1, (r.tr f1).sl.set rv⟩⟩
/-- o[i] = v -/
def liftSet (K : PySem.W.Frag) (r : D → D → D → Gp → (Gp → Prop) → Prop) : TSet := fun o i v H Q => ∃ x y z G F Q3, At K F G H ∧ Rep K (jn G F) H x o ∧ Rep K (jn G F) H y i ∧ Rep K (jn G F) H z v ∧ r x y z G Q3 ∧ ∀ G', Q3 G' → ∀ H', Tr K F G H G' H' → Q H'
def Set3 (X : Cx) (r : D → D → D → Gp → (Gp → Prop) → Prop) : Prop := PSet X (liftSet X.K r)
def gSub3 (to ti : TE3) (r : D → D → D → Gp → (Gp → Prop) → Prop) : TG3 := fun v σ G E Q => to σ G E fun o G1 => ti σ G1 E fun i G2 => r o i v G2 fun G3 => Q σ G3
theorem pg3_sub {o i : Expr} {to ti : TE3} {rr : D → D → D → Gp → (Gp → Prop) → Prop} (ho : PE3 X o to) (hi : PE3 X i ti) (hs : Set3 X rr)
    (ha : ∀ v, assign (.Subscript o i pos) X.env v = (do
      let ov ← holding [v] (eval o X.env)
      let iv ← holding [v, ov] (eval i X.env)
      standAt pos
      holding [v, ov, iv] (setItem ov iv v)
      release [v, ov, iv] [])) : PG3 X (.Subscript o i pos) (gSub3 to ti rr) := fun W tk =>
  PG.imp (pg_sub (ho W tk) (hi W tk) hs ha) fun v σ H Q ⟨x, σ3, G, F, E3, Q3, r, rv, h, px, p⟩ =>
    ⟨σ3, G, F, E3, _, r, h, px, fun o G1 ho ov H1 f1 ro => ⟨σ3, G1, F, E3, _, r.tr f1, ho, px.tr f1, fun i G2 hi iv H2 f2 ri => ⟨o, i, x, G2, F, _, f2.at, f2.rep ro, ri, (f1.trans f2).rep rv, hi, fun G3 h3 H3 f3 => p _ _ h3 _ _ (r.tS (f1.trans (f2.trans f3)))⟩⟩⟩
/-- name op= e -/
def Ip3 (X : Cx) (op : Operator) (r : R3) : Prop := PIp X op (liftR X.K r)
def tAug3 (i : Nat) (te : TE3) (r : R3) : TS3 := fun D σ G => match σ[i]? with
  | some (some x) => te σ G (D.xk σ) fun y G1 => r x y G1 fun z G2 => D.nx (σ.set i (some z)) G2
  | _ => False
theorem ps3_aug {i : Nat} {x : Str} {op : Operator} {rr : R3} {pos' : Pos} (hN : X.N.Nodup) (hi : X.N[i]? = some x) (hx : Loc X.env.scope x) (he : PE3 X e te) (ho : Ip3 X op rr) (hf : X.fn x = true ∨ X.env.scope.names.lookup x = some .local) :
    PS3 X (.AugAssign (.Name x pos') op e pos) (tAug3 i te rr) := fun W tk =>
  PS.imp (ps_aug hN hi hx (he W tk) ho hf) fun D σ H ⟨σ3, G, F, D3, r, h, p⟩ => by
    unfold tAug3 at h
    split at h
    · rename_i d ed
      obtain ⟨v, e1, rv⟩ := r.sl.get ed
      refine ⟨v, e1, σ3, G, F, _, _, r, h, p.xp r, fun y G1 hy u H1 f1 ru => ⟨d, y, G1, F, _, f1.at, f1.rep rv, ru, hy, fun z G2 hz w H2 f2 rw' => p.nx _ _ hz _ _ ⟨f1.trans f2, (r.tr (f1.trans f2)).sl.set rw'⟩⟩⟩
    · exact h.elim
/-- o[i] op= e -/
def Get3 (X : Cx) (r : R3) : Prop := PGet X (liftR X.K r)
def tAugS3 (to ti te : TE3) (rg rp : R3) (rs : D → D → D → Gp → (Gp → Prop) → Prop) : TS3 := fun D σ G => to σ G (D.xk σ) fun o G1 => ti σ G1 (D.xk σ) fun i G2 => rg o i G2 fun x G3 => te σ G3 (D.xk σ) fun y G4 => rp x y G4 fun z G5 => rs o i z G5 fun G6 => D.nx σ G6
theorem ps3_augS {o i e : Expr} {to ti te : TE3} {rg rp : R3} {rs : D → D → D → Gp → (Gp → Prop) → Prop} {op : Operator} {tpos : Pos} (ho : PE3 X o to) (hi : PE3 X i ti) (hg : Get3 X rg) (he : PE3 X e te) (hp : Ip3 X op rp) (hs : Set3 X rs)
    (ha : ∀ ov iv new, augStore i ov iv new = (do holding [new, ov, iv] (setItem ov iv new); release [new, ov, iv] []; pure .next)) : PS3 X (.AugAssign (.Subscript o i tpos) op e pos) (tAugS3 to ti te rg rp rs) := fun W tk =>
  PS.imp (ps_augS (ho W tk) (hi W tk) hg (he W tk) hp hs ha) fun D σ H ⟨σ3, G, F, D3, r, h, p⟩ => by
    refine ⟨σ3, G, F, _, _, r, h, p.xp r, fun o G1 ho ov H1 f1 ro => ?_⟩
    have p1 := p.tr f1; have r1 := r.tr f1
    refine ⟨σ3, G1, F, _, _, r1, ho, p1.xp r1, fun i G2 hi iv H2 f2 ri => ⟨o, i, G2, F, _, f2.at, f2.rep ro, ri, hi, fun x G3 hx xv H3 f3 rx => ?_⟩⟩
    have f23 := f2.trans f3
    have p3 := p1.tr f23; have r3 := r1.tr f23
    refine ⟨σ3, G3, F, _, _, r3, hx, p3.xp r3, fun y G4 hy yv H4 f4 ry => ⟨x, y, G4, F, _, f4.at, f4.rep rx, ry, hy, fun z G5 hz zv H5 f5 rz => ?_⟩⟩
    have f45 := f4.trans f5
    exact ⟨o, i, z, G5, F, _, f5.at, (f23.trans f45).rep ro, (f3.trans f45).rep ri, rz, hz, fun G6 h6 H6 f6 => (p3.tr f45).nx _ _ h6 _ _ ((r3.tr f45).tS f6)⟩
end
end L3
namespace L3
open PySem PySem.Spec PyProof.Rows L2

def Wk (σ : St3) (G : Gp) (τ : St3) (G' : Gp) : Prop := ∀ K F H s, Rel K F σ G s H → Sub G' G ∧ SlRel K (jn G' F) H τ s
theorem Wk.rel {σ τ : St3} {G G' : Gp} (w : Wk σ G τ G') {K F H s} (r : Rel K F σ G s H) : Rel K F τ G' s H := ⟨(w K F H s r).2, (r.sub (w K F H s r).1).g, (r.sub (w K F H s r).1).dj⟩
theorem Wk.refl (σ : St3) (G : Gp) : Wk σ G σ G := fun _ _ _ _ r => ⟨Sub.refl G, r.sl⟩
theorem Wk.trans {σ τ υ : St3} {G G1 G2 : Gp} (a : Wk σ G τ G1) (b : Wk τ G1 υ G2) : Wk σ G υ G2 := fun K F H s r => ⟨(b K F H s (a.rel r)).1.trans (a K F H s r).1, (b K F H s (a.rel r)).2⟩
theorem Wk.sub {σ : St3} {G G' : Gp} (s : Sub G' G) : Wk σ G σ G' := fun _ _ _ _ r => ⟨s, (r.sub s).sl⟩
theorem Wk.sl {σ τ : St3} {G : Gp} (s : SlSub τ σ) : Wk σ G τ G := fun _ _ _ _ r => ⟨Sub.refl G, r.sl.weak s⟩
theorem Wk.both {σ τ : St3} {G G' : Gp} (s : SlSub τ σ) (t : Sub G' G) : Wk σ G τ G' := (Wk.sub t).trans (Wk.sl s)
theorem rep_freeze {K : PySem.W.Frag} {F G : Gp} {H : Hp} {a : Addr} {ds : List D} (t : At K F G H) (h : G a = some (.lst ds)) : Rep K (jn (grm G a) F) H (.lst ds) (.ref a) := by
  obtain ⟨xs, e, r⟩ := at_list t h
  simp only [Rep]
  exact ⟨a, xs, rfl, .inl ⟨by rw [jn_none grm_same]; exact t.dj a _ h, .inl e⟩, r.sub (jn_sub Sub.grm t.dj)⟩
/-- a tracked list in a slot becomes a value -/
theorem Wk.freeze {σ : St3} {G : Gp} {i : Nat} {a : Addr} {ds : List D} (hs : σ[i]? = some (some (.ref a))) (h : G a = some (.lst ds)) : Wk σ G (σ.set i (some (.lst ds))) (grm G a) := by
  intro K F H s r
  obtain ⟨v, e, q⟩ := r.sl.get hs
  have ev := rep_ref q
  subst ev
  have z := ((r.sub (Sub.grm (a := a))).sl).set (i := i) (rep_freeze r.at h)
  have e2 : s.set i (some (V.ref a)) = s := by
    apply List.ext_getElem?
    intro j
    by_cases hj : i = j
    · subst hj
      rw [List.getElem?_set_self (List.getElem?_eq_some_iff.mp e).1, e]
    · rw [List.getElem?_set_ne hj]
  rw [e2] at z
  exact ⟨Sub.grm, z⟩
/-- a value and the heap -/
def WkV (x : D) (G : Gp) (y : D) (G' : Gp) : Prop := ∀ K F H v, At K F G H → Rep K (jn G F) H x v → Sub G' G ∧ Rep K (jn G' F) H y v
theorem WkV.refl (x : D) (G : Gp) : WkV x G x G := fun _ _ _ _ _ r => ⟨Sub.refl G, r⟩
theorem WkV.sub {x : D} {G G' : Gp} (s : Sub G' G) : WkV x G x G' := fun _ _ _ _ t r => ⟨s, r.sub (jn_sub s t.dj)⟩
theorem WkV.freeze {G G' : Gp} {a : Addr} {ds : List D} (h : G a = some (.lst ds)) (s : Sub G' G) (n : G' a = none) : WkV (.ref a) G (.lst ds) G' := by
  intro K F H v t r
  have ev := rep_ref r
  subst ev
  refine ⟨s, (rep_freeze t h).sub (jn_sub (fun b o e => ?_) (t.dj.sub Sub.grm))⟩
  rw [grm_ne (fun z => by rw [z, n] at e; cases e)]
  exact s b o e

inductive Tgt where
  | nm (i : Nat)
  | tp (is : List Nat)
def setAll : List Nat → List D → St3 → St3
  | i :: is, d :: ds, σ => setAll is ds (σ.set i (some d))
  | _, _, σ => σ
def bind3 : Tgt → D → St3 → Option St3
  | .nm i, d, σ => some (σ.set i (some d))
  | .tp is, .tup ds, σ => if ds.length = is.length then some (setAll is ds σ) else none
  | .tp is, .lst ds, σ => if ds.length = is.length then some (setAll is ds σ) else none
  | _, _, _ => none
def Tgt.ix : Tgt → List Nat
  | .nm i => [i]
  | .tp is => is
def gNames : List Nat → TGs
  | [] => gNil
  | i :: r => gCons (gName i) (gNames r)
def gT (K : PySem.W.Frag) : Tgt → TG
  | .nm i => gName i
  | .tp is => fun v σ H Q => gTup K is.length (gNames is) v σ H Q ∨ gLst K is.length (gNames is) v σ H Q
theorem wipe_out (o : Option V) : ∀ (ws : List Nat) (σ : St) (i : Nat), i ∉ ws → L2.wipe (σ.set i o) ws = (L2.wipe σ ws).set i o
  | [], _, _, _ => rfl
  | w :: ws, σ, i, hw => by
    unfold L2.wipe
    rw [wipe_out o ws σ i (fun z => hw (List.mem_cons_of_mem _ z)), List.set_comm]
    exact fun z => hw (by rw [z]; exact List.mem_cons_self)
theorem wipe_set {σ : St} {i : Nat} {o : Option V} : ∀ {vs : List Nat}, i ∈ vs → L2.wipe (σ.set i o) vs = L2.wipe σ vs
  | v :: vs, h => by
    unfold L2.wipe
    by_cases hv : i ∈ vs
    · rw [wipe_set hv]
    · have e : i = v := by
        rcases List.mem_cons.mp h with e | e
        · exact e
        · exact absurd e hv
      subst e
      rw [wipe_out _ vs σ i hv, List.set_set]
theorem wipe_wipe (σ : St) (vs : List Nat) : ∀ ws : List Nat, (∀ i ∈ ws, i ∈ vs) → L2.wipe (L2.wipe σ ws) vs = L2.wipe σ vs
  | [], _ => rfl
  | w :: ws, h => by
    show L2.wipe ((L2.wipe σ ws).set w none) vs = _
    rw [wipe_set (h w List.mem_cons_self)]
    exact wipe_wipe σ vs ws fun i hi => h i (List.mem_cons_of_mem _ hi)
theorem gNames_ok {K : PySem.W.Frag} {G : Gp} {H : Hp} {Q : St → Hp → Prop} : ∀ {is : List Nat} {ds : List D} {vs : List V} {τ : St3} {σ : St}, ds.length = is.length → RepL K G H ds vs → SlRel K G H τ σ →
    (∀ σ', SlRel K G H (setAll is ds τ) σ' → (∀ ws, (∀ i ∈ is, i ∈ ws) → L2.wipe σ' ws = L2.wipe σ ws) → Q σ' H) → gNames is vs σ H Q
  | [], ds, vs, τ, σ, hl, r, s, q => by
    cases ds with
    | nil => simp only [RepL] at r; exact ⟨r, q σ s fun _ _ => rfl⟩
    | cons _ _ => simp at hl
  | i :: is, ds, vs, τ, σ, hl, r, s, q => by
    cases ds with
    | nil => simp at hl
    | cons d ds =>
      simp only [RepL] at r
      obtain ⟨v, vr, e, r1, r2⟩ := r
      refine ⟨v, vr, e, gNames_ok (τ := τ.set i (some d)) (by simpa using hl) r2 (s.set r1) fun σ' s' w' => q σ' s' fun ws hw => ?_⟩
      rw [w' ws fun j hj => hw j (List.mem_cons_of_mem _ hj), wipe_set (hw i List.mem_cons_self)]
/-- .. a tuple that is only unpacked -/
def RepW (K : PySem.W.Frag) (G : Gp) (H : Hp) (tg : Tgt) (d : D) (v : V) : Prop := Rep K G H d v ∨ ((∃ is, tg = .tp is) ∧ ∃ ds a xs, d = .tup ds ∧ v = .ref a ∧ SqT K H a xs ∧ RepL K G H ds xs)
theorem gT_ok {K : PySem.W.Frag} {G : Gp} {H : Hp} {Q : St → Hp → Prop} {tg : Tgt} {d : D} {v : V} {τ τ' : St3} {σ : St} (rw' : RepW K G H tg d v) (s : SlRel K G H τ σ) (hb : bind3 tg d τ = some τ')
    (q : ∀ σ', SlRel K G H τ' σ' → (∀ ws, (∀ i ∈ tg.ix, i ∈ ws) → L2.wipe σ' ws = L2.wipe σ ws) → Q σ' H) : gT K tg v σ H Q := by
  rcases rw' with r | ⟨⟨is, e1⟩, ds, a, xs, e2, ev, hq, t⟩
  rotate_left
  · subst e1 e2
    simp only [bind3] at hb
    split at hb
    · rename_i hl
      have e := Option.some.inj hb
      subst e
      exact .inl ⟨a, xs, ev, hq, by rw [← t.length]; exact hl, gNames_ok hl t s q⟩
    · cases hb
  cases tg with
  | nm i =>
    have e : τ.set i (some d) = τ' := Option.some.inj hb
    subst e
    exact q _ (s.set r) fun ws hw => wipe_set (hw i List.mem_cons_self)
  | tp is =>
    cases d with
    | tup ds =>
      simp only [bind3] at hb
      split at hb
      · rename_i hl
        have e := Option.some.inj hb
        subst e
        obtain ⟨a, xs, ev, hq, t⟩ := r.tupSq
        exact .inl ⟨a, xs, ev, hq, by rw [← t.length]; exact hl, gNames_ok hl t s q⟩
      · cases hb
    | lst ds =>
      simp only [bind3] at hb
      split at hb
      · rename_i hl
        have e := Option.some.inj hb
        subst e
        obtain ⟨a, xs, ev, hq, t⟩ := r.lstSq
        exact .inr ⟨a, xs, ev, hq, by rw [← t.length]; exact hl, gNames_ok hl t s q⟩
      · cases hb
    | _ => simp [bind3] at hb
/-- a target of names: nm i, tp .. -/
def IsTgt (X : Cx) (e : Expr) (tg : Tgt) : Prop := PG X e (gT X.K tg)

abbrev TI3 := St3 → Gp → XK3 → (List D → (Gp → Prop) → Gp → Prop) → Prop
structure ItOk (K : PySem.W.Frag) (tg : Tgt) (J : It) (items : List D) (guard : Gp → Prop) (ok : Gp → Hp → Prop) : Prop where
  go : ∀ T H i, ok T H → GRel K T H → i < items.length → J.go i H
  stop : ∀ T H, ok T H → GRel K T H → J.stop items.length H
  yld : ∀ T H i d x H', ok T H → GRel K T H → items[i]? = some d → J.yld i H x H' → GRel K T H' ∧ Fr T H T H' ∧ (∀ a o, T a = some o → H' a = H a) ∧ RepW K T H' tg d x
  stab : ∀ T H T' H', ok T H → Fr T H T' H' → GRel K T' H' → guard T' → ok T' H'
  mono : ∀ G T, Sub G T → guard G → guard T
theorem sub_jn {G F : Gp} : Sub G (jn G F) := fun a o e => jn_some e
theorem dj_F {G F : Gp} (d : Dj G F) {a : Addr} {o : GO} (h : F a = some o) : jn G F a = some o := by
  cases q : G a with
  | none => rw [jn_none q]; exact h
  | some u => rw [d a u q] at h; cases h
theorem ItOk.yldT {K : PySem.W.Frag} {tg : Tgt} {F G : Gp} {J : It} {items : List D} {guard : Gp → Prop} {ok : Gp → Hp → Prop} (io : ItOk K tg J items guard ok) {H H' : Hp} {i : Nat} {d : D} {x : V} (o : ok (jn G F) H) (t : At K F G H) (e : items[i]? = some d) (y : J.yld i H x H') :
    Tr K F G H G H' ∧ RepW K (jn G F) H' tg d x := by
  obtain ⟨g, f, k, r⟩ := io.yld _ H i d x H' o t.g e y
  exact ⟨⟨t.dj, g, f, fun a u q => k a u (dj_F t.dj q)⟩, r⟩
theorem ItOk.stabT {K : PySem.W.Frag} {tg : Tgt} {F G G' : Gp} {J : It} {items : List D} {guard : Gp → Prop} {ok : Gp → Hp → Prop} (io : ItOk K tg J items guard ok) {H H' : Hp} (o : ok (jn G F) H) (t : Tr K F G H G' H') (gd : guard G') : ok (jn G' F) H' :=
  io.stab _ _ _ _ o t.f t.g (io.mono _ _ sub_jn gd)
def liftI (K : PySem.W.Frag) (W : WX) (tg : Tgt) (wi : TI3) : TI := fun σ H R => ∃ σ3 G F E3 R3, Rel K F σ3 G σ H ∧ wi σ3 G E3 R3 ∧ PostX K F G H E3 (fun c d H' => W c d σ H') ∧
  ∀ items guard G1, R3 items guard G1 → ∀ J H1 ok, ItOk K tg J items guard ok → ok (jn G1 F) H1 → items.length ≤ sizeLine → Tr K F G H G1 H1 → R J H1
def PI3 (X : Cx) (tge iter : Expr) (tg : Tgt) (wi : TI3) : Prop := ∀ W, Takes X W → PI X tge iter (liftI X.K W tg wi)

def forW (tg : Tgt) (b : TS3) (guard : Gp → Prop) : List D → Ends3 → St3 → Gp → Prop
  | [], D, σ, G => guard G ∧ D.nx σ G
  | d :: ds, D, σ, G => guard G ∧ match bind3 tg d σ with
    | some σ1 => b { D with nx := fun σ' G' => ∃ τ G'', Wk σ' G' τ G'' ∧ forW tg b guard ds D τ G'', ct := fun σ' G' => ∃ τ G'', Wk σ' G' τ G'' ∧ forW tg b guard ds D τ G'', bk := D.nx } σ1 G
    | none => False
theorem forW.guard {tg : Tgt} {b : TS3} {guard : Gp → Prop} {items : List D} {D : Ends3} {σ : St3} {G : Gp} (h : forW tg b guard items D σ G) : guard G := by
  cases items with
  | nil => exact h.1
  | cons _ _ => exact h.1
def tFor3 (wi : TI3) (tg : Tgt) (b : TS3) : TS3 := fun D σ G => wi σ G (D.xk σ) fun items guard G1 => ∃ τ G2, Wk σ G1 τ G2 ∧ forW tg b guard items D τ G2
theorem TrS.wk {K : PySem.W.Frag} {F G : Gp} {H : Hp} {τ υ : St3} {G' G'' : Gp} {σ' : St} {H' : Hp} (a : TrS K F G H τ G' σ' H') (w : Wk τ G' υ G'') : TrS K F G H υ G'' σ' H' := ⟨a.t.sub (w _ _ _ _ a.rel).1, (w _ _ _ _ a.rel).2⟩
section
variable {X : Cx} {pos : Pos}
theorem ps3_for {tge iter : Expr} {tg : Tgt} {body : List Stmt} {wi : TI3} {b : TS3} (hp : PassesOwn (model X.prog X.w) X.A X.env X.xe) (hc : X.calm = true) (hi : PI3 X tge iter tg wi) (hg : IsTgt X tge tg) (hb : PSs3 X body b) (hs : ∀ x, foldedSetIterable iter X.env x = pure x) :
    PS3 X (.For tge iter body [] pos) (tFor3 wi tg b) := fun W tk =>
  PS.imp (ps_for hp hc (hi W tk) hg (hb W tk) hs) fun D σ H ⟨σ3, G, F, D3, r, h, p⟩ => by
    refine ⟨σ3, G, F, _, _, r, h, p.xp r, fun items guard G1 ⟨τ0, G2, wk0, hf⟩ J H1 ok io o1 hl f1 => ?_⟩
    have t0 := (r.tS f1).wk wk0
    refine ⟨fun i m σ' H' => ∃ τ G', TrS X.K F G H τ G' σ' H' ∧ ok (jn G' F) H' ∧ i + m = items.length ∧ forW tg b guard (items.drop i) D3 τ G', ⟨items.length, τ0, G2, t0, io.stabT o1 (f1.at.tr.sub (wk0 _ _ _ _ (r.tr f1)).1) hf.guard, by omega, hf⟩, ?_⟩
    rintro i m σ' H' ⟨τ, G', t, o, em, hw⟩
    by_cases hlt : i < items.length
    · refine .inr ⟨io.go _ H' i o t.t.g hlt, fun σ2 H2 => ∃ m', m' < m ∧ ∃ τ G', TrS X.K F G H τ G' σ2 H2 ∧ ok (jn G' F) H2 ∧ (i + 1) + m' = items.length ∧ forW tg b guard (items.drop (i + 1)) D3 τ G', fun σ2 H2 q => q, fun x H2 y => ?_⟩
      have eg : items[i]? = some items[i] := List.getElem?_eq_getElem hlt
      have ed : items.drop i = items[i] :: items.drop (i + 1) := List.drop_eq_getElem_cons hlt
      obtain ⟨f2, rx⟩ := io.yldT o t.t.at eg y
      have gd := hw.guard
      rw [ed] at hw
      obtain ⟨_, hw⟩ := hw
      cases hbd : bind3 tg items[i] τ with
      | none => rw [hbd] at hw; exact hw.elim
      | some σ1 =>
        rw [hbd] at hw
        have o2 : ok (jn G' F) H2 := io.stabT o f2 gd
        refine gT_ok rx (t.sl.fr f2.f) hbd fun σ4 s4 _ => ?_
        have fT := t.t.trans f2
        have again : PostS X.K F G' H2 (fun σ' G' => ∃ τ G'', Wk σ' G' τ G'' ∧ forW tg b guard (items.drop (i + 1)) D3 τ G'') (fun σ2 H2 => ∃ m', m' < m ∧ ∃ τ G', TrS X.K F G H τ G' σ2 H2 ∧ ok (jn G' F) H2 ∧ (i + 1) + m' = items.length ∧ forW tg b guard (items.drop (i + 1)) D3 τ G') :=
          fun τ5 G5 q5 σ5 H5 r5 => by
            obtain ⟨τ6, G6, wk, hf6⟩ := q5
            exact ⟨m - 1, by omega, τ6, G6, (fT.tS r5).wk wk, io.stabT o2 (r5.wk wk).t hf6.guard, by omega, hf6⟩
        have pp := p.tr fT
        exact ⟨σ1, G', F, _, ⟨s4, f2.g, f2.dj⟩, hw, again, pp.rt, pp.nx, again, pp.ex⟩
    · have e : i = items.length := by omega
      subst e
      rw [List.drop_length] at hw
      exact .inl ⟨io.stop _ H' o t.t.g, p.nx _ _ hw.2 _ _ t⟩

def tWhile3 (c : TT3) (b : TS3) : TS3 := fun D σ G => ∃ I : Nat → St3 → Gp → Prop, (∃ m τ G', Wk σ G τ G' ∧ I m τ G') ∧ ∀ m σ G, I m σ G → c σ G (D.xk σ) fun k G1 => match k with
  | true => b { D with nx := fun σ' G' => ∃ m' τ G'', m' < m ∧ Wk σ' G' τ G'' ∧ I m' τ G'', ct := fun σ' G' => ∃ m' τ G'', m' < m ∧ Wk σ' G' τ G'' ∧ I m' τ G'', bk := D.nx } σ G1
  | false => D.nx σ G1
theorem ps3_while {c : Expr} {body : List Stmt} {tc : TT3} {b : TS3} (hp : PassesOwn (model X.prog X.w) X.A X.env X.xe) (hc : PT3 X c tc) (hb : PSs3 X body b) : PS3 X (.While c body [] pos) (tWhile3 tc b) := fun W tk =>
  PS.imp (ps_while hp (hc W tk) (hb W tk)) fun D σ H ⟨σ3, G, F, D3, r, h, p⟩ => by
    obtain ⟨I, ⟨m0, τ0, G0, wk0, i0⟩, turn⟩ := h
    refine ⟨fun m σ' H' => ∃ τ G', TrS X.K F G H τ G' σ' H' ∧ I m τ G', ⟨m0, τ0, G0, (r.tS r.here).wk wk0, i0⟩, ?_⟩
    rintro m σ' H' ⟨τ, G', t, i⟩
    have pp := p.tr t.t
    refine ⟨τ, G', F, _, _, t.rel, turn m τ G' i, pp.xp t.rel, fun k G1 hk H1 f1 => ?_⟩
    have p1 := pp.tr f1
    cases k with
    | true =>
      refine iteT ?_
      have again : PostS X.K F G1 H1 (fun σ' G' => ∃ m' τ G'', m' < m ∧ Wk σ' G' τ G'' ∧ I m' τ G'') (fun σ2 H2 => ∃ m', m' < m ∧ ∃ τ G', TrS X.K F G H τ G' σ2 H2 ∧ I m' τ G') := fun τ5 G5 q5 σ5 H5 r5 => by
        obtain ⟨m', τ6, G6, hm, wk, i6⟩ := q5
        exact ⟨m', hm, τ6, G6, ((t.t.trans f1).tS r5).wk wk, i6⟩
      exact ⟨fun σ2 H2 => ∃ m', m' < m ∧ ∃ τ G', TrS X.K F G H τ G' σ2 H2 ∧ I m' τ G', fun σ2 H2 q => q, τ, G1, F, _, t.rel.tr f1, hk, again, p1.rt, p1.nx, again, p1.ex⟩
    | false =>
      refine iteF ?_
      exact p1.nx _ _ hk _ _ ((t.rel.tr f1).tS f1.at.tr)
end

abbrev E03 : XK3 := fun _ _ _ => False
def wipe3 (σ : St3) : List Nat → St3
  | [] => σ
  | v :: vs => (wipe3 σ vs).set v none
theorem SlRel.wipe {K : PySem.W.Frag} {G : Gp} {H : Hp} {σ3 : St3} {σ : St} (s : SlRel K G H σ3 σ) : ∀ vs : List Nat, SlRel K G H (wipe3 σ3 vs) (L2.wipe σ vs)
  | [] => s
  | v :: vs => (SlRel.wipe s vs).setN
def lcW (tg : Tgt) (tt : TT3) (te : TE3) (guard : Gp → Prop) (σ : St3) : List D → List D → Gp → (List D → Gp → Prop) → Prop
  | [], acc, G, k => guard G ∧ k acc G
  | d :: ds, acc, G, k => guard G ∧ match bind3 tg d σ with
    | some τ => tt τ G E03 fun b G1 => match b with
      | true => te τ G1 E03 fun y G2 => lcW tg tt te guard σ ds (acc ++ [y]) G2 k
      | false => lcW tg tt te guard σ ds acc G1 k
    | none => False
theorem lcW.guard {tg : Tgt} {tt : TT3} {te : TE3} {guard : Gp → Prop} {σ : St3} {items acc : List D} {G : Gp} {k : List D → Gp → Prop} (h : lcW tg tt te guard σ items acc G k) : guard G := by
  cases items with
  | nil => exact h.1
  | cons _ _ => exact h.1
def tLc3 (wi : TI3) (tg : Tgt) (tt : TT3) (te : TE3) (vs : List Nat) : TA3 := fun σ G E Q => wi σ G E fun items guard G1 => lcW tg tt te guard (wipe3 σ vs) items [] G1 Q
def PTs3 (X : Cx) (ifs : List Expr) (t : TT3) : Prop := ∀ W, Takes X W → PTs X ifs (liftT X.K W t)
def tYes3 : TT3 := fun _ G _ Q => Q true G
theorem PTs.imp {X : Cx} {ifs : List Expr} {t t' : TT} (h : PTs X ifs t) (i : ∀ σ H Q, t' σ H Q → t σ H Q) : PTs X ifs t' := ⟨fun pins s σ H Q I q => h.run pins s σ H Q I (i σ H Q q)⟩
theorem pts3_nil {X : Cx} : PTs3 X [] tYes3 := fun W tk => PTs.imp pts_nil fun σ H Q ⟨σ3, G, F, E3, Q3, r, h, px, p⟩ => p _ _ h _ r.here
theorem pts3_one {X : Cx} {c : Expr} {t : TT3} (h : PT3 X c t) : PTs3 X [c] t := fun W tk => pts_one (h W tk)
theorem takesF {X : Cx} : Takes X (fun _ _ _ _ => False) := takes0
theorem gup_sub {F G : Gp} {H : Hp} {K : PySem.W.Frag} {p : Addr} {o : GO} (h : H p = none) (g : GRel K (jn G F) H) : Sub F (gup F p o) := Sub.gup (jn_nn (g.nn h)).2
/-- the turns of a comprehension, in L2's form -/
theorem lc_step {K : PySem.W.Frag} {tg : Tgt} {tt : TT3} {te : TE3} {guard : Gp → Prop} {vs : List Nat} {σ3 : St3} {σ : St} {items : List D} {F G0 G1 : Gp} {H0 H1 : Hp} {J : It} {ok : Gp → Hp → Prop} {Q3 : List D → Gp → Prop} {Q : VK}
    (io : ItOk K tg J items guard ok) (o1 : ok (jn G1 F) H1) (hl : items.length ≤ sizeLine) (f1 : Tr K F G0 H0 G1 H1) (r : Rel K F σ3 G0 σ H0) (hix : ∀ i ∈ tg.ix, i ∈ vs)
    (p : PostL K F G0 H0 Q3 Q) (h : lcW tg tt te guard (wipe3 σ3 vs) items [] G1 Q3) (D : Addr) (hD : H1 D = none) :
    ∃ W : Nat → Nat → Hp → Prop, (∃ m, W 0 m (upd H1 D (.lst []))) ∧ ∀ i m H, W i m H →
      (J.stop i H ∧ Q (.ref D) H) ∨ (J.go i H ∧ ∃ Nx : Hp → Prop, (∀ H', Nx H' → ∃ m', m' < m ∧ W (i + 1) m' H') ∧ ∀ x H', J.yld i H x H' → gT K tg x (L2.wipe σ vs) H' fun σ2 H2 => L2.wipe σ2 vs = L2.wipe σ vs ∧ liftT K (fun _ _ _ _ => False) tt σ2 H2 fun b H3 =>
        if b = true then liftE K (fun _ _ _ _ => False) te σ2 H3 fun y H4 => ∃ acc, H4 D = some (.lst acc) ∧ acc.length < sizeLine ∧ Nx (upd H4 D (.lst (acc ++ [y]))) else Nx H3) := by
  have nD1 : G1 D = none := (jn_nn (f1.g.nn hD)).1
  have nF : F D = none := (jn_nn (f1.g.nn hD)).2
  have f1' : Tr K F G0 H0 (gup G1 D (.lst [])) (upd H1 D (.lst [])) := f1.trans (.new f1.dj f1.g hD (orel_new hD .nil))
  -- W: the new list stands in the frame
  refine ⟨fun i m H => ∃ acc G, Tr K F G0 H0 (gup G D (.lst acc)) H ∧ ok (gup (jn G F) D (.lst acc)) H ∧ G D = none ∧ acc.length ≤ i ∧ i + m = items.length ∧ lcW tg tt te guard (wipe3 σ3 vs) (items.drop i) acc G Q3, ⟨items.length, [], G1, f1', ?_, nD1, Nat.zero_le _, by omega, h⟩, ?_⟩
  · refine io.stab _ _ _ _ o1 (Fr.new hD) ?_ (io.mono _ _ (sub_jn.trans (Sub.gup (f1.g.nn hD))) h.guard)
    rw [← jn_gup]; exact f1'.g
  rintro i m H ⟨acc, G, t, o, nD, hac, em, hw⟩
  -- the same seen with the new list in the frame
  have atF : At K (gup F D (.lst acc)) G H := ⟨fun a u e => by
    by_cases ha : a = D
    · rw [ha, nD] at e; cases e
    · rw [gup_ne ha]; exact t.dj a u (by rw [gup_ne ha]; exact e), by rw [jn_gupF nD, ← jn_gup]; exact t.g⟩
  have o' : ok (jn G (gup F D (.lst acc))) H := by rw [jn_gupF nD]; exact o
  have sF : Sub F (gup F D (.lst acc)) := Sub.gup nF
  by_cases hlt : i < items.length
  · refine .inr ⟨io.go _ H i o' atF.g hlt, fun H' => ∃ m', m' < m ∧ ∃ acc G, Tr K F G0 H0 (gup G D (.lst acc)) H' ∧ ok (gup (jn G F) D (.lst acc)) H' ∧ G D = none ∧ acc.length ≤ i + 1 ∧ (i + 1) + m' = items.length ∧ lcW tg tt te guard (wipe3 σ3 vs) (items.drop (i + 1)) acc G Q3, fun H' q => q, fun x H' y => ?_⟩
    have eg : items[i]? = some items[i] := List.getElem?_eq_getElem hlt
    have ed : items.drop i = items[i] :: items.drop (i + 1) := List.drop_eq_getElem_cons hlt
    obtain ⟨f2, rx⟩ := io.yldT o' atF eg y
    have gd := hw.guard
    rw [ed] at hw
    obtain ⟨_, hw⟩ := hw
    cases hbd : bind3 tg items[i] (wipe3 σ3 vs) with
    | none => rw [hbd] at hw; exact hw.elim
    | some τ =>
      rw [hbd] at hw
      -- from the beginning to here, the slots
      have sl : SlRel K (jn G (gup F D (.lst acc))) H' (wipe3 σ3 vs) (L2.wipe σ vs) := by
        have q := (r.sl.fr t.f)
        rw [jn_gup, ← jn_gupF nD] at q
        exact (q.fr f2.f).wipe vs
      -- back: an end beside the frame with the list is an end with the list tracked
      have back : ∀ {G' : Gp} {H2 : Hp}, Tr K (gup F D (.lst acc)) G H G' H2 → G' D = none ∧ Tr K F (gup G D (.lst acc)) H (gup G' D (.lst acc)) H2 := fun {G' H2} f => by
        have n : G' D = none := by
          cases q : G' D with
          | none => rfl
          | some u => have z := f.dj D u q; rw [gup_same] at z; cases z
        refine ⟨n, fun a u e => ?_, by rw [jn_gup, ← jn_gupF n]; exact f.g, by rw [jn_gup, jn_gup, ← jn_gupF n, ← jn_gupF nD]; exact f.f, fun a u e => f.k a u (sF a u e)⟩
        by_cases ha : a = D
        · rw [ha]; exact nF
        · rw [gup_ne ha] at e
          have z := f.dj a u e
          rw [gup_ne ha] at z
          exact z
      refine gT_ok rx sl hbd fun σ4 s4 w4 => ⟨by rw [w4 vs hix]; exact wipe_wipe σ vs vs fun _ h => h, τ, G, gup F D (.lst acc), _, _, ⟨s4, f2.g, f2.dj⟩, hw, fun _ _ _ z => z.elim, fun b G3 hb H3 f3 => ?_⟩
      have f23 := f2.trans f3
      cases b with
      | true =>
        refine iteT ?_
        refine ⟨τ, G3, gup F D (.lst acc), _, _, ⟨s4.fr f3.f, f3.g, f3.dj⟩, hb, fun _ _ _ z => z.elim, fun y G4 hy v H4 f4 ry => ?_⟩
        have f24 := f23.trans f4
        obtain ⟨n4, f5⟩ := back f24
        obtain ⟨xs, q1, q2⟩ := f5.g D _ (jn_some gup_same)
        have o4 : ok (gup (jn G4 F) D (.lst acc)) H4 := by
          have q := io.stabT o' f24 hy.guard
          rw [jn_gupF n4] at q; exact q
        have ff : Fr (gup (jn G4 F) D (.lst acc)) H4 (gup (gup (jn G4 F) D (.lst acc)) D (.lst (acc ++ [y]))) (upd H4 D (.lst (xs ++ [v]))) := Fr.set gup_same
        rw [jn_gup] at q2
        rw [jn_gupF n4] at ry
        have orl : ORel K (gup (gup (jn G4 F) D (.lst acc)) D (.lst (acc ++ [y]))) (upd H4 D (.lst (xs ++ [v]))) D (.lst (acc ++ [y])) := ⟨xs ++ [v], upd_same, (q2.fr ff).append (.cons (ry.fr ff) .nil)⟩
        have f6 : Tr K F (gup G4 D (.lst acc)) H4 (gup (gup G4 D (.lst acc)) D (.lst (acc ++ [y]))) (upd H4 D (.lst (xs ++ [v]))) := .set f5.dj f5.g gup_same (by rw [jn_gup]; exact orl)
        refine ⟨xs, q1, ?_, m - 1, by omega, acc ++ [y], G4, ?_, ?_, n4, by simp; omega, by omega, hy⟩
        · rw [← q2.length]; omega
        · rw [gup_gup] at f6
          exact t.trans (f5.trans f6)
        · have q := io.stab _ _ _ _ o4 ff (by rw [← jn_gup, ← jn_gup]; exact f6.g) ?_
          · rw [gup_gup] at q; exact q
          · rw [gup_gup]
            refine io.mono _ _ (fun a u e => ?_) hy.guard
            rw [gup_ne (fun z => by rw [z, n4] at e; cases e)]
            exact jn_some e
      | false =>
        obtain ⟨n3, f5⟩ := back f23
        have o3 : ok (gup (jn G3 F) D (.lst acc)) H3 := by
          have q := io.stabT o' f23 hb.guard
          rw [jn_gupF n3] at q; exact q
        exact ⟨m - 1, by omega, acc, G3, t.trans f5, o3, n3, by omega, by omega, hb⟩
  · have e : i = items.length := by omega
    subst e
    rw [List.drop_length] at hw
    exact .inl ⟨io.stop _ H o' atF.g, p _ _ hw.2 _ _ nD t⟩
section
variable {X : Cx} {pos : Pos}
/-- [elt for tg in iter if ..] -/
theorem pl3_lc {elt tge iter : Expr} {ifs : List Expr} {scope : Scope} {own : List (Str × Nat)} {wi : TI3} {tg : Tgt} {tt : TT3} {te : TE3} (hc : X.calm = true) (hN : X.N.Nodup) (hi : PI3 X tge iter tg wi) (ok : BlkOk X.N X.env.scope scope own)
    (hg : ∀ (s : Shared) (H : Hp) (C : Addr) (cl : List (Str × Addr)) (fp : List Addr), IsTgt (X.blk s H scope (compEnvC scope cl C X.env) fp) tge tg) (ht : ∀ (s : Shared) (H : Hp) (C : Addr) (cl : List (Str × Addr)) (fp : List Addr), PTs3 (X.blk s H scope (compEnvC scope cl C X.env) fp) ifs tt)
    (he : ∀ (s : Shared) (H : Hp) (C : Addr) (cl : List (Str × Addr)) (fp : List Addr), PE3 (X.blk s H scope (compEnvC scope cl C X.env) fp) elt te) (hix : ∀ i ∈ tg.ix, i ∈ own.map (·.2)) (hs : ∀ x, foldedSetIterable iter X.env x = pure x) :
    PL3 X (.ListComp elt [⟨tge, iter, ifs, 0⟩] scope pos) (tLc3 wi tg tt te (own.map (·.2))) := fun W tk =>
  PE.imp (pe_lc (g := gT X.K tg) (tt := liftT X.K (fun _ _ _ _ => False) tt) (te := liftE X.K (fun _ _ _ _ => False) te) hc hN (hi W tk) ok hg (fun s H C cl fp => ht s H C cl fp _ takesF) (fun s H C cl fp => he s H C cl fp _ takesF) hs) fun σ H Q ⟨σ3, G, F, E3, Q3, r, h, px, p⟩ =>
    ⟨σ3, G, F, E3, _, r, h, px, fun items guard G1 hw J H1 ok io o1 hl f1 D hD => lc_step io o1 hl f1 r hix p hw D hD⟩
/-- name = [..] on one line, the name a local: a value, tracked -/
def tSetV3 (t : TA3) (i : Nat) : TS3 := fun D σ G => t σ G (D.xk σ) fun ds G1 => D.nx (σ.set i (some (.lst ds))) G1
def tSetN3 (t : TA3) (i : Nat) : TS3 := fun D σ G => t σ G (D.xk σ) fun ds G1 => ∀ a, G1 a = none → D.nx (σ.set i (some (.ref a))) (gup G1 a (.lst ds))
theorem ps3_setLc {i : Nat} {y : Str} {py : Pos} {elt tge iter : Expr} {ifs : List Expr} {scope : Scope} {own : List (Str × Nat)} {spos : Pos} {wi : TI3} {tg : Tgt} {tt : TT3} {te : TE3} (hc : X.calm = true) (hN : X.N.Nodup) (hy : X.N[i]? = some y) (hyl : X.env.scope.names.lookup y = some .local)
    (hsw : swapsWith (.ListComp elt [⟨tge, iter, ifs, 0⟩] scope pos) (some (.Name y py)) spos.line X.env = pure true) (hi : PI3 X tge iter tg wi) (ok : BlkOk X.N X.env.scope scope own)
    (hg : ∀ (s : Shared) (H : Hp) (C : Addr) (cl : List (Str × Addr)) (fp : List Addr), IsTgt (X.blk s H scope (compEnvC scope cl C X.env) fp) tge tg) (ht : ∀ (s : Shared) (H : Hp) (C : Addr) (cl : List (Str × Addr)) (fp : List Addr), PTs3 (X.blk s H scope (compEnvC scope cl C X.env) fp) ifs tt)
    (he : ∀ (s : Shared) (H : Hp) (C : Addr) (cl : List (Str × Addr)) (fp : List Addr), PE3 (X.blk s H scope (compEnvC scope cl C X.env) fp) elt te) (hix : ∀ i ∈ tg.ix, i ∈ own.map (·.2)) (hs : ∀ x, foldedSetIterable iter X.env x = pure x) :
    PS3 X (.Assign [.Name y py] (.ListComp elt [⟨tge, iter, ifs, 0⟩] scope pos) spos) (tSetN3 (tLc3 wi tg tt te (own.map (·.2))) i) := fun W tk =>
  PS.imp (ps_setLc (g := gT X.K tg) (tt := liftT X.K (fun _ _ _ _ => False) tt) (te := liftE X.K (fun _ _ _ _ => False) te) hc hN hy hyl hsw (hi W tk) ok hg (fun s H C cl fp => ht s H C cl fp _ takesF) (fun s H C cl fp => he s H C cl fp _ takesF) hs) fun D σ H ⟨σ3, G, F, D3, r, h, p⟩ =>
    ⟨σ3, G, F, _, _, r, h, p.xp r, fun items guard G1 hw J H1 ok io o1 hl f1 L hL => lc_step (Q := fun x H1 => gName i x σ H1 D.nx) io o1 hl f1 r hix (fun ds G2 q a H2 n t => p.nx _ _ (q a n) _ _ ⟨t, (r.tr t).sl.set (by simp only [Rep])⟩) hw L hL⟩
theorem ps3_setLv {i : Nat} {y : Str} {py : Pos} {elt tge iter : Expr} {ifs : List Expr} {scope : Scope} {own : List (Str × Nat)} {spos : Pos} {wi : TI3} {tg : Tgt} {tt : TT3} {te : TE3} (hc : X.calm = true) (hN : X.N.Nodup) (hy : X.N[i]? = some y) (hyl : X.env.scope.names.lookup y = some .local)
    (hsw : swapsWith (.ListComp elt [⟨tge, iter, ifs, 0⟩] scope pos) (some (.Name y py)) spos.line X.env = pure true) (hi : PI3 X tge iter tg wi) (ok : BlkOk X.N X.env.scope scope own)
    (hg : ∀ (s : Shared) (H : Hp) (C : Addr) (cl : List (Str × Addr)) (fp : List Addr), IsTgt (X.blk s H scope (compEnvC scope cl C X.env) fp) tge tg) (ht : ∀ (s : Shared) (H : Hp) (C : Addr) (cl : List (Str × Addr)) (fp : List Addr), PTs3 (X.blk s H scope (compEnvC scope cl C X.env) fp) ifs tt)
    (he : ∀ (s : Shared) (H : Hp) (C : Addr) (cl : List (Str × Addr)) (fp : List Addr), PE3 (X.blk s H scope (compEnvC scope cl C X.env) fp) elt te) (hix : ∀ i ∈ tg.ix, i ∈ own.map (·.2)) (hs : ∀ x, foldedSetIterable iter X.env x = pure x) :
    PS3 X (.Assign [.Name y py] (.ListComp elt [⟨tge, iter, ifs, 0⟩] scope pos) spos) (tSetV3 (tLc3 wi tg tt te (own.map (·.2))) i) := fun W tk =>
  PS.imp (ps_setLc (g := gT X.K tg) (tt := liftT X.K (fun _ _ _ _ => False) tt) (te := liftE X.K (fun _ _ _ _ => False) te) hc hN hy hyl hsw (hi W tk) ok hg (fun s H C cl fp => ht s H C cl fp _ takesF) (fun s H C cl fp => he s H C cl fp _ takesF) hs) fun D σ H ⟨σ3, G, F, D3, r, h, p⟩ =>
    ⟨σ3, G, F, _, _, r, h, p.xp r, fun items guard G1 hw J H1 ok io o1 hl f1 L hL => lc_step (Q := fun x H1 => gName i x σ H1 D.nx) io o1 hl f1 r hix (fun ds G2 q a H2 n t => p.nx _ _ q _ _ ⟨t.sub (Sub.gup n), (r.tr (t.sub (Sub.gup n))).sl.set (rep_lstOf n t.dj t.g)⟩) hw L hL⟩
/-- a name gets a list that was made just now, tracked -/
theorem ps3_setL {i : Nat} {x : Str} {e : Expr} {t : TA3} {pos' : Pos} (hN : X.N.Nodup) (hi : X.N[i]? = some x) (hx : Loc X.env.scope x) (he : PL3 X e t) (hs : swapsWith e (some (.Name x pos')) pos.line X.env = pure false) (hf : X.fn x = true ∨ X.env.scope.names.lookup x = some .local) :
    PS3 X (.Assign [.Name x pos'] e pos) (tSetN3 t i) := fun W tk =>
  PS.imp (ps_set hN hi hx (he W tk) hs hf) fun D σ H ⟨σ3, G, F, D3, r, h, p⟩ => ⟨σ3, G, F, _, _, r, h, p.xp r, fun ds G1 q a H1 n t => p.nx _ _ (q a n) _ _ ⟨t, (r.tr t).sl.set (by simp only [Rep])⟩⟩
theorem ps3_setLV {i : Nat} {x : Str} {e : Expr} {t : TA3} {pos' : Pos} (hN : X.N.Nodup) (hi : X.N[i]? = some x) (hx : Loc X.env.scope x) (he : PL3 X e t) (hs : swapsWith e (some (.Name x pos')) pos.line X.env = pure false) (hf : X.fn x = true ∨ X.env.scope.names.lookup x = some .local) :
    PS3 X (.Assign [.Name x pos'] e pos) (tSetV3 t i) := fun W tk =>
  PS.imp (ps_set hN hi hx (he W tk) hs hf) fun D σ H ⟨σ3, G, F, D3, r, h, p⟩ => ⟨σ3, G, F, _, _, r, h, p.xp r, fun ds G1 q a H1 n t => p.nx _ _ q _ _ ⟨t.sub (Sub.gup n), (r.tr (t.sub (Sub.gup n))).sl.set (rep_lstOf n t.dj t.g)⟩⟩
end
end L3
namespace L3
open PySem PySem.Spec PyProof.Rows L2

abbrev Sp3 := List D → Gp → XK3 → (D → Gp → Prop) → Prop
def liftSp (K : PySem.W.Frag) (n : Nat) (sp : Sp3) : Sp := fun vs H Q E => ∃ ds G F E3 Q3, At K F G H ∧ RepL K (jn G F) H ds vs ∧ ds.length = n ∧ sp ds G E3 Q3 ∧ PostX K F G H E3 E ∧ Post K F G H Q3 Q
/-- what stands fixed for a whole law -/
structure Bas where
  P : Program
  w : World
  K : PySem.W.Frag
  mg : Str → Option Value
  base : Heap
/-- a def that keeps a promise at level k -/
structure FnE (B : Bas) (k : Nat) (x : Str) (n : Nat) (sp : Sp3) : Prop where
  ex : ∃ f fd ps, FnOk B.P B.w B.K B.mg B.base (L2.CX B.P B.w) k f fd ps (liftSp B.K n sp) ∧ B.mg x = some (.ref f) ∧ PySem.W.keepIn B.K (.ref f) = true ∧ Binds B.K fd ps []
theorem FnE.mono {B : Bas} {j k n : Nat} {x : Str} {sp : Sp3} (F : FnE B j x n sp) (h : j ≤ k) : FnE B k x n sp := by
  obtain ⟨f, fd, ps, a, b⟩ := F.ex
  exact ⟨f, fd, ps, a.mono h, b⟩
structure CxB (B : Bas) (k : Nat) (X : Cx) : Prop where
  prog : X.prog = B.P
  w : X.w = B.w
  K : X.K = B.K
  mg : X.mg = B.mg
  base : X.base = B.base
  room : Room k X.A
section
variable {B : Bas} {k n : Nat} {X : Cx} {x : Str} {sp : Sp3} {e : Expr} {es : List Expr} {p pos : Pos} {ta : TA3}
def tCall3 (n : Nat) (sp : Sp3) (ta : TA3) : TE3 := fun σ G E Q => ta σ G E fun ds G1 => ds.length = n ∧ sp ds G1 E Q
theorem pe3_call (c : CxB B k X) (F : FnE B k x n sp) (hg : Gl X x) (ha : PA3 X (e :: es) ta) (hdb : (x == ("__debug__" : Str)) = false) (he : starEach (e :: es) X.env = (false, eval e X.env) :: starEach es X.env) (hpl : (backTo pos (starEach es X.env)).any (·.1) = false) :
    PE3 X (.Call (.Name x p) (e :: es) [] pos) (tCall3 n sp ta) := fun W tk => by
  obtain ⟨f, fd, ps, ok, hm, hk, hb⟩ := F.ex
  rw [← c.prog, ← c.w, ← c.K, ← c.mg, ← c.base] at ok
  rw [← c.mg] at hm
  rw [← c.K] at hk hb
  refine PE.imp (pe_callSD ok c.room hg hm hk hb .nil (fun σ => passAt tk σ) (ha W tk) hdb he hpl) fun σ H Q ⟨σ3, G, F, E3, Q3, r, h, px, p⟩ => ?_
  refine ⟨σ3, G, F, E3, _, r, h, px, fun ds G1 hd vs H1 f1 rv => ?_⟩
  show liftSp X.K n sp (vs ++ []) H1 Q (WE W σ)
  rw [List.append_nil]
  exact ⟨ds, G1, F, E3, Q3, f1.at, rv, hd.1, hd.2, px.tr f1, p.tr f1⟩
theorem pe3_call0 (c : CxB B k X) (F : FnE B k x n sp) (hg : Gl X x) (hdb : (x == ("__debug__" : Str)) = false) : PE3 X (.Call (.Name x p) [] [] pos) (tCall3 n sp tNil3) := fun W tk => by
  obtain ⟨f, fd, ps, ok, hm, hk, hb⟩ := F.ex
  rw [← c.prog, ← c.w, ← c.K, ← c.mg, ← c.base] at ok
  rw [← c.mg] at hm
  rw [← c.K] at hk hb
  refine ⟨fun pins s σ H Q I ⟨σ3, G, F, E3, Q3, r, h, px, p⟩ => ?_⟩
  refine wpAny_Call_Name_kw (ld_glob I hg hm ?_ hdb)
  exact PySem.W.callWith_K0 I.kIn hk (run_fnSD (us := []) (vs := []) (dvs := []) (ds := []) (E := fun σ => WE W σ) ok c.room hb .nil (passAt tk σ) I .nil ⟨[], G, F, E3, Q3, r.at, .nil, h.1, h.2, px, p⟩)
end
/-- THE RULE for a def -/
def start3 (N : List Str) (ds : List D) : St3 := ds.map some ++ List.replicate (N.length - ds.length) none
theorem SlRel.none {K : PySem.W.Frag} {G : Gp} {H : Hp} : ∀ n : Nat, SlRel K G H (List.replicate n none) (List.replicate n none)
  | 0 => rfl
  | n + 1 => ⟨_, _, rfl, SlRel.none n⟩
theorem SlRel.start {K : PySem.W.Frag} {G : Gp} {H : Hp} {m : Nat} : ∀ {ds : List D} {vs : List V}, RepL K G H ds vs → SlRel K G H (ds.map some ++ List.replicate m .none) (vs.map some ++ List.replicate m .none)
  | [], vs, h => by
    simp only [RepL] at h
    subst h
    exact SlRel.none m
  | d :: ds, vs, h => by
    simp only [RepL] at h
    obtain ⟨v, r, rfl, h1, h2⟩ := h
    exact ⟨v, _, rfl, h1, SlRel.start h2⟩
def RetQ (Q : D → Gp → Prop) (x : D) (G' : Gp) : Prop := ∃ y G'', WkV x G' y G'' ∧ Q y G''
def ExQ (E : XK3) (c : Value) (fs : List (Str × D)) (G' : Gp) : Prop := ∃ G'', Sub G'' G' ∧ E c fs G''
def defEnds (E : XK3) (Q : D → Gp → Prop) : Ends3 where
  nx := fun _ G' => RetQ Q .non G'
  rt := RetQ Q
  ex := fun c fs _ G' => ExQ E c fs G'
theorem FRep.sub {K : PySem.W.Frag} {G G' : Gp} {H : Hp} (s : Sub G' G) {kvs : List (Str × D)} {ws : List (Str × V)} (h : FRep K G H kvs ws) : FRep K G' H kvs ws := ⟨h.1, h.2.sub s⟩
theorem XRel.sub {K : PySem.W.Frag} {G G' : Gp} {H : Hp} (s : Sub G' G) {d : Option Addr} {fs : List (Str × D)} (h : XRel K G H d fs) : XRel K G' H d fs := by
  rcases h with h | ⟨dd, ws, e, q, n, r⟩
  · exact .inl h
  · exact .inr ⟨dd, ws, e, q, s.nn n, r.sub s⟩
/-- the context of a def's body, as it is seen here -/
structure DefCx (B : Bas) (k : Nat) (N : List Str) (sc : Scope) (X : Cx) : Prop where
  b : CxB B k X
  N : X.N = N
  sc : X.env.scope = sc
  calm : X.calm = true
  pass : PassesOwn (model X.prog X.w) X.A X.env X.xe
  stk : X.stack = X.env :: X.outer
  frm : X.env.frame = some X.env.locals
  fn : X.fn = fun _ => true
theorem fn3 {B : Bas} {k n : Nat} {x qual : Str} {params : Arguments} {body : List Stmt} {scope : Scope} {f : Addr} {fd : FuncData} {N ps : List Str} {sp : Sp3} {t : TS3} {dvs : List V} {kws : List (Str × V)} (F : FunD B.K x qual params body scope dvs kws f fd) (S : FnScope N ps scope) (hn : ps.length = n)
    (hb : ∀ X, DefCx B k N scope X → PSs3 X body t) (h : ∀ ds G E Q, ds.length = n → sp ds G E Q → t (defEnds E Q) (start3 N ds) G) :
    FnOk B.P B.w B.K B.mg B.base (L2.CX B.P B.w) (k + 1) f fd ps (liftSp B.K n sp) := by
  refine F.ok S (fun vs H Q E ⟨ds, G, F, E3, Q3, a, r, hl, _⟩ => by rw [← r.length, hl, hn]) (fun cdv A outer s H vs Q E hr hsp => ?_)
  obtain ⟨ds, G, F, E3, Q3, a, r, hl, hs, px, p⟩ := hsp
  refine ⟨_, hb _ ⟨⟨rfl, rfl, rfl, rfl, rfl, hr⟩, rfl, rfl, rfl, passes_of rfl, rfl, rfl, rfl⟩ (fun cls d _ H' => E cls d H') (takes_of rfl rfl rfl rfl), start3 N ds, G, F, defEnds E3 Q3, ⟨?_, a.g, a.dj⟩, h ds G E3 Q3 hl hs, ?_⟩
  · unfold start3 L2.start
    rw [r.length]
    exact SlRel.start r
  · have rt : Post B.K F G H (RetQ Q3) Q := fun x G' ⟨y, G'', w, q⟩ v H' t rv => by
      obtain ⟨s1, r1⟩ := w _ _ _ _ t.at rv
      exact p _ _ q _ _ (t.sub s1) r1
    exact ⟨fun τ G' q σ' H' t => rt _ _ q _ _ t.t (by simp only [Rep]), rt, fun _ _ z => z.elim, fun _ _ z => z.elim, fun c fs τ G' ⟨G'', s1, q⟩ d σ' H' t xr => px c fs G'' q d H' (t.t.sub s1) (xr.sub (jn_sub s1 t.t.dj))⟩

def seqAt (ds : List D) (i : Int) (G : Gp) (Q : D → Gp → Prop) : Prop := match atI ds i with
  | some d => Q d G
  | none => False
def val3 (kvs : List (Key × D)) (k : Key) : Option D := (kvs.find? fun kv => decide (kv.1 = k)).map (·.2)
def keyD : D → Option Key
  | .int i => some (.inl i)
  | .str x => some (.inr x)
  | _ => none
def dicAt (kvs : List (Key × D)) (y : D) (G : Gp) (Q : D → Gp → Prop) : Prop := match keyD y with
  | some k => (match val3 kvs k with
    | some d => Q d G
    | none => False)
  | none => False
def rIx3 : R3 := fun x y G Q => match x with
  | .tup ds => (match y with
    | .int i => seqAt ds i G Q
    | _ => False)
  | .lst ds => (match y with
    | .int i => seqAt ds i G Q
    | _ => False)
  | .str z => (match y with
    | .int i => z.length ≤ sizeLine ∧ (match atI z.cps.toList i with
      | some c => Q (.str ⟨#[c]⟩) G
      | none => False)
    | _ => False)
  | .ref a => (match G a with
    | some (.lst ds) => (match y with
      | .int i => seqAt ds i G Q
      | _ => False)
    | some (.dic kvs) => dicAt kvs y G Q
    | some (.rdd kvs) => dicAt kvs y G Q
    | _ => False)
  | _ => False
theorem repL_atI {K : PySem.W.Frag} {G : Gp} {H : Hp} {ds : List D} {vs : List V} {i : Int} {d : D} (r : RepL K G H ds vs) (h : atI ds i = some d) : ∃ v, atI vs i = some v ∧ Rep K G H d v := by
  unfold atI at h ⊢
  rw [← r.length]
  cases e : ixN ds.length i with
  | none => rw [e] at h; cases h
  | some j =>
    rw [e] at h
    obtain ⟨v, h1, h2⟩ := r.get (i := j) (by simpa using h)
    exact ⟨v, by simpa using h1, h2⟩
theorem krep_val {K : PySem.W.Frag} {G : Gp} {H : Hp} : ∀ {kvs : List (Key × D)} {ws : List (Key × V)} (k : Key), KRep K G H kvs ws → (val3 kvs k = none ∧ valV ws k = none) ∨ ∃ d v, val3 kvs k = some d ∧ valV ws k = some v ∧ Rep K G H d v
  | [], ws, k, ⟨e, r⟩ => by
    have : ws = [] := by simpa using e
    subst this
    exact .inl ⟨rfl, rfl⟩
  | (k', d) :: kvs, ws, k, ⟨e, r⟩ => by
    cases ws with
    | nil => simp at e
    | cons q ws =>
      obtain ⟨k2, v⟩ := q
      simp only [List.map_cons, List.cons.injEq, RepL] at e r
      obtain ⟨e1, e2⟩ := e
      obtain ⟨v', r', e3, r1, r2⟩ := r
      obtain ⟨e4, e5⟩ := e3
      subst e1 e4
      by_cases hk : k2 = k
      · exact .inr ⟨d, v, by simp [val3, hk], by simp [valV, hk], r1⟩
      · have q := krep_val (kvs := kvs) (ws := ws) k ⟨e2, by rw [e5]; exact r2⟩
        have h1 : val3 ((k2, d) :: kvs) k = val3 kvs k := by simp [val3, hk]
        have h2 : valV ((k2, v) :: ws) k = valV ws k := valV_neg hk
        rw [h1, h2]
        exact q
theorem rep_key {K : PySem.W.Frag} {G : Gp} {H : Hp} {y : D} {k : Key} {v : V} (h : keyD y = some k) (r : Rep K G H y v) : v = kV k := by
  cases y with
  | int i => cases h; exact rep_int r
  | str i => cases h; exact rep_str r
  | _ => cases h
section
variable {X : Cx}
/-- d[y] by values -/
theorem ix_dict (hu : X.A.units + 1 < cLine) : IxR X (fun x y H Q => ∃ a v, x = .ref a ∧ DGet H a y (some v) ∧ Q v H) := by
  intro value slice pins s σ H x y v u Q I rx ry ⟨a, w, ex, g, q⟩ hs
  subst ex
  obtain rfl : v = Value.ref a := rx
  unfold subscriptTail
  refine wpAny_bind ?_
  rw [getitemInPython_of_ne (dict_typeIs I g).not_modules]
  refine wpAny_bind (wpAny_specialOf (dict_typeIs I g) PySem.F.slot_dict_getitem.lookup ?_)
  have fin : wpAny (model X.prog X.w) X.A (subscripted slice false (.ref a) u) (fun r s₃ => wpAny (model X.prog X.w) X.A (letTemporaryGo value (.ref a) r >>= fun _ => pure r) (EP X pins σ Q) X.xe s₃) X.xe s := by
    rw [hs]
    exact wpAny_operating (d_getItem hu I g ry fun w' s3 I3 rw' => wpAny_bind (wpAny_letTemporaryGo (wpAny_pure ⟨w, H, I3, rw', q⟩)))
  first
    | exact wpAny_pure (wpAny_bind fin)
    | exact wpAny_bind (wpAny_pure (wpAny_bind fin))
    | exact wpAny_bind fin
def Ix3 (X : Cx) (r : R3) : Prop := IxR X (liftR X.K r)
theorem at_dic {K : PySem.W.Frag} {F G : Gp} {H : Hp} (t : At K F G H) {a : Addr} {kvs : List (Key × D)} (h : G a = some (.dic kvs)) : ∃ ws, H a = some (.dK ws) ∧ KRep K (jn G F) H kvs ws := t.g a _ (jn_some h)
theorem at_rdd {K : PySem.W.Frag} {F G : Gp} {H : Hp} (t : At K F G H) {a : Addr} {kvs : List (Key × D)} (h : G a = some (.rdd kvs)) : ∃ o ws, H a = some (.frz o (.dK ws)) ∧ KRep K (jn G F) H kvs ws := t.g a _ (jn_some h)
theorem ix3 (hu : X.A.units + 1 < cLine) : Ix3 X rIx3 := by
  refine IxR.imp (IxR.or ix_seq (ix_dict hu)) fun v u H Q ⟨x, y, G, F, Q3, t, rx, ry, h, p⟩ => ?_
  have dic : ∀ {a : Addr} {kvs : List (Key × D)} {ws : List (Key × V)}, v = .ref a → Rd H a (.dK ws) → KRep X.K (jn G F) H kvs ws → dicAt kvs y G Q3 → ∃ a v', v = .ref a ∧ DGet H a u (some v') ∧ Q v' H := fun {a kvs ws} ev e kr h => by
    unfold dicAt at h
    split at h
    · rename_i k hk
      split at h
      · rename_i d hd
        have eu := rep_key hk ry
        rcases krep_val k kr with ⟨q, _⟩ | ⟨d', v', q1, q2, q3⟩
        · rw [q] at hd; cases hd
        · rw [q1] at hd
          cases hd
          exact ⟨a, v', ev, .inl ⟨ws, k, e, eu, q2.symm⟩, p _ _ h _ _ t.tr q3⟩
      · exact h.elim
    · exact h.elim
  have sq : ∀ {ds : List D} {xs : List V} {i : Int}, RepL X.K (jn G F) H ds xs → seqAt ds i G Q3 → ∃ v, atI xs i = some v ∧ Q v H := fun {ds xs i} r h => by
    unfold seqAt at h
    split at h
    · rename_i d hd
      obtain ⟨v, h1, h2⟩ := repL_atI r hd
      exact ⟨v, h1, p _ _ h _ _ t.tr h2⟩
    · exact h.elim
  cases x with
  | tup ds =>
    cases y with
    | int i =>
      obtain ⟨a, xs, e, q, r⟩ := rx.tupSq
      obtain ⟨w, h1, h2⟩ := sq r h
      exact .inl (.inr (.inl ⟨a, xs, i, w, e, rep_int ry, q, h1, h2⟩))
    | _ => exact h.elim
  | lst ds =>
    cases y with
    | int i =>
      obtain ⟨a, xs, e, q, r⟩ := rx.lstSq
      obtain ⟨w, h1, h2⟩ := sq r h
      exact .inl (.inl ⟨a, xs, i, w, e, rep_int ry, q, h1, h2⟩)
    | _ => exact h.elim
  | str z =>
    cases y with
    | int i =>
      obtain ⟨hz, h⟩ := h
      split at h
      · rename_i c hc
        exact .inl (.inr (.inr ⟨z, i, c, rep_str rx, rep_int ry, hz, hc, p _ _ h _ _ t.tr (by simp only [Rep])⟩))
      · exact h.elim
    | _ => exact h.elim
  | ref a =>
    have ev := rep_ref rx
    simp only [rIx3] at h
    split at h
    · rename_i ds e
      cases y with
      | int i =>
        obtain ⟨xs, q, r⟩ := at_list t e
        obtain ⟨w, h1, h2⟩ := sq r h
        exact .inl (.inl ⟨a, xs, i, w, ev, rep_int ry, SqL.of q, h1, h2⟩)
      | _ => exact h.elim
    · rename_i kvs e
      obtain ⟨ws, q, kr⟩ := at_dic t e
      exact .inr (dic ev (.inl q) kr h)
    · rename_i kvs e
      obtain ⟨o, ws, q, kr⟩ := at_rdd t e
      exact .inr (dic ev (.inr ⟨o, q⟩) kr h)
    · exact h.elim
  | _ => exact h.elim
theorem pe3_ix {a b : Expr} {ta tb : TE3} {r : R3} {pos : Pos} (hr : Ix3 X r) (ha : PE3 X a ta) (hb : PE3 X b tb) (hs : PlainIx b) : PE3 X (.Subscript a b pos) (tOp3 r ta tb) := fun W tk =>
  PE.imp (pe_ix hr (ha W tk) (hb W tk) hs) fun σ H Q h => op_step h
end
end L3
namespace L3
open PySem PySem.Spec PyProof.Rows L2

mutual
def toPy : D → PyData
  | .non => .none
  | .bl b => .bool b
  | .int i => .int i
  | .str x => .str x
  | .tup l => .tuple (toPys l)
  | .lst l => .list (toPys l)
  | .ref _ => .dict []
  | .ty _ => .dict []
def toPys : List D → List PyData
  | [] => []
  | d :: ds => toPy d :: toPys ds
end
mutual
/-- data through and through, n deep at most -/
def ok3 : Nat → D → Bool
  | _, .non => true
  | _, .bl _ => true
  | _, .int _ => true
  | _, .str x => PyData.strOk x
  | n + 1, .tup l => oks3 n l
  | n + 1, .lst l => oks3 n l
  | 0, .tup _ => false
  | 0, .lst _ => false
  | _, .ref _ => false
  | _, .ty _ => false
def oks3 : Nat → List D → Bool
  | _, [] => true
  | n, d :: ds => ok3 n d && oks3 n ds
end
mutual
def deq : D → D → Bool
  | .non, .non => true
  | .bl a, .bl b => a == b
  | .bl a, .int b => (if a then 1 else 0) == b
  | .int a, .bl b => a == (if b then 1 else 0)
  | .int a, .int b => a == b
  | .str a, .str b => a == b
  | .tup a, .tup b => deqs a b
  | .lst a, .lst b => deqs a b
  | _, _ => false
def deqs : List D → List D → Bool
  | [], [] => true
  | x :: xs, y :: ys => deq x y && deqs xs ys
  | _, _ => false
end
mutual
theorem ok3_py : ∀ (n : Nat) (d : D), ok3 n d = true → (toPy d).canLay0 = true ∧ (toPy d).depth ≤ n
  | n, .non, h => by simp [toPy, PyData.canLay0, PyData.depth]
  | n, .bl _, h => by simp [toPy, PyData.canLay0, PyData.depth]
  | n, .int _, h => by simp [toPy, PyData.canLay0, PyData.depth]
  | n, .str x, h => by simp only [ok3] at h; simp [toPy, PyData.canLay0, PyData.depth, h]
  | n + 1, .tup l, h => by
    simp only [ok3] at h
    have q := oks3_py n l h
    simp only [toPy, PyData.canLay0, PyData.depth]
    exact ⟨q.1, by omega⟩
  | n + 1, .lst l, h => by
    simp only [ok3] at h
    have q := oks3_py n l h
    simp only [toPy, PyData.canLay0, PyData.depth]
    exact ⟨q.1, by omega⟩
  | 0, .tup _, h => by simp [ok3] at h
  | 0, .lst _, h => by simp [ok3] at h
  | _, .ref _, h => by simp [ok3] at h
  | _, .ty _, h => by simp [ok3] at h
theorem oks3_py : ∀ (n : Nat) (l : List D), oks3 n l = true → PyData.canLayAll0 (toPys l) = true ∧ PyData.depthAll (toPys l) ≤ n
  | n, [], h => by simp [toPys, PyData.canLayAll0, PyData.depthAll]
  | n, d :: ds, h => by
    simp only [oks3, Bool.and_eq_true] at h
    have q := ok3_py n d h.1
    have r := oks3_py n ds h.2
    simp only [toPys, PyData.canLayAll0, PyData.depthAll, Bool.and_eq_true]
    exact ⟨⟨q.1, r.1⟩, by omega⟩
end
theorem ok3_shaped {d : D} (h : ok3 60 d = true) : SeqAt.shaped (toPy d) = true := by
  have q := ok3_py 60 d h
  unfold SeqAt.shaped
  rw [q.1, Bool.true_and]
  exact decide_eq_true (by omega)
mutual
theorem deq_py : ∀ (n m : Nat) (x y : D), ok3 n x = true → ok3 m y = true → PyData.eqv (toPy x) (toPy y) = deq x y
  | n, m, .tup a, .tup b, hx, hy => by
    cases n with
    | zero => simp [ok3] at hx
    | succ n =>
      cases m with
      | zero => simp [ok3] at hy
      | succ m =>
        simp only [ok3] at hx hy
        simp only [toPy, PyData.eqv, deq]
        exact deqs_py n m a b hx hy
  | n, m, .lst a, .lst b, hx, hy => by
    cases n with
    | zero => simp [ok3] at hx
    | succ n =>
      cases m with
      | zero => simp [ok3] at hy
      | succ m =>
        simp only [ok3] at hx hy
        simp only [toPy, PyData.eqv, deq]
        exact deqs_py n m a b hx hy
  | _, _, .non, y, hx, hy => by cases y <;> simp [toPy, PyData.eqv, deq, ok3] at *
  | _, _, .bl _, y, hx, hy => by cases y <;> simp [toPy, PyData.eqv, deq, ok3] at *
  | _, _, .int _, y, hx, hy => by cases y <;> simp [toPy, PyData.eqv, deq, ok3] at *
  | _, _, .str _, y, hx, hy => by cases y <;> simp [toPy, PyData.eqv, deq, ok3] at *
  | _, _, .ref _, y, hx, hy => by simp [ok3] at hx
  | _, _, .ty _, y, hx, hy => by simp [ok3] at hx
  | _, _, .tup _, .non, _, _ => by simp [toPy, PyData.eqv, deq]
  | _, _, .tup _, .bl _, _, _ => by simp [toPy, PyData.eqv, deq]
  | _, _, .tup _, .int _, _, _ => by simp [toPy, PyData.eqv, deq]
  | _, _, .tup _, .str _, _, _ => by simp [toPy, PyData.eqv, deq]
  | _, _, .tup _, .lst _, _, _ => by simp [toPy, PyData.eqv, deq]
  | _, _, .tup _, .ref _, _, hy => by simp [ok3] at hy
  | _, _, .tup _, .ty _, _, hy => by simp [ok3] at hy
  | _, _, .lst _, .non, _, _ => by simp [toPy, PyData.eqv, deq]
  | _, _, .lst _, .bl _, _, _ => by simp [toPy, PyData.eqv, deq]
  | _, _, .lst _, .int _, _, _ => by simp [toPy, PyData.eqv, deq]
  | _, _, .lst _, .str _, _, _ => by simp [toPy, PyData.eqv, deq]
  | _, _, .lst _, .tup _, _, _ => by simp [toPy, PyData.eqv, deq]
  | _, _, .lst _, .ref _, _, hy => by simp [ok3] at hy
  | _, _, .lst _, .ty _, _, hy => by simp [ok3] at hy
theorem deqs_py : ∀ (n m : Nat) (xs ys : List D), oks3 n xs = true → oks3 m ys = true → PyData.eqvAll (toPys xs) (toPys ys) = deqs xs ys
  | _, _, [], [], _, _ => by simp [toPys, PyData.eqvAll, deqs]
  | _, _, [], _ :: _, _, _ => by simp [toPys, PyData.eqvAll, deqs]
  | _, _, _ :: _, [], _, _ => by simp [toPys, PyData.eqvAll, deqs]
  | n, m, x :: xs, y :: ys, hx, hy => by
    simp only [oks3, Bool.and_eq_true] at hx hy
    simp only [toPys, PyData.eqvAll, deqs]
    rw [deq_py n m x y hx.1 hy.1, deqs_py n m xs ys hx.2 hy.2]
end
section
variable {K : PySem.W.Frag} {G : Gp} {H : Hp}
mutual
theorem rep_dp : ∀ (n : Nat) (d : D) (v : V), ok3 n d = true → Rep K G H d v → Dp K H v (toPy d)
  | _, .non, v, _, r => by rw [rep_non r]; simp only [toPy]; exact .non
  | _, .bl b, v, _, r => by rw [rep_bl r]; simp only [toPy]; exact .bl b
  | _, .int i, v, _, r => by rw [rep_int r]; simp only [toPy]; exact .int i
  | _, .str x, v, _, r => by rw [rep_str r]; simp only [toPy]; exact .str x
  | n + 1, .tup l, v, h, r => by
    obtain ⟨a, xs, e, q, t⟩ := r.tupSq
    rw [e]
    simp only [toPy]
    exact .tup q (repL_dp n l xs (by simpa only [ok3] using h) t)
  | n + 1, .lst l, v, h, r => by
    obtain ⟨a, xs, e, q, t⟩ := r.lstSq
    rw [e]
    simp only [toPy]
    exact .lst q (repL_dp n l xs (by simpa only [ok3] using h) t)
  | 0, .tup _, _, h, _ => by simp [ok3] at h
  | 0, .lst _, _, h, _ => by simp [ok3] at h
  | _, .ref _, _, h, _ => by simp [ok3] at h
  | _, .ty _, _, h, _ => by simp [ok3] at h
theorem repL_dp : ∀ (n : Nat) (l : List D) (vs : List V), oks3 n l = true → RepL K G H l vs → DpAll K H vs (toPys l)
  | _, [], vs, _, r => by simp only [RepL] at r; subst r; simp only [toPys]; exact .nil
  | n, d :: ds, vs, h, r => by
    simp only [RepL] at r
    obtain ⟨v, u, rfl, r1, r2⟩ := r
    simp only [oks3, Bool.and_eq_true] at h
    simp only [toPys]
    exact .cons (rep_dp n d v h.1 r1) (repL_dp n ds u h.2 r2)
end
end
/-- a tracked list is looked at as a value -/
def vw (G : Gp) : D → D
  | .ref a => (match G a with
    | some (.lst ds) => .lst ds
    | _ => .ref a)
  | d => d
theorem vw_dp {K : PySem.W.Frag} {F G : Gp} {H : Hp} {d : D} {v : V} (t : At K F G H) (h : ok3 60 (vw G d) = true) (r : Rep K (jn G F) H d v) : Dp K H v (toPy (vw G d)) := by
  cases d with
  | ref a =>
    simp only [vw] at h ⊢
    cases q : G a with
    | none => rw [q] at h; simp [ok3] at h
    | some o =>
      rw [q] at h
      cases o with
      | lst ds =>
        simp only at h ⊢
        obtain ⟨xs, e, rr⟩ := at_list t q
        rw [rep_ref r]
        simp only [toPy]
        exact .lst (SqL.of e) (repL_dp 59 ds xs (by simpa only [ok3] using h) rr)
      | _ => simp [ok3] at h
  | _ => exact rep_dp 60 _ v h r
/-- ==, of flat things; of data -/
def scalD : D → D → Bool
  | .non, .non => true | .non, .int _ => true | .int _, .non => true | .non, .bl _ => true | .bl _, .non => true | .non, .str _ => true | .str _, .non => true
  | .int _, .int _ => true | .bl _, .bl _ => true | .str _, .str _ => true
  | .int _, .str _ => true | .str _, .int _ => true | .bl _, .str _ => true | .str _, .bl _ => true
  | _, _ => false
def seqD : D → D → Bool
  | .non, .non => true
  | .int i, .int j => decide (i = j)
  | .bl i, .bl j => decide (i = j)
  | .str i, .str j => decide (i = j)
  | _, _ => false
def rEq3 : R3 := fun x y G Q => match scalD x y with
  | true => Q (.bl (seqD x y)) G
  | false => ok3 60 (vw G x) = true ∧ ok3 60 (vw G y) = true ∧ Q (.bl (deq (vw G x) (vw G y))) G
def rNe3 : R3 := fun x y G Q => match scalD x y with
  | true => Q (.bl (!seqD x y)) G
  | false => ok3 60 (vw G x) = true ∧ ok3 60 (vw G y) = true ∧ Q (.bl (!deq (vw G x) (vw G y))) G
theorem scal_of {K : PySem.W.Frag} {G : Gp} {H : Hp} {x y : D} {v u : V} (h : scalD x y = true) (rx : Rep K G H x v) (ry : Rep K G H y u) : scal v u = true ∧ decide (v = u) = seqD x y := by
  cases x with
  | non =>
    have e := rep_non rx
    subst e
    cases y with
    | non => have e := rep_non ry; subst e; exact ⟨rfl, rfl⟩
    | int j => have e := rep_int ry; subst e; exact ⟨rfl, rfl⟩
    | bl j => have e := rep_bl ry; subst e; exact ⟨rfl, rfl⟩
    | str j => have e := rep_str ry; subst e; exact ⟨rfl, rfl⟩
    | _ => simp [scalD] at h
  | int i =>
    have e := rep_int rx
    subst e
    cases y with
    | non => have e := rep_non ry; subst e; exact ⟨rfl, rfl⟩
    | int j => have e := rep_int ry; subst e; exact ⟨rfl, by simp [seqD]⟩
    | str j => have e := rep_str ry; subst e; exact ⟨rfl, rfl⟩
    | _ => simp [scalD] at h
  | bl i =>
    have e := rep_bl rx
    subst e
    cases y with
    | non => have e := rep_non ry; subst e; exact ⟨rfl, rfl⟩
    | bl j => have e := rep_bl ry; subst e; exact ⟨rfl, by simp [seqD]⟩
    | str j => have e := rep_str ry; subst e; exact ⟨rfl, rfl⟩
    | _ => simp [scalD] at h
  | str i =>
    have e := rep_str rx
    subst e
    cases y with
    | non => have e := rep_non ry; subst e; exact ⟨rfl, rfl⟩
    | int j => have e := rep_int ry; subst e; exact ⟨rfl, rfl⟩
    | bl j => have e := rep_bl ry; subst e; exact ⟨rfl, rfl⟩
    | str j => have e := rep_str ry; subst e; exact ⟨rfl, by simp [seqD]⟩
    | _ => simp [scalD] at h
  | _ => simp [scalD] at h
section
variable {X : Cx}
theorem op3_eq (hu : X.A.units + 64 < cLine) : Op3 X (compareOp .Eq) rEq3 :=
  OpR.imp (OpR.or op_eq (op_eqD hu)) fun v u H Q ⟨x, y, G, F, Q3, t, rx, ry, h, p⟩ => by
    simp only [rEq3] at h
    split at h
    · rename_i hs
      obtain ⟨h1, h2⟩ := scal_of hs rx ry
      exact .inl ⟨h1, by rw [h2]; exact p _ _ h _ _ t.tr (by simp only [Rep])⟩
    · obtain ⟨hx, hy, h⟩ := h
      exact .inr ⟨_, _, vw_dp t hx rx, vw_dp t hy ry, ok3_shaped hx, ok3_shaped hy, by rw [deq_py _ _ _ _ hx hy]; exact p _ _ h _ _ t.tr (by simp only [Rep])⟩
theorem op3_ne (hu : X.A.units + 64 < cLine) : Op3 X (compareOp .NotEq) rNe3 :=
  OpR.imp (OpR.or op_ne (op_neD hu)) fun v u H Q ⟨x, y, G, F, Q3, t, rx, ry, h, p⟩ => by
    simp only [rNe3] at h
    split at h
    · rename_i hs
      obtain ⟨h1, h2⟩ := scal_of hs rx ry
      exact .inl ⟨h1, by rw [h2]; exact p _ _ h _ _ t.tr (by simp only [Rep])⟩
    · obtain ⟨hx, hy, h⟩ := h
      exact .inr ⟨_, _, vw_dp t hx rx, vw_dp t hy ry, ok3_shaped hx, ok3_shaped hy, by rw [deq_py _ _ _ _ hx hy]; exact p _ _ h _ _ t.tr (by simp only [Rep])⟩
/-- is None -/
def isNon : D → Bool
  | .non => true
  | _ => false
def rIs3 : R3 := fun x y G Q => match y with
  | .non => Q (.bl (isNon x)) G
  | _ => False
def rIsN3 : R3 := fun x y G Q => match y with
  | .non => Q (.bl (!isNon x)) G
  | _ => False
theorem isNon_of {K : PySem.W.Frag} {G : Gp} {H : Hp} {x : D} {v : V} (r : Rep K G H x v) : decide (v = .non) = isNon x := by
  cases x with
  | non => rw [rep_non r]; rfl
  | bl _ => rw [rep_bl r]; rfl
  | int _ => rw [rep_int r]; rfl
  | str _ => rw [rep_str r]; rfl
  | tup _ => obtain ⟨a, xs, e, _⟩ := r.tupSq; rw [e]; rfl
  | lst _ => obtain ⟨a, xs, e, _⟩ := r.lstSq; rw [e]; rfl
  | ref _ => rw [rep_ref r]; rfl
  | ty _ => rw [rep_ty r]; rfl
theorem op3_is : Op3 X (compareOp .Is) rIs3 :=
  OpR.imp op_isN fun v u H Q ⟨x, y, G, F, Q3, t, rx, ry, h, p⟩ => by
    cases y with
    | non => exact ⟨rep_non ry, by rw [isNon_of rx]; exact p _ _ h _ _ t.tr (by simp only [Rep])⟩
    | _ => exact h.elim
theorem op3_isnot : Op3 X (compareOp .IsNot) rIsN3 :=
  OpR.imp op_notN fun v u H Q ⟨x, y, G, F, Q3, t, rx, ry, h, p⟩ => by
    cases y with
    | non => exact ⟨rep_non ry, by rw [isNon_of rx]; exact p _ _ h _ _ t.tr (by simp only [Rep])⟩
    | _ => exact h.elim

def rCmpI (p : Int → Int → Bool) : R3 := fun x y G Q => match x, y with
  | .int i, .int j => Q (.bl (p i j)) G
  | _, _ => False
theorem op3_int {f : Value → Value → Sem Value} {p : Int → Int → Bool} (h : OpR X f (rI0 fun i j => .bl (p i j))) : Op3 X f (rCmpI p) :=
  OpR.imp h fun v u H Q ⟨x, y, G, F, Q3, t, rx, ry, h, pp⟩ => by
    cases x with
    | int i =>
      cases y with
      | int j => exact ⟨i, j, rep_int rx, rep_int ry, pp _ _ h _ _ t.tr (by simp only [Rep])⟩
      | _ => exact h.elim
    | _ => exact h.elim
def rLt3 : R3 := fun x y G Q => match x with
  | .int i => (match y with
    | .int j => Q (.bl (decide (i < j))) G
    | _ => False)
  | .str i => (match y with
    | .str j => Q (.bl (decide (i.cps.toList < j.cps.toList))) G
    | _ => False)
  | _ => False
theorem op3_lt : Op3 X (compareOp .Lt) rLt3 :=
  OpR.imp (OpR.or op_lt op_lt_str) fun v u H Q ⟨x, y, G, F, Q3, t, rx, ry, h, p⟩ => by
    cases x with
    | int i =>
      cases y with
      | int j => exact .inl ⟨i, j, rep_int rx, rep_int ry, p _ _ h _ _ t.tr (by simp only [Rep])⟩
      | _ => exact h.elim
    | str i =>
      cases y with
      | str j => exact .inr ⟨i, j, rep_str rx, rep_str ry, p _ _ h _ _ t.tr (by simp only [Rep])⟩
      | _ => exact h.elim
    | _ => exact h.elim
theorem op3_le : Op3 X (compareOp .LtE) (rCmpI fun i j => decide (i ≤ j)) := op3_int op_le
theorem op3_gt : Op3 X (compareOp .Gt) (rCmpI fun i j => decide (j < i)) := op3_int op_gt
theorem op3_ge : Op3 X (compareOp .GtE) (rCmpI fun i j => decide (j ≤ i)) := op3_int op_ge

def rArI (C : Int → Int → Prop) (g : Int → Int → Int) : R3 := fun x y G Q => match x, y with
  | .int i, .int j => C i j ∧ Q (.int (g i j)) G
  | _, _ => False
theorem op3_arI {f : Value → Value → Sem Value} {C : Int → Int → Prop} {g : Int → Int → Int} (h : OpR X f (rI C fun i j => .int (g i j))) : Op3 X f (rArI C g) :=
  OpR.imp h fun v u H Q ⟨x, y, G, F, Q3, t, rx, ry, h, pp⟩ => by
    cases x with
    | int i =>
      cases y with
      | int j => exact ⟨i, j, rep_int rx, rep_int ry, h.1, pp _ _ h.2 _ _ t.tr (by simp only [Rep])⟩
      | _ => exact h.elim
    | _ => exact h.elim
def rAr0 (g : Int → Int → Int) : R3 := fun x y G Q => match x, y with
  | .int i, .int j => Q (.int (g i j)) G
  | _, _ => False
theorem op3_ar0 {f : Value → Value → Sem Value} {g : Int → Int → Int} (h : OpR X f (rI0 fun i j => .int (g i j))) : Op3 X f (rAr0 g) :=
  OpR.imp h fun v u H Q ⟨x, y, G, F, Q3, t, rx, ry, h, pp⟩ => by
    cases x with
    | int i =>
      cases y with
      | int j => exact ⟨i, j, rep_int rx, rep_int ry, pp _ _ h _ _ t.tr (by simp only [Rep])⟩
      | _ => exact h.elim
    | _ => exact h.elim
/-- +: ints, texts, tuples (lists: a new list, by rCat3) -/
def rAdd3 : R3 := fun x y G Q => match x with
  | .int i => (match y with
    | .int j => Q (.int (i + j)) G
    | _ => False)
  | .str i => (match y with
    | .str j => i.length + j.length ≤ sizeLine ∧ Q (.str (i ++ j)) G
    | _ => False)
  | .tup xs => (match y with
    | .tup ys => xs.length + ys.length ≤ sizeLine ∧ Q (.tup (xs ++ ys)) G
    | _ => False)
  | _ => False
theorem op_catF : OpR X (binaryOp .Add) (fun x y H Q => ∃ a b xs ys, x = .ref a ∧ y = .ref b ∧ SqT X.K H a xs ∧ SqT X.K H b ys ∧ xs.length + ys.length ≤ sizeLine ∧
    (xs = [] → Q (.ref b) H) ∧ (xs ≠ [] → ys = [] → Q (.ref a) H) ∧ (xs ≠ [] → ys ≠ [] → ∀ p o, H p = none → o.dict = none → Q (.ref p) (upd H p (.frz o (.tup (xs ++ ys)))))) := by
  intro pins s σ H x y v u Q I rx ry h
  obtain ⟨a, b, xs, ys, rfl, rfl, ha, hb, hz, q0, q1, q2⟩ := h
  cases rx
  cases ry
  obtain ⟨its, r1, p1, _⟩ := I.tuple ha
  obtain ⟨its2, r2, p2, _⟩ := I.tuple hb
  by_cases hx : xs = []
  · subst hx
    cases r1
    exact cat_tup0 p1 p2 ⟨.ref b, H, I, rfl, q0 rfl⟩
  · refine HT.cat_tup p1 p2 (fun z => hx (r1.nil_iff.mp z)) (fun z => ⟨.ref a, H, I, rfl, q1 hx (r2.nil_iff.mp z)⟩) (fun z => ?_) (by rw [← r1.length, ← r2.length]; exact hz)
    exact laid_tup I (r1.append r2) (by rw [List.length_append]; exact hz) (q2 hx fun w => z (r2.nil_iff.mpr w))
theorem op3_add : Op3 X (binaryOp .Add) rAdd3 :=
  OpR.imp (OpR.or op_add (OpR.or op_add_str op_catF)) fun v u H Q ⟨x, y, G, F, Q3, t, rx, ry, h, p⟩ => by
    cases x with
    | int i =>
      cases y with
      | int j => exact .inl ⟨i, j, rep_int rx, rep_int ry, p _ _ h _ _ t.tr (by simp only [Rep])⟩
      | _ => exact h.elim
    | str i =>
      cases y with
      | str j => exact .inr (.inl ⟨i, j, rep_str rx, rep_str ry, h.1, p _ _ h.2 _ _ t.tr (by simp only [Rep])⟩)
      | _ => exact h.elim
    | tup xs =>
      cases y with
      | tup ys =>
        obtain ⟨a, vs, e1, q1, t1⟩ := rx.tupSq
        obtain ⟨b, us, e2, q2, t2⟩ := ry.tupSq
        refine .inr (.inr ⟨a, b, vs, us, e1, e2, q1, q2, by rw [← t1.length, ← t2.length]; exact h.1, fun e => ?_, fun e e' => ?_, fun _ _ pa o hp ho => ?_⟩)
        · have : xs = [] := by
            have := t1.length
            rw [e] at this
            exact List.length_eq_zero_iff.mp this
          subst this
          refine p _ _ h.2 _ _ t.tr ?_
          rw [← e2]; exact ry
        · have : ys = [] := by
            have := t2.length
            rw [e'] at this
            exact List.length_eq_zero_iff.mp this
          subst this
          refine p _ _ h.2 _ _ t.tr ?_
          rw [← e1, List.append_nil]; exact rx
        · exact p _ _ h.2 _ _ (.newH t.dj t.g hp) (rep_tupNew t.g hp ho (t1.append t2))
      | _ => exact h.elim
    | _ => exact h.elim
/-- the items of a list, as a value or tracked -/
def lstOf (G : Gp) (x : D) : Option (List D) := match vw G x with
  | .lst ds => some ds
  | _ => none
theorem lstOf_sq {K : PySem.W.Frag} {F G : Gp} {H : Hp} {d : D} {v : V} {ds : List D} (t : At K F G H) (h : lstOf G d = some ds) (r : Rep K (jn G F) H d v) : ∃ a xs, v = .ref a ∧ LsX K H a xs ∧ RepL K (jn G F) H ds xs := by
  unfold lstOf at h
  cases d with
  | ref a =>
    simp only [vw] at h
    cases q : G a with
    | none => rw [q] at h; cases h
    | some o =>
      rw [q] at h
      cases o with
      | lst es =>
        cases h
        obtain ⟨xs, e, rr⟩ := at_list t q
        exact ⟨a, xs, rep_ref r, .inl (.inl e), rr⟩
      | _ => cases h
  | lst es =>
    cases h
    exact r.lstX
  | _ => cases h
/-- xs + ys of lists (each tracked by L2 itself: not a locked one) -/
def rCat3 : D → D → Gp → (List D → Gp → Prop) → Prop := fun x y G Q => match lstOf G x, lstOf G y with
  | some xs, some ys => xs.length + ys.length ≤ sizeLine ∧ Q (xs ++ ys) G
  | _, _ => False
theorem op_catRd : OpR X (binaryOp .Add) (fun x y H Q => ∃ l b xs zs, x = .ref l ∧ y = .ref b ∧ LsX X.K H l xs ∧ LsX X.K H b zs ∧ xs.length + zs.length ≤ sizeLine ∧ ∀ p, H p = none → Q (.ref p) (upd H p (.lst (xs ++ zs)))) := by
  intro pins s σ H x y v u Q I rx ry h
  obtain ⟨l, b, xs, zs, rfl, rfl, hl, hb, hz, q⟩ := h
  cases rx
  cases ry
  obtain ⟨its, r1, p1, _⟩ := I.list hl.sq
  obtain ⟨its2, r2, p2, _⟩ := I.list hb.sq
  obtain ⟨⟨cls, dd, data, sl⟩, ho, hc, n, hd⟩ := p1.isList
  obtain ⟨⟨cls2, dd2, data2, sl2⟩, ho2, hc2, n2, hd2⟩ := p2.isList
  simp only at hc hd hc2 hd2
  subst hc hd hc2 hd2
  have e : its.toArray ++ its2.toArray = (its ++ its2).toArray := by simp
  have hsz : its.length + its2.length ≤ sizeLine := by rw [← r1.length, ← r2.length]; exact hz
  refine concat_meets ⟨_, ho, rfl⟩ ⟨_, ho2, rfl⟩ noFill_list_add seq_list_add PySem.F.slot_list_add PySem.F.entry_list_add (PySem.F.args_list_add_2 _ _) (list_addW l b its.toArray its2.toArray n n2 dd dd2 sl sl2 (by simpa using hsz)) ⟨ho, ho2, ?_⟩
  rw [e]
  exact ⟨.ref _, _, I.lnew (t' := s.toks) (r1.append r2) (by rw [List.length_append]; exact hz), rfl, q _ I.fresh⟩
theorem opL3_cat : OpL3 X (binaryOp .Add) rCat3 :=
  OpR.imp op_catRd fun v u H Q ⟨x, y, G, F, Q3, t, rx, ry, h, p⟩ => by
    simp only [rCat3] at h
    split at h
    · rename_i xs ys e1 e2
      obtain ⟨a, vs, q1, q2, q3⟩ := lstOf_sq t e1 rx
      obtain ⟨b, us, w1, w2, w3⟩ := lstOf_sq t e2 ry
      exact ⟨a, b, vs, us, q1, w1, q2, w2, by rw [← q3.length, ← w3.length]; exact h.1, fun pa hp => p _ _ h.2 _ _ (jn_nn (t.g.nn hp)).1 (.new t.dj t.g hp (orel_new hp (q3.append w3)))⟩
    · exact h.elim
end
end L3
namespace L3
open PySem PySem.Spec PyProof.Rows L2

def flatD : D → Bool
  | .non => true
  | .bl _ => true
  | .int _ => true
  | .str _ => true
  | _ => false
def anyD (x : D) (ds : List D) : Bool := ds.any fun z => deq z x
theorem flat_of {K : PySem.W.Frag} {G : Gp} {H : Hp} {x : D} {v : V} (h : flatD x = true) (r : Rep K G H x v) : flatV v = true := by
  cases x with
  | non => rw [rep_non r]; rfl
  | bl _ => rw [rep_bl r]; rfl
  | int _ => rw [rep_int r]; rfl
  | str _ => rw [rep_str r]; rfl
  | _ => simp [flatD] at h
theorem eqV_of {K : PySem.W.Frag} {G : Gp} {H : Hp} {x y : D} {v u : V} (hx : flatD x = true) (hy : flatD y = true) (rx : Rep K G H x v) (ry : Rep K G H y u) : eqV v u = deq x y := by
  cases x with
  | non =>
    rw [rep_non rx]
    cases y with
    | non => rw [rep_non ry]; simp [eqV, deq]
    | bl _ => rw [rep_bl ry]; simp [eqV, deq]
    | int _ => rw [rep_int ry]; simp [eqV, deq]
    | str _ => rw [rep_str ry]; simp [eqV, deq]
    | _ => simp [flatD] at hy
  | bl _ =>
    rw [rep_bl rx]
    cases y with
    | non => rw [rep_non ry]; simp [eqV, deq]
    | bl _ => rw [rep_bl ry]; simp [eqV, deq]
    | int _ => rw [rep_int ry]; simp [eqV, deq]
    | str _ => rw [rep_str ry]; simp [eqV, deq]
    | _ => simp [flatD] at hy
  | int _ =>
    rw [rep_int rx]
    cases y with
    | non => rw [rep_non ry]; simp [eqV, deq]
    | bl _ => rw [rep_bl ry]; simp [eqV, deq]
    | int _ => rw [rep_int ry]; simp [eqV, deq]
    | str _ => rw [rep_str ry]; simp [eqV, deq]
    | _ => simp [flatD] at hy
  | str _ =>
    rw [rep_str rx]
    cases y with
    | non => rw [rep_non ry]; simp [eqV, deq]
    | bl _ => rw [rep_bl ry]; simp [eqV, deq]
    | int _ => rw [rep_int ry]; simp [eqV, deq]
    | str _ => rw [rep_str ry]; simp [eqV, deq]
    | _ => simp [flatD] at hy
  | _ => simp [flatD] at hx
theorem inV_of {K : PySem.W.Frag} {G : Gp} {H : Hp} {x : D} {v : V} (hx : flatD x = true) (rx : Rep K G H x v) : ∀ {ds : List D} {vs : List V}, ds.all flatD = true → RepL K G H ds vs → vs.all flatV = true ∧ inV v vs = anyD x ds
  | [], vs, _, r => by simp only [RepL] at r; subst r; exact ⟨rfl, rfl⟩
  | d :: ds, vs, h, r => by
    simp only [RepL] at r
    obtain ⟨u, w, rfl, r1, r2⟩ := r
    rw [List.all_cons, Bool.and_eq_true] at h
    obtain ⟨h3, h4⟩ := inV_of hx rx h.2 r2
    refine ⟨by rw [List.all_cons, flat_of h.1 r1, h3]; rfl, ?_⟩
    unfold inV anyD at h4 ⊢
    rw [List.any_cons, List.any_cons, h4, eqV_of h.1 hx r1 rx]
theorem any_py (x : D) (hx : ok3 60 x = true) : ∀ ds : List D, oks3 59 ds = true → ((toPys ds).any fun z => PyData.eqv z (toPy x)) = anyD x ds
  | [], _ => by simp [toPys, anyD]
  | d :: ds, h => by
    simp only [oks3, Bool.and_eq_true] at h
    unfold anyD
    simp only [toPys, List.any_cons]
    rw [deq_py 59 60 d x h.1 hx, any_py x hx ds h.2]
    rfl
/-- in, not in (neg) -/
def bn (neg b : Bool) : Bool := if neg then !b else b
def inSeq (neg : Bool) (x : D) (ds : List D) (G : Gp) (Q : D → Gp → Prop) : Prop := flatD x = true ∧ ds.all flatD = true ∧ Q (.bl (bn neg (anyD x ds))) G
def inLst (neg : Bool) (x : D) (ds : List D) (G : Gp) (Q : D → Gp → Prop) : Prop := match flatD x && ds.all flatD with
  | true => Q (.bl (bn neg (anyD x ds))) G
  | false => ok3 60 x = true ∧ oks3 59 ds = true ∧ Q (.bl (bn neg (anyD x ds))) G
def inDic (neg : Bool) (x : D) (kvs : List (Key × D)) (G : Gp) (Q : D → Gp → Prop) : Prop := match keyD x with
  | some k => Q (.bl (bn neg (val3 kvs k).isSome)) G
  | none => False
def inStr (i j : Str) : Bool := !(Builtin.Str.occurrences j i 0 j.length 1).isEmpty
def rIn3 (neg : Bool) : R3 := fun x y G Q => match y with
  | .tup ds => inSeq neg x ds G Q
  | .lst ds => inLst neg x ds G Q
  | .str j => (match x with
    | .str i => Q (.bl (bn neg (inStr i j))) G
    | _ => False)
  | .ref a => (match G a with
    | some (.lst ds) => inLst neg x ds G Q
    | some (.dic kvs) => inDic neg x kvs G Q
    | some (.rdd kvs) => inDic neg x kvs G Q
    | _ => False)
  | _ => False
section
variable {X : Cx}
theorem op_in_dict (hu : X.A.units + 1 < cLine) : OpR X (compareOp .In) (fun y x H Q => ∃ a o, x = .ref a ∧ DGet H a y o ∧ Q (.bl o.isSome) H) := by
  intro pins s σ H y x iv u Q I ry rx ⟨a, ov, ex, g, q⟩
  subst ex
  obtain rfl : u = Value.ref a := rx
  exact d_in hu I g ry fun s3 I3 => ⟨.bl ov.isSome, H, I3, rfl, q⟩
theorem op_notin_dict (hu : X.A.units + 1 < cLine) : OpR X (compareOp .NotIn) (fun y x H Q => ∃ a o, x = .ref a ∧ DGet H a y o ∧ Q (.bl (!o.isSome)) H) := by
  intro pins s σ H y x iv u Q I ry rx ⟨a, ov, ex, g, q⟩
  subst ex
  obtain rfl : u = Value.ref a := rx
  exact d_notIn hu I g ry fun s3 I3 => ⟨.bl (!ov.isSome), H, I3, rfl, q⟩
theorem krep_dget {K : PySem.W.Frag} {G : Gp} {H : Hp} {kvs : List (Key × D)} {ws : List (Key × V)} {y : D} {k : Key} {u : V} {a : Addr} (e : Rd H a (.dK ws)) (kr : KRep K G H kvs ws) (hk : keyD y = some k) (ry : Rep K G H y u) : ∃ o : Option V, DGet H a u o ∧ o.isSome = (val3 kvs k).isSome := by
  have eu := rep_key hk ry
  refine ⟨valV ws k, .inl ⟨ws, k, e, eu, rfl⟩, ?_⟩
  rcases krep_val k kr with ⟨q1, q2⟩ | ⟨d, v, q1, q2, _⟩
  · rw [q1, q2]
    all_goals rfl
  · rw [q1, q2]
    all_goals rfl
theorem op3_in_gen (neg : Bool) (f : Value → Value → Sem Value) (h1 : OpR X f (rIn X.K neg)) (h2 : OpR X f (fun x y H Q => ∃ i j, x = .str i ∧ y = .str j ∧ Q (.bl (bn neg (inStr i j))) H))
    (h3 : OpR X f (fun y x H Q => ∃ a o, x = .ref a ∧ DGet H a y o ∧ Q (.bl (bn neg o.isSome)) H)) (h4 : OpR X f (fun x y H Q => ∃ d ds, Dp X.K H x d ∧ Dp X.K H y (.list ds) ∧ SeqAt.shaped d = true ∧ SeqAt.shaped (.list ds) = true ∧ Q (.bl (bn neg (ds.any fun z => PyData.eqv z d))) H)) : Op3 X f (rIn3 neg) :=
  OpR.imp (OpR.or h1 (OpR.or h2 (OpR.or h3 h4))) fun v u H Q ⟨x, y, G, F, Q3, t, rx, ry, h, p⟩ => by
    have sq : ∀ {ds : List D} {a : Addr} {xs : List V}, u = .ref a → (SqL X.K H a xs ∨ SqT X.K H a xs) → RepL X.K (jn G F) H ds xs → flatD x = true → ds.all flatD = true → Q3 (.bl (bn neg (anyD x ds))) G → rIn X.K neg v u H Q := fun {ds a xs} eu q r fx fs hq => by
      obtain ⟨i1, i2⟩ := inV_of fx rx fs r
      refine ⟨a, xs, eu, q, flat_of fx rx, i1, ?_⟩
      rw [i2]
      have := p (.bl (bn neg (anyD x ds))) _ hq (.bl (bn neg (anyD x ds))) _ t.tr (by simp only [Rep])
      exact this
    have lsq : ∀ {ds : List D}, (vw G y = .lst ds) → inLst neg x ds G Q3 → rIn X.K neg v u H Q ∨ (∃ i j, v = V.str i ∧ u = V.str j ∧ Q (V.bl (bn neg (inStr i j))) H) ∨ (∃ a o, u = V.ref a ∧ DGet H a v o ∧ Q (V.bl (bn neg o.isSome)) H) ∨
        ∃ d ds, Dp X.K H v d ∧ Dp X.K H u (PyData.list ds) ∧ SeqAt.shaped d = true ∧ SeqAt.shaped (PyData.list ds) = true ∧ Q (V.bl (bn neg (ds.any fun z => PyData.eqv z d))) H := fun {ds} ey h => by
      have lo : lstOf G y = some ds := by unfold lstOf; rw [ey]
      obtain ⟨a, xs, eu, q, r⟩ := lstOf_sq t lo ry
      unfold inLst at h
      split at h
      · rename_i hb
        rw [Bool.and_eq_true] at hb
        exact Or.inl (sq eu (.inl q.sq) r hb.1 hb.2 h)
      · obtain ⟨ox, os, hq⟩ := h
        refine Or.inr (.inr (.inr ⟨toPy x, toPys ds, rep_dp 60 x v ox rx, ?_, ok3_shaped ox, ?_, ?_⟩))
        · rw [eu]
          exact .lst q.sq (repL_dp 59 ds xs os r)
        · have z : ok3 60 (.lst ds) = true := by simpa only [ok3] using os
          have := ok3_shaped z
          simpa only [toPy] using this
        · rw [any_py x ox ds os]
          exact p _ _ hq _ _ t.tr (by simp only [Rep])
    have dic : ∀ {kvs : List (Key × D)} {ws : List (Key × V)} {a : Addr}, u = .ref a → Rd H a (.dK ws) → KRep X.K (jn G F) H kvs ws → inDic neg x kvs G Q3 → ∃ a o, u = .ref a ∧ DGet H a v o ∧ Q (.bl (bn neg o.isSome)) H := fun {kvs ws a} eu e kr h => by
      unfold inDic at h
      split at h
      · rename_i k hk
        obtain ⟨o, g, i⟩ := krep_dget e kr hk rx
        refine ⟨a, o, eu, g, ?_⟩
        rw [i]
        exact p _ _ h _ _ t.tr (by simp only [Rep])
      · exact h.elim
    cases y with
    | tup ds =>
      obtain ⟨a, xs, e, q, r⟩ := ry.tupSq
      exact .inl (sq e (.inr q) r h.1 h.2.1 h.2.2)
    | lst ds => exact lsq rfl h
    | str j =>
      cases x with
      | str i => exact .inr (.inl ⟨i, j, rep_str rx, rep_str ry, p _ _ h _ _ t.tr (by simp only [Rep])⟩)
      | _ => exact h.elim
    | ref a =>
      simp only [rIn3] at h
      split at h
      · rename_i ds e
        exact lsq (by simp only [vw]; rw [e]) h
      · rename_i kvs e
        obtain ⟨ws, q, kr⟩ := at_dic t e
        exact .inr (.inr (.inl (dic (rep_ref ry) (.inl q) kr h)))
      · rename_i kvs e
        obtain ⟨o, ws, q, kr⟩ := at_rdd t e
        exact .inr (.inr (.inl (dic (rep_ref ry) (.inr ⟨o, q⟩) kr h)))
      · exact h.elim
    | _ => exact h.elim
theorem op3_in (hu : X.A.units + 65 < cLine) : Op3 X (compareOp .In) (rIn3 false) := op3_in_gen false _ op_in_seq op_in_str (op_in_dict (by omega)) (op_inD hu)
theorem op3_notin (hu : X.A.units + 65 < cLine) : Op3 X (compareOp .NotIn) (rIn3 true) := op3_in_gen true _ op_notIn_seq op_notin_str (op_notin_dict (by omega)) (op_notInD hu)

theorem op3_sub : Op3 X (binaryOp .Sub) (rAr0 fun i j => i - j) := op3_ar0 op_sub
theorem op3_mul : Op3 X (binaryOp .Mult) (rArI CMulW fun i j => i * j) := op3_arI op_mulW
theorem op3_div : Op3 X (binaryOp .FloorDiv) (rArI CDivW fun i j => i / j) := op3_arI op_fdivW
theorem op3_mod : Op3 X (binaryOp .Mod) (rArI (fun _ j => 0 < j) fun i j => i % j) := op3_arI op_mod
theorem op3_pow : Op3 X (binaryOp .Pow) (rArI CPow fun i j => i ^ j.toNat) := op3_arI op_pow
theorem op3_shl : Op3 X (binaryOp .LShift) (rArI CPow fun i j => i * 2 ^ j.toNat) := op3_arI op_shl
theorem op3_band : Op3 X (binaryOp .BitAnd) (rAr0 fun i j => Builtin.bitAnd i j) := op3_ar0 op_and
theorem op3_bor : Op3 X (binaryOp .BitOr) (rAr0 fun i j => Builtin.bitOr i j) := op3_ar0 op_or
theorem op3_bxor : Op3 X (binaryOp .BitXor) (rAr0 fun i j => Builtin.bitXor i j) := op3_ar0 op_xor
theorem un3_neg : Un3 X (unaryOp .USub) (fun x G Q => match x with
    | .int i => Q (.int (-i)) G
    | _ => False) :=
  UnR.imp un_neg fun v H Q ⟨x, G, F, Q3, t, rx, h, p⟩ => by
    cases x with
    | int i => exact ⟨i, rep_int rx, p _ _ h _ _ t.tr (by simp only [Rep])⟩
    | _ => exact h.elim
theorem ip3_of {op : Operator} {C : Int → Int → Prop} {g : Int → Int → Int} (h : OpR X (inplaceOp op) (rI C fun i j => .int (g i j))) : Ip3 X op (rArI C g) := op3_arI h
theorem ip3_of0 {op : Operator} {g : Int → Int → Int} (h : OpR X (inplaceOp op) (rI0 fun i j => .int (g i j))) : Ip3 X op (rAr0 g) := op3_ar0 h
/-- += of ints and texts -/
def rIAdd3 : R3 := fun x y G Q => match x with
  | .int i => (match y with
    | .int j => Q (.int (i + j)) G
    | _ => False)
  | .str i => (match y with
    | .str j => i.length + j.length ≤ sizeLine ∧ Q (.str (i ++ j)) G
    | _ => False)
  | _ => False
theorem ip3_add : Ip3 X .Add rIAdd3 :=
  OpR.imp (OpR.or iop_add iop_add_str) fun v u H Q ⟨x, y, G, F, Q3, t, rx, ry, h, p⟩ => by
    cases x with
    | int i =>
      cases y with
      | int j => exact .inl ⟨i, j, rep_int rx, rep_int ry, p _ _ h _ _ t.tr (by simp only [Rep])⟩
      | _ => exact h.elim
    | str i =>
      cases y with
      | str j => exact .inr ⟨i, j, rep_str rx, rep_str ry, h.1, p _ _ h.2 _ _ t.tr (by simp only [Rep])⟩
      | _ => exact h.elim
    | _ => exact h.elim
theorem ip3_sub : Ip3 X .Sub (rAr0 fun i j => i - j) := ip3_of0 iop_sub

def put3 (kvs : List (Key × D)) (k : Key) (v : D) : List (Key × D) :=
  if kvs.any fun kv => decide (kv.1 = k) then kvs.map fun kv => if kv.1 = k then (kv.1, v) else kv else kvs ++ [(k, v)]
def rSet3 : D → D → D → Gp → (Gp → Prop) → Prop := fun o i v G Q => match o with
  | .ref a => (match G a with
    | some (.lst ds) => (match i with
      | .int k => (match ixN ds.length k with
        | some j => Q (gup G a (.lst (ds.set j v)))
        | none => False)
      | _ => False)
    | some (.dic kvs) => (match keyD i with
      | some k => kvs.length < sizeLine ∧ Q (gup G a (.dic (put3 kvs k v)))
      | none => False)
    | _ => False)
  | _ => False
theorem krep_length {K : PySem.W.Frag} {G : Gp} {H : Hp} {kvs : List (Key × D)} {ws : List (Key × V)} (r : KRep K G H kvs ws) : kvs.length = ws.length := by
  have := congrArg List.length r.1
  simpa using this.symm
theorem krep_any {K : PySem.W.Frag} {G : Gp} {H : Hp} {kvs : List (Key × D)} {ws : List (Key × V)} (r : KRep K G H kvs ws) (k : Key) : (kvs.any fun kv => decide (kv.1 = k)) = ws.any fun kv => decide (kv.1 = k) := by
  have h1 : (kvs.any fun kv => decide (kv.1 = k)) = (kvs.map (·.1)).any fun x => decide (x = k) := by rw [List.any_map]; rfl
  have h2 : (ws.any fun kv => decide (kv.1 = k)) = (ws.map (·.1)).any fun x => decide (x = k) := by rw [List.any_map]; rfl
  rw [h1, h2, r.1]
theorem krep_map {K : PySem.W.Frag} {G : Gp} {H : Hp} (k : Key) {d : D} {v : V} (rv : Rep K G H d v) : ∀ {kvs : List (Key × D)} {ws : List (Key × V)}, KRep K G H kvs ws → KRep K G H (kvs.map fun kv => if kv.1 = k then (kv.1, d) else kv) (ws.map fun kv => if kv.1 = k then (kv.1, v) else kv)
  | [], ws, ⟨e, r⟩ => by
    have : ws = [] := by simpa using e
    subst this
    exact ⟨rfl, .nil⟩
  | (k', d') :: kvs, ws, ⟨e, r⟩ => by
    cases ws with
    | nil => simp at e
    | cons q ws =>
      obtain ⟨k2, v2⟩ := q
      simp only [List.map_cons, List.cons.injEq, RepL] at e r
      obtain ⟨e1, e2⟩ := e
      obtain ⟨v', r', ⟨e4, e5⟩, r1, r2⟩ := r
      subst e1 e4
      have ih := krep_map k rv (kvs := kvs) (ws := ws) ⟨e2, by rw [e5]; exact r2⟩
      by_cases hk : k2 = k
      · subst hk
        simp only [List.map_cons, if_pos rfl]
        exact ⟨by simp [ih.1], .cons rv ih.2⟩
      · simp only [List.map_cons, if_neg hk]
        exact ⟨by simp [ih.1], .cons r1 ih.2⟩
theorem krep_put {K : PySem.W.Frag} {G : Gp} {H : Hp} {kvs : List (Key × D)} {ws : List (Key × V)} (k : Key) {d : D} {v : V} (r : KRep K G H kvs ws) (rv : Rep K G H d v) : KRep K G H (put3 kvs k d) (putK ws k v) := by
  unfold put3 putK
  rw [krep_any r k]
  split
  · exact krep_map k rv r
  · exact ⟨by simp [r.1], by rw [List.map_append, List.map_append]; exact r.2.append (.cons rv .nil)⟩
theorem set_dict (hu : X.A.units + 1 < cLine) : PSet X (fun o i v H Q => ∃ a H', o = .ref a ∧ DPut H a i v H' ∧ Q H') := by
  intro pins s σ H o i v ov iv u Q I ro ri rv ⟨a, H', eo, g, q⟩
  subst eo
  obtain rfl : ov = Value.ref a := ro
  exact d_setItem hu I g ri rv fun s4 I4 => ⟨H', I4, q⟩
theorem PSet.or {t t' : TSet} (h : PSet X t) (h' : PSet X t') : PSet X (fun o i v H Q => t o i v H Q ∨ t' o i v H Q) := fun pins s σ H o i v ov iv u Q I ro ri rv q => q.elim (h pins s σ H o i v ov iv u Q I ro ri rv) (h' pins s σ H o i v ov iv u Q I ro ri rv)
theorem PSet.imp {t t' : TSet} (h : PSet X t) (i : ∀ o i v H Q, t' o i v H Q → t o i v H Q) : PSet X t' := fun pins s σ H o j v ov iv u Q I ro ri rv q => h pins s σ H o j v ov iv u Q I ro ri rv (i _ _ _ _ _ q)
theorem set3 (hu : X.A.units + 1 < cLine) : Set3 X rSet3 :=
  PSet.imp (PSet.or set_list (set_dict hu)) fun o i v H Q ⟨x, y, z, G, F, Q3, t, rx, ry, rz, h, p⟩ => by
    cases x with
    | ref a =>
      simp only [rSet3] at h
      split at h
      · rename_i ds e
        obtain ⟨xs, q, r⟩ := at_list t e
        cases y with
        | int k =>
          simp only at h
          split at h
          · rename_i j hj
            refine .inl ⟨a, xs, k, j, rep_ref rx, rep_int ry, q, by rw [← r.length]; exact hj, ?_⟩
            have ff : Fr (jn G F) H (gup (jn G F) a (.lst (ds.set j z))) (upd H a (.lst (xs.set j v))) := Fr.set (jn_some e)
            exact p _ h _ (.set t.dj t.g e ⟨_, upd_same, (r.fr ff).set j (rz.fr ff)⟩)
          · exact h.elim
        | _ => exact h.elim
      · rename_i kvs e
        split at h
        · rename_i k hk
          obtain ⟨ws, q, kr⟩ := at_dic t e
          have eu := rep_key hk ry
          refine .inr ⟨a, _, rep_ref rx, .inl ⟨ws, k, q, eu, by rw [← krep_length kr]; exact h.1, rfl⟩, ?_⟩
          have ff : Fr (jn G F) H (gup (jn G F) a (.dic (put3 kvs k z))) (upd H a (.dK (putK ws k v))) := Fr.set (jn_some e)
          exact p _ h.2 _ (.set t.dj t.g e ⟨_, upd_same, krep_put k (kr.fr ff) (rz.fr ff)⟩)
        · exact h.elim
      · exact h.elim
    | _ => exact h.elim
/-- o[i], for o[i] op= e -/
def rGet3 : R3 := fun x y G Q => match x with
  | .ref a => (match G a with
    | some (.lst ds) => (match y with
      | .int i => seqAt ds i G Q
      | _ => False)
    | some (.dic kvs) => dicAt kvs y G Q
    | _ => False)
  | _ => False
theorem get_list : PGet X (fun x y H Q => ∃ p xs i v, x = .ref p ∧ y = .int i ∧ SqL X.K H p xs ∧ atI xs i = some v ∧ Q v H) := by
  intro pins s σ H o i ov iv Q I ro ri ⟨p, xs, k, v, e1, e2, hq, hv, q⟩
  subst e1 e2
  obtain rfl : ov = Value.ref p := ro
  obtain ⟨t, rfl⟩ := ri
  obtain ⟨j, h1, h2, h3, h4, h5⟩ := atI_get hv
  obtain ⟨its, r, pl, hz⟩ := I.list hq
  obtain ⟨w, ew, rw'⟩ := r.get h2
  have hl := r.length
  have hn := line63
  have fin : EP X pins σ Q w s := ⟨v, H, I, rw', q⟩
  by_cases h0 : 0 ≤ k
  · have hj : k.toNat = j := by
      rw [seqIndex_of h0 h5] at h1
      exact Option.some.inj h1
    exact wpAny_getItem_list pl.isList h0 (by omega) (by rw [hj]; simpa using ew) fin
  · have hj : (k + (its.toArray.size : Int)).toNat = j := by
      rw [seqIndex_neg (by omega) h4] at h1
      rw [List.size_toArray, ← hl]
      exact Option.some.inj h1
    exact wpAny_getItem_list_neg pl.isList (by omega) (by rw [List.size_toArray] <;> omega) (by omega) (by rw [hj]; simpa using ew) fin
theorem PGet.or {r r' : V → V → Hp → VK → Prop} (h : PGet X r) (h' : PGet X r') : PGet X (fun x y H Q => r x y H Q ∨ r' x y H Q) := fun pins s σ H o i ov iv Q I ro ri q => q.elim (h pins s σ H o i ov iv Q I ro ri) (h' pins s σ H o i ov iv Q I ro ri)
theorem PGet.imp {r r' : V → V → Hp → VK → Prop} (h : PGet X r) (i : ∀ x y H Q, r' x y H Q → r x y H Q) : PGet X r' := fun pins s σ H o j ov iv Q I ro ri q => h pins s σ H o j ov iv Q I ro ri (i _ _ _ _ q)
theorem get_dict (hu : X.A.units + 1 < cLine) : PGet X (fun x y H Q => ∃ a v, x = .ref a ∧ DGet H a y (some v) ∧ Q v H) := by
  intro pins s σ H o i ov iv Q I ro ri ⟨a, v, e1, g, q⟩
  subst e1
  obtain rfl : ov = Value.ref a := ro
  exact d_getItem hu I g ri fun w' s3 I3 rw' => ⟨v, H, I3, rw', q⟩
theorem get3 (hu : X.A.units + 1 < cLine) : Get3 X rGet3 :=
  PGet.imp (PGet.or get_list (get_dict hu)) fun v u H Q ⟨x, y, G, F, Q3, t, rx, ry, h, p⟩ => by
    cases x with
    | ref a =>
      simp only [rGet3] at h
      split at h
      · rename_i ds e
        cases y with
        | int i =>
          simp only [seqAt] at h
          split at h
          · rename_i d hd
            obtain ⟨xs, q, r⟩ := at_list t e
            obtain ⟨w, h1, h2⟩ := repL_atI r hd
            exact .inl ⟨a, xs, i, w, rep_ref rx, rep_int ry, SqL.of q, h1, p _ _ h _ _ t.tr h2⟩
          · exact h.elim
        | _ => exact h.elim
      · rename_i kvs e
        obtain ⟨ws, q, kr⟩ := at_dic t e
        simp only [dicAt] at h
        split at h
        · rename_i k hk
          split at h
          · rename_i d hd
            have eu := rep_key hk ry
            rcases krep_val k kr with ⟨q1, _⟩ | ⟨d', v', q1, q2, q3⟩
            · rw [q1] at hd; cases hd
            · rw [q1] at hd
              cases hd
              exact .inr ⟨a, v', rep_ref rx, .inl ⟨ws, k, .inl q, eu, q2.symm⟩, p _ _ h _ _ t.tr q3⟩
          · exact h.elim
        · exact h.elim
      · exact h.elim
    | _ => exact h.elim
end
end L3
namespace L3
open PySem PySem.Spec PyProof.Rows L2

def IterR (X : Cx) (tg : Expr) (r : V → Hp → (It → Hp → Prop) → Prop) : Prop :=
  ∀ (pins : List (Addr × Obj)) (s : Shared) (σ : St) (H : Hp) (x : V) (v : Value) (R : It → Hp → Prop), Inv X pins σ H s → RelV x v → r x H R →
    wpAny (model X.prog X.w) X.A (pyIter v) (PIE X pins σ tg R) X.xe s
theorem IterR.or {X : Cx} {tg : Expr} {r r' : V → Hp → (It → Hp → Prop) → Prop} (h : IterR X tg r) (h' : IterR X tg r') : IterR X tg (fun x H R => r x H R ∨ r' x H R) := fun pins s σ H x v R I rx q => q.elim (h pins s σ H x v R I rx) (h' pins s σ H x v R I rx)
theorem pi_it {X : Cx} {tg e : Expr} {te : TE} {r : V → Hp → (It → Hp → Prop) → Prop} (hr : IterR X tg r) (he : PE X e te) : PI X tg e (fun σ H R => te σ H fun x H1 => r x H1 R) :=
  ⟨fun pins s σ H R I h => thn (he.run pins s σ H _ I h) fun v s1 ⟨x, H1, I1, r1, q1⟩ => hr pins s1 σ H1 x v R I1 r1 q1⟩
theorem PI.imp {X : Cx} {tg e : Expr} {wi wi' : TI} (h : PI X tg e wi) (i : ∀ σ H R, wi' σ H R → wi σ H R) : PI X tg e wi' := ⟨fun pins s σ H R I q => h.run pins s σ H R I (i σ H R q)⟩
section
variable {X : Cx} {tg : Expr}
theorem it_list : IterR X tg (fun x H R => ∃ a xs, x = .ref a ∧ SqL X.K H a xs ∧ (xs.length ≤ sizeLine → R (Itl X.K a) H)) := by
  intro pins s σ H x v R I rx ⟨a, xs, e, hq, q⟩
  subst e
  cases rx
  obtain ⟨its, rv, p, hz⟩ := I.list hq
  refine wpAny_pyIter_list p.isList ?_
  refine ⟨s.heap.objs.size, [s.heap.objs.size], _, _, H, rfl, I.kept (t' := s.toks) fun b o e => Heap.get?_push_of_some _ e, turn_list a _, ⟨_, Heap.get?_push_size _ rfl, rfl, rfl⟩, fun b hb => ?_, q hz⟩
  have e : b = s.heap.objs.size := by simpa using hb
  subst e
  exact I.fpOk (Nat.le_refl _) (I.hok.fresh (Nat.le_refl _))
theorem it_tup : IterR X tg (fun x H R => ∃ a xs, x = .ref a ∧ SqT X.K H a xs ∧ (xs.length ≤ sizeLine → R (Itt X.K a) H)) := by
  intro pins s σ H x v R I rx ⟨a, xs, e, hq, q⟩
  subst e
  cases rx
  obtain ⟨its, rv, p, hz⟩ := I.tuple hq
  refine wpAny_pyIter_tuple (show s.heap.IsTuple a its.toArray from p) ?_
  refine ⟨s.heap.objs.size, [s.heap.objs.size], _, _, H, rfl, I.kept (t' := s.toks) fun b o e => Heap.get?_push_of_some _ e, turn_tuple a _, ⟨_, Heap.get?_push_size _ rfl, rfl, rfl⟩, fun b hb => ?_, q hz⟩
  have e : b = s.heap.objs.size := by simpa using hb
  subst e
  exact I.fpOk (Nat.le_refl _) (I.hok.fresh (Nat.le_refl _))
theorem it_str : IterR X tg (fun v H R => ∃ x, v = .str x ∧ R (Its x) H) := by
  intro pins s σ H x v R I rx ⟨z, e, q⟩
  subst e
  obtain ⟨t, rfl⟩ := rx
  cases ha : z.cps.all (· < 128)
  · exact wpAny_pyIter_wide ha (pi_one (tk := s.toks) I _ (turn_str _ z t "str_iterator" (.inr rfl)) ⟨_, Heap.get?_push_size _ rfl, rfl, rfl⟩ q)
  · exact wpAny_pyIter_ascii ha (pi_one (tk := s.toks) I _ (turn_str _ z t "str_ascii_iterator" (.inl rfl)) ⟨_, Heap.get?_push_size _ rfl, rfl, rfl⟩ q)
end
/-- enumerate, the list's length told -/
theorem pi_enumA {X : Cx} {e : Expr} {ta : TA} {p pos tpos : Pos} {elts : List Expr} {kk : Nat} (hg : Gl X "enumerate") (hm : X.mg "enumerate" = none) (ha : PA X [e] ta) (hs : starEach [e] X.env = [(false, eval e X.env)]) :
    PI X (.Tuple elts kk tpos) (.Call (.Name "enumerate" p) [e] [] pos) (fun σ H R => ta σ H fun vs H1 => ∃ a xs, vs = [.ref a] ∧ SqL X.K H1 a xs ∧ (xs.length ≤ sizeLine → R (Ite X.K a) H1)) := by
  refine ⟨fun pins s σ H R I h => ?_⟩
  refine Call_ (ld_blt I hg hm boot_enumerate (PyProof.Rows.callWith_type1 (thn (ha.run pos pins s σ H _ I h) fun us s1 ⟨vs, H1, I1, r1, q1⟩ => ?_) hs rfl))
  obtain ⟨a, xs, ex, hq, q⟩ := q1
  subst ex
  cases r1 with
  | cons r rr =>
    cases rr
    cases r
    obtain ⟨its, rv, p', hz⟩ := I1.list hq
    refine call_enumerate_list p'.isList fun h' he hit hsz hk => wpAny_pyIter_enum he ?_
    have I2 : Inv X pins σ H1 { s1 with heap := h' } := I1.kept (t' := s1.toks) hk
    refine ⟨s1.heap.objs.size + 1, [s1.heap.objs.size + 1, s1.heap.objs.size], _, _, H1, rfl, I2, turn_enum a (s1.heap.objs.size + 1) s1.heap.objs.size, ⟨⟨.none, he⟩, hit, Nat.succ_ne_self _⟩, fun b hb => ?_, q hz⟩
    have e' : b = s1.heap.objs.size + 1 ∨ b = s1.heap.objs.size := by simpa using hb
    have hle : s1.heap.objs.size ≤ b := by
      rcases e' with z | z
      · rw [z]; exact Nat.le_add_right _ _
      · rw [z]; exact Nat.le_refl _
    exact I1.fpOk hle (I1.hok.fresh hle)
/-- zip of two lists, of two tuples -/
theorem pi_zipL {X : Cx} {e e2 : Expr} {ta : TA} {p pos tpos : Pos} {elts : List Expr} {kk : Nat} (hg : Gl X "zip") (hm : X.mg "zip" = none) (ha : PA X [e, e2] ta)
    (hs : starEach [e, e2] X.env = (false, eval e X.env) :: starEach [e2] X.env) (hpl : (backTo pos (starEach [e2] X.env)).any (·.1) = false) :
    PI X (.Tuple elts kk tpos) (.Call (.Name "zip" p) [e, e2] [] pos) (fun σ H R => ta σ H fun vs H1 => ∃ a b xs ys, vs = [.ref a, .ref b] ∧ ((SqL X.K H1 a xs ∧ SqL X.K H1 b ys ∧ (xs.length ≤ sizeLine → R (Itz X.K a b) H1)) ∨ (SqT X.K H1 a xs ∧ SqT X.K H1 b ys ∧ (xs.length ≤ sizeLine → R (RZ.ItzT X.K a b) H1)))) := by
  refine ⟨fun pins s σ H R I h => ?_⟩
  refine Call_ (ld_blt I hg hm PyProof.Rows.boot_zip (PyProof.Rows.callWith_type1 (thn (ha.run pos pins s σ H _ I h) fun us s1 ⟨vs, H1, I1, r1, q1⟩ => ?_) hs hpl))
  obtain ⟨a, b, xs, ys, ex, q1⟩ := q1
  subst ex
  cases r1 with
  | cons r rr =>
    cases rr with
    | cons r' rr =>
      cases rr
      cases r
      cases r'
      have fresh5 : ∀ c, c ∈ [s1.heap.objs.size + 4, s1.heap.objs.size + 2, s1.heap.objs.size + 3, s1.heap.objs.size, s1.heap.objs.size + 1] → FpOk X pins H1 c := fun c hcm => by
        have e' : c = s1.heap.objs.size + 4 ∨ c = s1.heap.objs.size + 2 ∨ c = s1.heap.objs.size + 3 ∨ c = s1.heap.objs.size ∨ c = s1.heap.objs.size + 1 := by simpa using hcm
        have hle : s1.heap.objs.size ≤ c := by
          rcases e' with z | z | z | z | z
          · rw [z]; exact Nat.le_add_right _ _
          · rw [z]; exact Nat.le_add_right _ _
          · rw [z]; exact Nat.le_add_right _ _
          · rw [z]; exact Nat.le_refl _
          · rw [z]; exact Nat.le_add_right _ _
        exact I1.fpOk hle (I1.hok.fresh hle)
      rcases q1 with ⟨hqx, hqy, q⟩ | ⟨hqx, hqy, q⟩
      · obtain ⟨its, rv, p1, hz1⟩ := I1.list hqx
        obtain ⟨its2, rv2, p2, _⟩ := I1.list hqy
        refine call_zip_2 p1.isList p2.isList fun h' hz hTI hTO h1 h2 hsz hk => wpAny_pyIter_zip hz ?_
        have I2 : Inv X pins σ H1 { s1 with heap := h' } := I1.kept (t' := s1.toks) hk
        exact ⟨s1.heap.objs.size + 4, [s1.heap.objs.size + 4, s1.heap.objs.size + 2, s1.heap.objs.size + 3, s1.heap.objs.size, s1.heap.objs.size + 1], _, _, H1, rfl, I2, turn_zip (PySem.W.ktu_apart s1.heap.objs.size a b p1.lt p2.lt), ⟨hz, hTI, ⟨_, _, hTO⟩, h1, h2⟩, fresh5, q hz1⟩
      · obtain ⟨its, rv, p1, hz1⟩ := I1.tuple hqx
        obtain ⟨its2, rv2, p2, _⟩ := I1.tuple hqy
        obtain ⟨o1, ho1, _⟩ := id p1
        obtain ⟨o2, ho2, _⟩ := id p2
        refine RZ.call_zipT (show s1.heap.IsTuple a its.toArray from p1) (show s1.heap.IsTuple b its2.toArray from p2) fun h' hz hTI hTO h1 h2 hsz hk => wpAny_pyIter_zip hz ?_
        have I2 : Inv X pins σ H1 { s1 with heap := h' } := I1.kept (t' := s1.toks) hk
        exact ⟨s1.heap.objs.size + 4, [s1.heap.objs.size + 4, s1.heap.objs.size + 2, s1.heap.objs.size + 3, s1.heap.objs.size, s1.heap.objs.size + 1], _, _, H1, rfl, I2, RZ.turn_zipT (PySem.W.ktu_apart s1.heap.objs.size a b (Heap.lt_size ho1) (Heap.lt_size ho2)), ⟨hz, hTI, ⟨_, _, hTO⟩, h1, h2⟩, fresh5, q hz1⟩
def signs (z : Str) : List D := z.cps.toList.map fun c => .str ⟨#[c]⟩
abbrev RI3 := List D → (Gp → Prop) → Gp → Prop
def yes3 : Gp → Prop := fun _ => True
/-- walking a value -/
def walk3 (x : D) (G : Gp) (R : RI3) : Prop := match x with
  | .tup ds => R ds yes3 G
  | .lst ds => R ds yes3 G
  | .str z => z.length ≤ sizeLine ∧ R (signs z) yes3 G
  | .ref a => (match G a with
    | some (.lst ds) => R ds (fun G' => G' a = some (.lst ds)) G
    | _ => False)
  | _ => False
def tI3 (te : TE3) : TI3 := fun σ G E R => te σ G E fun x G1 => walk3 x G1 R
section
variable {X : Cx} {tge : Expr} {tg : Tgt}
theorem itok_tup {K : PySem.W.Frag} {tg : Tgt} {ds : List D} {a : Addr} : ItOk K tg (Itt K a) ds yes3 (fun T H => ∃ xs, SqT K H a xs ∧ Rep K T H (.tup ds) (.ref a) ∧ RepL K T H ds xs) where
  go := fun T H i ⟨xs, q, r, t⟩ g hi => by
    obtain ⟨v, e, _⟩ := t.get (List.getElem?_eq_getElem hi)
    exact ⟨xs, v, q, e⟩
  stop := fun T H ⟨xs, q, r, t⟩ g => ⟨xs, q, by rw [t.length]; exact Nat.le_refl _⟩
  yld := fun T H i d x H' ⟨xs, q, r, t⟩ g hd y => by
    obtain ⟨e, y⟩ := y
    subst e
    obtain ⟨v, e, rv⟩ := t.get hd
    have := y xs q
    rw [e] at this
    cases this
    exact ⟨g, Fr.refl, fun _ _ _ => rfl, .inl rv⟩
  stab := fun T H T' H' ⟨xs, q, r, t⟩ f g _ => by
    have r' := r.fr f
    obtain ⟨b, ys, e, q', t'⟩ := r'.tupSq
    cases e
    exact ⟨ys, q', r', t'⟩
  mono := fun _ _ _ _ => trivial
theorem itok_lst {K : PySem.W.Frag} {tg : Tgt} {ds : List D} {a : Addr} : ItOk K tg (Itl K a) ds yes3 (fun T H => ∃ xs, SqL K H a xs ∧ Rep K T H (.lst ds) (.ref a) ∧ RepL K T H ds xs) where
  go := fun T H i ⟨xs, q, r, t⟩ g hi => by
    obtain ⟨v, e, _⟩ := t.get (List.getElem?_eq_getElem hi)
    exact ⟨xs, v, q, e⟩
  stop := fun T H ⟨xs, q, r, t⟩ g => ⟨xs, q, by rw [t.length]; exact Nat.le_refl _⟩
  yld := fun T H i d x H' ⟨xs, q, r, t⟩ g hd y => by
    obtain ⟨e, y⟩ := y
    subst e
    obtain ⟨v, e, rv⟩ := t.get hd
    have := y xs q
    rw [e] at this
    cases this
    exact ⟨g, Fr.refl, fun _ _ _ => rfl, .inl rv⟩
  stab := fun T H T' H' ⟨xs, q, r, t⟩ f g _ => by
    have r' := r.fr f
    obtain ⟨b, ys, e, q', t'⟩ := r'.lstSq
    cases e
    exact ⟨ys, q', r', t'⟩
  mono := fun _ _ _ _ => trivial
theorem itok_ref {K : PySem.W.Frag} {tg : Tgt} {ds : List D} {a : Addr} : ItOk K tg (Itl K a) ds (fun G => G a = some (.lst ds)) (fun T H => T a = some (.lst ds)) where
  go := fun T H i o g hi => by
    obtain ⟨xs, q, t⟩ := g a _ o
    obtain ⟨v, e, _⟩ := t.get (List.getElem?_eq_getElem hi)
    exact ⟨xs, v, SqL.of q, e⟩
  stop := fun T H o g => by
    obtain ⟨xs, q, t⟩ := g a _ o
    exact ⟨xs, SqL.of q, by rw [t.length]; exact Nat.le_refl _⟩
  yld := fun T H i d x H' o g hd y => by
    obtain ⟨e, y⟩ := y
    subst e
    obtain ⟨xs, q, t⟩ := g a _ o
    obtain ⟨v, e, rv⟩ := t.get hd
    have := y xs (SqL.of q)
    rw [e] at this
    cases this
    exact ⟨g, Fr.refl, fun _ _ _ => rfl, .inl rv⟩
  stab := fun T H T' H' _ _ _ o => o
  mono := fun G T s o => s a _ o
theorem signs_length (z : Str) : (signs z).length = z.length := by unfold signs; simp [Str.length]
theorem itok_str {K : PySem.W.Frag} {tg : Tgt} {z : Str} : ItOk K tg (Its z) (signs z) yes3 (fun _ _ => True) where
  go := fun T H i o g hi => by
    rw [signs_length] at hi
    exact hi
  stop := fun T H o g => by
    rw [signs_length]
    exact Nat.le_refl _
  yld := fun T H i d x H' o g hd y => by
    obtain ⟨e, c, hc, ex⟩ := y
    subst e ex
    have e : (signs z)[i]? = some (.str ⟨#[c]⟩) := by
      unfold signs
      rw [List.getElem?_map, Array.getElem?_toList, hc]
      rfl
    rw [hd] at e
    cases e
    exact ⟨g, Fr.refl, fun _ _ _ => rfl, .inl (by simp only [Rep])⟩
  stab := fun T H T' H' _ _ _ o => trivial
  mono := fun _ _ _ _ => trivial
theorem pi3_val {e : Expr} {te : TE3} (he : PE3 X e te) : PI3 X tge e tg (tI3 te) := fun W tk =>
  PI.imp (pi_it (IterR.or it_list (IterR.or it_tup it_str)) (he W tk)) fun σ H R ⟨σ3, G, F, E3, R3, r, h, px, p⟩ => ⟨σ3, G, F, E3, _, r, h, px, fun x G1 hx v H1 f1 rv => by
    cases x with
    | tup ds =>
      obtain ⟨a, xs, e, q, t⟩ := rv.tupSq
      refine .inr (.inl ⟨a, xs, e, q, fun hz => p _ _ _ hx _ _ _ itok_tup ⟨xs, q, ?_, t⟩ (by rw [t.length]; exact hz) f1⟩)
      rw [e] at rv
      exact rv
    | lst ds =>
      obtain ⟨a, xs, e, q, t⟩ := rv.lstSq
      refine .inl ⟨a, xs, e, q, fun hz => p _ _ _ hx _ _ _ itok_lst ⟨xs, q, ?_, t⟩ (by rw [t.length]; exact hz) f1⟩
      rw [e] at rv
      exact rv
    | str z => exact .inr (.inr ⟨z, rep_str rv, p _ _ _ hx.2 _ _ _ itok_str trivial (by rw [signs_length]; exact hx.1) f1⟩)
    | ref a =>
      simp only [walk3] at hx
      split at hx
      · rename_i ds e
        obtain ⟨xs, q, t⟩ := at_list f1.at e
        exact .inl ⟨a, xs, rep_ref rv, SqL.of q, fun hz => p _ _ _ hx _ _ _ itok_ref (jn_some e) (by rw [t.length]; exact hz) f1⟩
      · exact hx.elim
    | _ => exact hx.elim⟩

def rng (lo : Int) (n : Nat) : List D := (List.range n).map fun i => .int (lo + (i : Nat))
theorem rng_length (lo : Int) (n : Nat) : (rng lo n).length = n := by unfold rng; simp
theorem itok_rng {K : PySem.W.Frag} {tg : Tgt} {lo : Int} {n : Nat} : ItOk K tg (Itr lo n) (rng lo n) yes3 (fun _ _ => True) where
  go := fun T H i o g hi => by rw [rng_length] at hi; exact hi
  stop := fun T H o g => by rw [rng_length]; exact Nat.le_refl _
  yld := fun T H i d x H' o g hd y => by
    obtain ⟨e, ex⟩ := y
    subst e ex
    have hi : i < n := by
      have := (List.getElem?_eq_some_iff.mp hd).1
      rwa [rng_length] at this
    have e : (rng lo n)[i]? = some (.int (lo + (i : Nat))) := by
      unfold rng
      rw [List.getElem?_map, List.getElem?_range hi]
      rfl
    rw [hd] at e
    cases e
    exact ⟨g, Fr.refl, fun _ _ _ => rfl, .inl (by simp only [Rep])⟩
  stab := fun T H T' H' _ _ _ o => trivial
  mono := fun _ _ _ _ => trivial
def range1 (ds : List D) (G : Gp) (R : RI3) : Prop := match ds with
  | [.int j] => -(2 ^ 62) ≤ j ∧ j ≤ sizeLine ∧ R (rng 0 j.toNat) yes3 G
  | _ => False
def range2 (ds : List D) (G : Gp) (R : RI3) : Prop := match ds with
  | [.int i, .int j] => -(2 ^ 62) ≤ i ∧ i < 2 ^ 62 ∧ -(2 ^ 62) ≤ j ∧ j < 2 ^ 62 ∧ j - i ≤ sizeLine ∧ R (rng i (j - i).toNat) yes3 G
  | _ => False
def tRg1 (ta : TA3) : TI3 := fun σ G E R => ta σ G E fun ds G1 => range1 ds G1 R
def tRg2 (ta : TA3) : TI3 := fun σ G E R => ta σ G E fun ds G1 => range2 ds G1 R
theorem repL_cons {K : PySem.W.Frag} {G : Gp} {H : Hp} {d : D} {ds : List D} {vs : List V} (h : RepL K G H (d :: ds) vs) : ∃ v r, vs = v :: r ∧ Rep K G H d v ∧ RepL K G H ds r := by simpa only [RepL] using h
theorem repL_nil {K : PySem.W.Frag} {G : Gp} {H : Hp} {vs : List V} (h : RepL K G H [] vs) : vs = [] := by simpa only [RepL] using h
theorem repL_one {K : PySem.W.Frag} {G : Gp} {H : Hp} {d : D} {vs : List V} (h : RepL K G H [d] vs) : ∃ v, vs = [v] ∧ Rep K G H d v := by
  obtain ⟨v, r, e, h1, h2⟩ := repL_cons h
  rw [repL_nil h2] at e
  exact ⟨v, e, h1⟩
theorem repL_two {K : PySem.W.Frag} {G : Gp} {H : Hp} {d d' : D} {vs : List V} (h : RepL K G H [d, d'] vs) : ∃ v u, vs = [v, u] ∧ Rep K G H d v ∧ Rep K G H d' u := by
  obtain ⟨v, r, e, h1, h2⟩ := repL_cons h
  obtain ⟨u, e2, h3⟩ := repL_one h2
  rw [e2] at e
  exact ⟨v, u, e, h1, h3⟩
theorem pi3_range1 {a : Expr} {ta : TA3} {p pos : Pos} (hg : Gl X "range") (hm : X.mg "range" = none) (ha : PA3 X [a] ta) (hs : starEach [a] X.env = [(false, eval a X.env)]) : PI3 X tge (.Call (.Name "range" p) [a] [] pos) tg (tRg1 ta) := fun W tk =>
  PI.imp (pi_range1 hg hm (ha W tk) hs) fun σ H R ⟨σ3, G, F, E3, R3, r, h, px, p⟩ => ⟨σ3, G, F, E3, _, r, h, px, fun ds G1 hx vs H1 f1 rv => by
    simp only [range1] at hx
    split at hx
    · rename_i j
      obtain ⟨v, e, r1⟩ := repL_one rv
      rw [rep_int r1] at e
      have z : (sizeLine : Int) < 2 ^ 62 := by decide
      exact ⟨j, e, hx.1, by omega, p _ _ _ hx.2.2 _ _ _ itok_rng trivial (by rw [rng_length]; omega) f1⟩
    · exact hx.elim⟩
theorem pi3_range2 {a b : Expr} {ta : TA3} {p pos : Pos} (hg : Gl X "range") (hm : X.mg "range" = none) (ha : PA3 X [a, b] ta) (hs : starEach [a, b] X.env = [(false, eval a X.env), (false, eval b X.env)]) (hs2 : starEach [b] X.env = [(false, eval b X.env)]) : PI3 X tge (.Call (.Name "range" p) [a, b] [] pos) tg (tRg2 ta) := fun W tk =>
  PI.imp (pi_range2 hg hm (ha W tk) hs hs2) fun σ H R ⟨σ3, G, F, E3, R3, r, h, px, p⟩ => ⟨σ3, G, F, E3, _, r, h, px, fun ds G1 hx vs H1 f1 rv => by
    simp only [range2] at hx
    split at hx
    · rename_i i j
      obtain ⟨v, u, e, r1, r2⟩ := repL_two rv
      rw [rep_int r1, rep_int r2] at e
      obtain ⟨q1, q2, q3, q4, q5, hx⟩ := hx
      exact ⟨i, j, e, ⟨q1, q2, q3, q4⟩, p _ _ _ hx _ _ _ itok_rng trivial (by rw [rng_length]; omega) f1⟩
    · exact hx.elim⟩

def enumD : Nat → List D → List D
  | _, [] => []
  | i, d :: ds => .tup [.int (i : Nat), d] :: enumD (i + 1) ds
theorem enumD_length : ∀ (i : Nat) (ds : List D), (enumD i ds).length = ds.length
  | _, [] => rfl
  | i, d :: ds => by simp [enumD, enumD_length (i + 1) ds]
theorem enumD_get : ∀ (k i : Nat) (ds : List D), (enumD k ds)[i]? = ds[i]?.map fun d => .tup [.int ((k + i : Nat) : Int), d]
  | _, _, [] => by simp [enumD]
  | k, 0, d :: ds => by simp [enumD]
  | k, i + 1, d :: ds => by
    have e : k + (i + 1) = k + 1 + i := by omega
    simp only [enumD, List.getElem?_cons_succ]
    rw [enumD_get (k + 1) i ds, e]
def zipD : List D → List D → List D
  | x :: xs, y :: ys => .tup [x, y] :: zipD xs ys
  | _, _ => []
theorem zipD_eq : ∀ (xs ys : List D), zipD xs ys = List.zipWith (fun x y => D.tup [x, y]) xs ys
  | [], _ => by simp [zipD]
  | _ :: _, [] => by simp [zipD]
  | x :: xs, y :: ys => by simp [zipD, zipD_eq xs ys]
/-- a list that is looked at: a value's own, or a tracked one's -/
def LsAt (K : PySem.W.Frag) (T : Gp) (H : Hp) (a : Addr) (ds : List D) : Prop := ∃ xs, SqL K H a xs ∧ RepL K T H ds xs ∧ (T a = some (.lst ds) ∨ Rep K T H (.lst ds) (.ref a))
theorem LsAt.stab {K : PySem.W.Frag} {T T' : Gp} {H H' : Hp} {a : Addr} {ds : List D} (l : LsAt K T H a ds) (f : Fr T H T' H') (g : GRel K T' H') (gd : T a = some (.lst ds) → T' a = some (.lst ds)) : LsAt K T' H' a ds := by
  obtain ⟨xs, q, t, c⟩ := l
  rcases c with c | c
  · obtain ⟨ys, q', t'⟩ := g a _ (gd c)
    exact ⟨ys, SqL.of q', t', .inl (gd c)⟩
  · have r' := c.fr f
    obtain ⟨b, ys, e, q', t'⟩ := r'.lstSq
    cases e
    exact ⟨ys, q', t', .inr r'⟩
/-- the guard of a list that is looked at -/
def gdOf (G : Gp) (x : D) : Gp → Prop := match x with
  | .ref a => fun G' => G' a = G a
  | _ => yes3
theorem lsAt_of {K : PySem.W.Frag} {F G : Gp} {H : Hp} {x : D} {v : V} {ds : List D} (t : At K F G H) (h : lstOf G x = some ds) (r : Rep K (jn G F) H x v) : ∃ a, v = .ref a ∧ LsAt K (jn G F) H a ds ∧ ((∃ es, x = .lst es) ∧ Rep K (jn G F) H (.lst ds) (.ref a) ∨ x = .ref a ∧ G a = some (.lst ds)) := by
  cases x with
  | lst es =>
    cases h
    obtain ⟨a, xs, e, q, t'⟩ := r.lstSq
    subst e
    exact ⟨a, rfl, ⟨xs, q, t', .inr r⟩, .inl ⟨⟨_, rfl⟩, r⟩⟩
  | ref a =>
    have ev := rep_ref r
    subst ev
    unfold lstOf at h
    simp only [vw] at h
    cases q : G a with
    | none => rw [q] at h; cases h
    | some o =>
      rw [q] at h
      cases o with
      | lst es =>
        cases h
        obtain ⟨xs, e, t'⟩ := at_list t q
        exact ⟨a, rfl, ⟨xs, SqL.of e, t', .inl (jn_some q)⟩, .inr ⟨rfl, q⟩⟩
      | _ => cases h
  | _ => cases h
theorem fr_tup2 {G : Gp} {H : Hp} {T : Addr} {xs : List V} (h : H T = none) : Fr G H G (upd H T (.tup xs)) := Fr.newH h
def lsGuard (G : Gp) (x : D) (ds : List D) : Gp → Prop := match x with
  | .ref a => fun G' => G' a = some (.lst ds)
  | _ => yes3
/-- what a loop over lists keeps -/
def LsOk (K : PySem.W.Frag) (x : D) (a : Addr) (ds : List D) (T : Gp) (H : Hp) : Prop := LsAt K T H a ds ∧ (x = .ref a ∧ T a = some (.lst ds) ∨ (∃ es, x = .lst es) ∧ Rep K T H (.lst ds) (.ref a))
theorem LsOk.stab {K : PySem.W.Frag} {x : D} {T T' : Gp} {H H' : Hp} {a : Addr} {ds : List D} {G : Gp} (l : LsOk K x a ds T H) (f : Fr T H T' H') (g : GRel K T' H') (gd : lsGuard G x ds T') : LsOk K x a ds T' H' := by
  obtain ⟨l1, c⟩ := l
  rcases c with ⟨e, c⟩ | ⟨⟨es, e⟩, c⟩
  · subst e
    have c' : T' a = some (.lst ds) := gd
    obtain ⟨ys, q', t'⟩ := g a _ c'
    exact ⟨⟨ys, SqL.of q', t', .inl c'⟩, .inl ⟨rfl, c'⟩⟩
  · have r' := c.fr f
    obtain ⟨b, ys, e', q', t'⟩ := r'.lstSq
    cases e'
    exact ⟨⟨ys, q', t', .inr r'⟩, .inr ⟨⟨es, e⟩, r'⟩⟩
theorem lsGuard.mono {G G' T : Gp} {x : D} {ds : List D} (s : Sub G' T) (h : lsGuard G x ds G') : lsGuard G x ds T := by
  cases x with
  | ref a => exact s a _ h
  | _ => trivial
theorem itok_enum {K : PySem.W.Frag} {G : Gp} {is : List Nat} {x : D} {ds : List D} {a : Addr} : ItOk K (.tp is) (Ite K a) (enumD 0 ds) (lsGuard G x ds) (LsOk K x a ds) where
  go := fun T H i ⟨⟨xs, q, t, _⟩, _⟩ g hi => by
    rw [enumD_length] at hi
    obtain ⟨v, e, _⟩ := t.get (List.getElem?_eq_getElem hi)
    exact ⟨xs, v, q, e⟩
  stop := fun T H ⟨⟨xs, q, t, _⟩, _⟩ g => ⟨xs, q, by rw [enumD_length, t.length]; exact Nat.le_refl _⟩
  yld := fun T H i d y H' ⟨⟨xs, q, t, _⟩, _⟩ g hd ⟨p, w, e1, e2, e3, e4⟩ => by
    subst e1 e3
    have hw := e4 xs q
    obtain ⟨z, hz, rz⟩ := t.getV hw
    rw [enumD_get, hz] at hd
    cases hd
    refine ⟨g.newH e2, Fr.newH e2, fun b o e => upd_ne (fun z => by subst z; rw [g.nn e2] at e; cases e), .inr ⟨⟨is, rfl⟩, _, p, _, rfl, rfl, .inl (.inl upd_same), .cons ?_ (.cons (rz.fr (Fr.newH e2)) .nil)⟩⟩
    simp only [Rep, Nat.zero_add]
  stab := fun T H T' H' o f g gd => o.stab f g gd
  mono := fun G T s h => lsGuard.mono s h
def tEnum3 (ta : TA3) : TI3 := fun σ G E R => ta σ G E fun ds G1 => match ds with
  | [x] => (match lstOf G1 x with
    | some l => R (enumD 0 l) (lsGuard G1 x l) G1
    | none => False)
  | _ => False
theorem lsOk_of {K : PySem.W.Frag} {F G : Gp} {H : Hp} {x : D} {v : V} {ds : List D} (t : At K F G H) (h : lstOf G x = some ds) (r : Rep K (jn G F) H x v) : ∃ a xs, v = .ref a ∧ SqL K H a xs ∧ xs.length = ds.length ∧ LsOk K x a ds (jn G F) H := by
  obtain ⟨a, e, l, c⟩ := lsAt_of t h r
  obtain ⟨xs, q, t', c'⟩ := id l
  refine ⟨a, xs, e, q, t'.length.symm, l, ?_⟩
  rcases c with ⟨e, r⟩ | ⟨e, g⟩
  · exact .inr ⟨e, r⟩
  · exact .inl ⟨e, jn_some g⟩
theorem pi3_enum {e : Expr} {elts : List Expr} {kk : Nat} {tpos p pos : Pos} {ta : TA3} {is : List Nat} (hg : Gl X "enumerate") (hm : X.mg "enumerate" = none) (ha : PA3 X [e] ta) (hs : starEach [e] X.env = [(false, eval e X.env)]) : PI3 X (.Tuple elts kk tpos) (.Call (.Name "enumerate" p) [e] [] pos) (.tp is) (tEnum3 ta) := fun W tk =>
  PI.imp (pi_enumA hg hm (ha W tk) hs) fun σ H R ⟨σ3, G, F, E3, R3, r, h, px, p⟩ => ⟨σ3, G, F, E3, _, r, h, px, fun ds G1 hx vs H1 f1 rv => by
    simp only at hx
    split at hx
    · rename_i x
      split at hx
      · rename_i l hl
        obtain ⟨v, e, r1⟩ := repL_one rv
        obtain ⟨a, xs, e1, q, hlen, o⟩ := lsOk_of f1.at hl r1
        rw [e1] at e
        exact ⟨a, xs, e, q, fun hz => p _ _ _ hx _ _ _ itok_enum o (by rw [enumD_length, ← hlen]; exact hz) f1⟩
      · exact hx.elim
    · exact hx.elim⟩
/-- a tuple that is looked at -/
def TpOk (K : PySem.W.Frag) (a : Addr) (ds : List D) (T : Gp) (H : Hp) : Prop := ∃ xs, SqT K H a xs ∧ Rep K T H (.tup ds) (.ref a) ∧ RepL K T H ds xs
theorem TpOk.stab {K : PySem.W.Frag} {T T' : Gp} {H H' : Hp} {a : Addr} {ds : List D} (l : TpOk K a ds T H) (f : Fr T H T' H') : TpOk K a ds T' H' := by
  obtain ⟨xs, q, r, t⟩ := l
  have r' := r.fr f
  obtain ⟨b, ys, e, q', t'⟩ := r'.tupSq
  cases e
  exact ⟨ys, q', r', t'⟩
theorem zip_get (xs ys : List D) (i : Nat) {d e : D} (h : xs[i]? = some d) (h' : ys[i]? = some e) : (zipD xs ys)[i]? = some (.tup [d, e]) := by
  rw [zipD_eq, List.getElem?_zipWith, h, h']
theorem itok_zip {K : PySem.W.Frag} {G : Gp} {is : List Nat} {x y : D} {ds es : List D} {a b : Addr} : ItOk K (.tp is) (Itz K a b) (zipD ds es) (fun G' => lsGuard G x ds G' ∧ lsGuard G y es G') (fun T H => LsOk K x a ds T H ∧ LsOk K y b es T H) where
  go := fun T H i ⟨⟨⟨xs, q, t, _⟩, _⟩, ⟨⟨ys, q', t', _⟩, _⟩⟩ g hi => by
    rw [zipD_eq, List.length_zipWith] at hi
    obtain ⟨v, e, _⟩ := t.get (List.getElem?_eq_getElem (show i < ds.length by omega))
    obtain ⟨u, e', _⟩ := t'.get (List.getElem?_eq_getElem (show i < es.length by omega))
    exact ⟨xs, ys, v, u, q, q', e, e'⟩
  stop := fun T H ⟨⟨⟨xs, q, t, _⟩, _⟩, ⟨⟨ys, q', t', _⟩, _⟩⟩ g => ⟨xs, ys, q, q', by rw [zipD_eq, List.length_zipWith, t.length, t'.length]; omega⟩
  yld := fun T H i d w H' ⟨⟨⟨xs, q, t, _⟩, _⟩, ⟨⟨ys, q', t', _⟩, _⟩⟩ g hd ⟨p, v, u, e1, e2, e3, e4, e5⟩ => by
    subst e1 e3
    obtain ⟨z, hz, rz⟩ := t.getV (e4 xs q)
    obtain ⟨z', hz', rz'⟩ := t'.getV (e5 ys q')
    rw [zip_get _ _ _ hz hz'] at hd
    cases hd
    exact ⟨g.newH e2, Fr.newH e2, fun b o e => upd_ne (fun z => by subst z; rw [g.nn e2] at e; cases e), .inr ⟨⟨is, rfl⟩, _, p, _, rfl, rfl, .inl (.inl upd_same), .cons (rz.fr (Fr.newH e2)) (.cons (rz'.fr (Fr.newH e2)) .nil)⟩⟩
  stab := fun T H T' H' o f g gd => ⟨o.1.stab f g gd.1, o.2.stab f g gd.2⟩
  mono := fun G T s h => ⟨lsGuard.mono s h.1, lsGuard.mono s h.2⟩
theorem itok_zipT {K : PySem.W.Frag} {is : List Nat} {ds es : List D} {a b : Addr} : ItOk K (.tp is) (RZ.ItzT K a b) (zipD ds es) yes3 (fun T H => TpOk K a ds T H ∧ TpOk K b es T H) where
  go := fun T H i ⟨⟨xs, q, _, t⟩, ⟨ys, q', _, t'⟩⟩ g hi => by
    rw [zipD_eq, List.length_zipWith] at hi
    obtain ⟨v, e, _⟩ := t.get (List.getElem?_eq_getElem (show i < ds.length by omega))
    obtain ⟨u, e', _⟩ := t'.get (List.getElem?_eq_getElem (show i < es.length by omega))
    exact ⟨xs, ys, v, u, q, q', e, e'⟩
  stop := fun T H ⟨⟨xs, q, _, t⟩, ⟨ys, q', _, t'⟩⟩ g => ⟨xs, ys, q, q', by rw [zipD_eq, List.length_zipWith, t.length, t'.length]; omega⟩
  yld := fun T H i d w H' ⟨⟨xs, q, _, t⟩, ⟨ys, q', _, t'⟩⟩ g hd ⟨p, v, u, e1, e2, e3, e4, e5⟩ => by
    subst e1 e3
    obtain ⟨z, hz, rz⟩ := t.getV (e4 xs q)
    obtain ⟨z', hz', rz'⟩ := t'.getV (e5 ys q')
    rw [zip_get _ _ _ hz hz'] at hd
    cases hd
    exact ⟨g.newH e2, Fr.newH e2, fun b o e => upd_ne (fun z => by subst z; rw [g.nn e2] at e; cases e), .inr ⟨⟨is, rfl⟩, _, p, _, rfl, rfl, .inl (.inl upd_same), .cons (rz.fr (Fr.newH e2)) (.cons (rz'.fr (Fr.newH e2)) .nil)⟩⟩
  stab := fun T H T' H' o f g gd => ⟨o.1.stab f, o.2.stab f⟩
  mono := fun G T s h => trivial
def zip3 (x y : D) (G : Gp) (R : RI3) : Prop := match x, y with
  | .tup ds, .tup es => R (zipD ds es) yes3 G
  | _, _ => (match lstOf G x, lstOf G y with
    | some ds, some es => R (zipD ds es) (fun G' => lsGuard G x ds G' ∧ lsGuard G y es G') G
    | _, _ => False)
def tZip3 (ta : TA3) : TI3 := fun σ G E R => ta σ G E fun ds G1 => match ds with
  | [x, y] => zip3 x y G1 R
  | _ => False
theorem zip_len (ds es : List D) (h : ds.length ≤ sizeLine) : (zipD ds es).length ≤ sizeLine := by
  rw [zipD_eq, List.length_zipWith]
  omega
theorem pi3_zip {e e2 : Expr} {elts : List Expr} {kk : Nat} {tpos p pos : Pos} {ta : TA3} {is : List Nat} (hg : Gl X "zip") (hm : X.mg "zip" = none) (ha : PA3 X [e, e2] ta) (hs : starEach [e, e2] X.env = (false, eval e X.env) :: starEach [e2] X.env) (hpl : (backTo pos (starEach [e2] X.env)).any (·.1) = false) : PI3 X (.Tuple elts kk tpos) (.Call (.Name "zip" p) [e, e2] [] pos) (.tp is) (tZip3 ta) := fun W tk =>
  PI.imp (pi_zipL hg hm (ha W tk) hs hpl) fun σ H R ⟨σ3, G, F, E3, R3, r, h, px, p⟩ => ⟨σ3, G, F, E3, _, r, h, px, fun ds G1 hx vs H1 f1 rv => by
    simp only at hx
    split at hx
    · rename_i x y
      obtain ⟨v, u, e, r1, r2⟩ := repL_two rv
      simp only [zip3] at hx
      split at hx
      · rename_i ds es
        obtain ⟨a, xs, e1, q1, t1⟩ := r1.tupSq
        obtain ⟨b, ys, e2, q2, t2⟩ := r2.tupSq
        rw [e1] at r1
        rw [e2] at r2
        rw [e1, e2] at e
        exact ⟨a, b, xs, ys, e, .inr ⟨q1, q2, fun hz => p _ _ _ hx _ _ _ itok_zipT ⟨⟨xs, q1, r1, t1⟩, ⟨ys, q2, r2, t2⟩⟩ (zip_len _ _ (by rw [t1.length]; exact hz)) f1⟩⟩
      · split at hx
        · rename_i l l' hl hl'
          obtain ⟨a, xs, e1, q1, n1, o1⟩ := lsOk_of f1.at hl r1
          obtain ⟨b, ys, e2, q2, n2, o2⟩ := lsOk_of f1.at hl' r2
          rw [e1, e2] at e
          exact ⟨a, b, xs, ys, e, .inl ⟨q1, q2, fun hz => p _ _ _ hx _ _ _ itok_zip ⟨o1, o2⟩ (zip_len _ _ (by rw [← n1]; exact hz)) f1⟩⟩
        · exact hx.elim
    · exact hx.elim⟩
end
end L3
namespace L3
open PySem PySem.Spec PyProof.Rows L2

abbrev FL3 := List D → Gp → (List D → Gp → Prop) → Prop
def tCB3 (r : F3) (ta : TA3) : TE3 := fun σ G E Q => ta σ G E fun ds G1 => r ds G1 Q
def tCBL3 (r : FL3) (ta : TA3) : TA3 := fun σ G E Q => ta σ G E fun ds G1 => r ds G1 Q
section
variable {X : Cx} {x : Str} {id T : String} {r : F3} {rl : FL3} {e : Expr} {es : List Expr} {ta : TA3} {p pos : Pos}
theorem cb_step {W : WX} {σ : St} {H : Hp} {Q : VK} (h : liftE X.K W (tCB3 r ta) σ H Q) : tCB (liftF X.K r) (liftA X.K W ta) σ H Q := by
  obtain ⟨σ3, G, F, E3, Q3, rr, h, px, p⟩ := h
  exact ⟨σ3, G, F, E3, _, rr, h, px, fun ds G1 hd vs H1 f1 rv => ⟨ds, G1, F, Q3, f1.at, rv, hd, p.tr f1⟩⟩
theorem cbL_step {W : WX} {σ : St} {H : Hp} {Q : VK} (h : liftL X.K W (tCBL3 rl ta) σ H Q) : tCB (liftFL X.K rl) (liftA X.K W ta) σ H Q := by
  obtain ⟨σ3, G, F, E3, Q3, rr, h, px, p⟩ := h
  exact ⟨σ3, G, F, E3, _, rr, h, px, fun ds G1 hd vs H1 f1 rv => ⟨ds, G1, F, Q3, f1.at, rv, hd, p.tr f1⟩⟩
theorem pe3_callB (hc : CallR X (.builtin id) (liftF X.K r)) (hg : Gl X x) (hm : X.mg x = none) (hv : bootBuiltins x = some (.builtin id)) (ha : PA3 X (e :: es) ta) (hn : x ≠ "__name__") (hdb : (x == ("__debug__" : Str)) = false)
    (he : starEach (e :: es) X.env = (false, eval e X.env) :: starEach es X.env) (hpl : (backTo pos (starEach es X.env)).any (·.1) = false) : PE3 X (.Call (.Name x p) (e :: es) [] pos) (tCB3 r ta) := fun W tk =>
  PE.imp (pe_callB hc hg hm hv (ha W tk) hn hdb he hpl) fun σ H Q h => cb_step h
theorem pe3_callTy (hc : CallR X (.type T) (liftF X.K r)) (hg : Gl X x) (hm : X.mg x = none) (hv : bootBuiltins x = some (.type T)) (ha : PA3 X (e :: es) ta) (hn : x ≠ "__name__") (hdb : (x == ("__debug__" : Str)) = false)
    (he : starEach (e :: es) X.env = (false, eval e X.env) :: starEach es X.env) (hpl : (backTo pos (starEach es X.env)).any (·.1) = false) : PE3 X (.Call (.Name x p) (e :: es) [] pos) (tCB3 r ta) := fun W tk =>
  PE.imp (pe_callTy hc hg hm hv (ha W tk) hn hdb he hpl) fun σ H Q h => cb_step h
theorem pl3_callB (hc : CallR X (.builtin id) (liftFL X.K rl)) (hg : Gl X x) (hm : X.mg x = none) (hv : bootBuiltins x = some (.builtin id)) (ha : PA3 X (e :: es) ta) (hn : x ≠ "__name__") (hdb : (x == ("__debug__" : Str)) = false)
    (he : starEach (e :: es) X.env = (false, eval e X.env) :: starEach es X.env) (hpl : (backTo pos (starEach es X.env)).any (·.1) = false) : PL3 X (.Call (.Name x p) (e :: es) [] pos) (tCBL3 rl ta) := fun W tk =>
  PE.imp (pe_callB hc hg hm hv (ha W tk) hn hdb he hpl) fun σ H Q h => cbL_step h
theorem pl3_callTy (hc : CallR X (.type T) (liftFL X.K rl)) (hg : Gl X x) (hm : X.mg x = none) (hv : bootBuiltins x = some (.type T)) (ha : PA3 X (e :: es) ta) (hn : x ≠ "__name__") (hdb : (x == ("__debug__" : Str)) = false)
    (he : starEach (e :: es) X.env = (false, eval e X.env) :: starEach es X.env) (hpl : (backTo pos (starEach es X.env)).any (·.1) = false) : PL3 X (.Call (.Name x p) (e :: es) [] pos) (tCBL3 rl ta) := fun W tk =>
  PE.imp (pe_callTy hc hg hm hv (ha W tk) hn hdb he hpl) fun σ H Q h => cbL_step h
theorem CallR.or {f : Value} {r r' : List V → Hp → VK → Prop} (h : CallR X f r) (h' : CallR X f r') : CallR X f (fun xs H Q => r xs H Q ∨ r' xs H Q) := fun pins s σ H xs us Q I rx q => q.elim (h pins s σ H xs us Q I rx) (h' pins s σ H xs us Q I rx)
theorem MtR.or3 {id : String} {r r' : V → List V → Hp → VK → Prop} (h : MtR X id r) (h' : MtR X id r') : MtR X id (fun x xs H Q => r x xs H Q ∨ r' x xs H Q) := fun pins s σ H x xs v us Q I rx rxs q => q.elim (h pins s σ H x xs v us Q I rx rxs) (h' pins s σ H x xs v us Q I rx rxs)
end
def rLen3 : F3 := fun ds G Q => match ds with
  | [x] => (match x with
    | .tup ds => Q (.int ds.length) G
    | .lst ds => Q (.int ds.length) G
    | .str z => z.length ≤ sizeLine ∧ Q (.int z.length) G
    | .ref a => (match G a with
      | some (.lst ds) => Q (.int ds.length) G
      | some (.dic kvs) => Q (.int kvs.length) G
      | _ => False)
    | _ => False)
  | _ => False
section
variable {X : Cx}
theorem call3_len : CallR X (.builtin "len") (liftF X.K rLen3) :=
  CallR.imp (CallR.or call_len call_lenD) fun vs H Q ⟨ds, G, F, Q3, t, rv, h, p⟩ => by
    simp only [rLen3] at h
    split at h
    · rename_i x
      obtain ⟨v, e, r⟩ := repL_one rv
      cases x with
      | tup ds =>
        obtain ⟨a, xs, e1, q, t'⟩ := r.tupSq
        refine .inl ⟨v, xs.length, e, ?_, ?_⟩
        · rw [e1]; exact .inr ⟨xs, q, rfl⟩
        · rw [← t'.length]; exact p _ _ h _ _ t.tr (by simp only [Rep])
      | lst ds =>
        obtain ⟨a, xs, e1, q, t'⟩ := r.lstSq
        refine .inl ⟨v, xs.length, e, ?_, ?_⟩
        · rw [e1]; exact .inl ⟨xs, q, rfl⟩
        · rw [← t'.length]; exact p _ _ h _ _ t.tr (by simp only [Rep])
      | str z =>
        refine .inl ⟨v, z.length, e, ?_, p _ _ h.2 _ _ t.tr (by simp only [Rep])⟩
        rw [rep_str r]; exact ⟨h.1, rfl⟩
      | ref a =>
        simp only at h
        split at h
        · rename_i ds e1
          obtain ⟨xs, q, t'⟩ := at_list t e1
          refine .inl ⟨v, xs.length, e, ?_, ?_⟩
          · rw [rep_ref r]; exact .inl ⟨xs, SqL.of q, rfl⟩
          · rw [← t'.length]; exact p _ _ h _ _ t.tr (by simp only [Rep])
        · rename_i kvs e1
          obtain ⟨ws, q, kr⟩ := at_dic t e1
          refine .inr ⟨a, ws, by rw [e, rep_ref r], q, ?_⟩
          rw [← krep_length kr]; exact p _ _ h _ _ t.tr (by simp only [Rep])
        · exact h.elim
      | _ => exact h.elim
    · exact h.elim

def blsOf : List D → Option (List Bool)
  | [] => some []
  | .bl b :: r => (blsOf r).map (b :: ·)
  | _ :: _ => none
def intsOf : List D → Option (List Int)
  | [] => some []
  | .int b :: r => (intsOf r).map (b :: ·)
  | _ :: _ => none
def strsOf : List D → Option (List Str)
  | [] => some []
  | .str b :: r => (strsOf r).map (b :: ·)
  | _ :: _ => none
theorem bls_of {K : PySem.W.Frag} {G : Gp} {H : Hp} : ∀ {ds : List D} {vs : List V} {bs : List Bool}, blsOf ds = some bs → RepL K G H ds vs → vs = bs.map V.bl
  | [], vs, bs, h, r => by cases h; exact repL_nil r
  | d :: ds, vs, bs, h, r => by
    cases d with
    | bl b =>
      simp only [blsOf] at h
      cases q : blsOf ds with
      | none => rw [q] at h; cases h
      | some cs =>
        rw [q] at h
        cases h
        obtain ⟨v, u, e, r1, r2⟩ := repL_cons r
        rw [e, rep_bl r1, bls_of q r2]
        rfl
    | _ => cases h
theorem ints_of {K : PySem.W.Frag} {G : Gp} {H : Hp} : ∀ {ds : List D} {vs : List V} {bs : List Int}, intsOf ds = some bs → RepL K G H ds vs → vs = bs.map V.int
  | [], vs, bs, h, r => by cases h; exact repL_nil r
  | d :: ds, vs, bs, h, r => by
    cases d with
    | int b =>
      simp only [intsOf] at h
      cases q : intsOf ds with
      | none => rw [q] at h; cases h
      | some cs =>
        rw [q] at h
        cases h
        obtain ⟨v, u, e, r1, r2⟩ := repL_cons r
        rw [e, rep_int r1, ints_of q r2]
        rfl
    | _ => cases h
theorem strs_of {K : PySem.W.Frag} {G : Gp} {H : Hp} : ∀ {ds : List D} {vs : List V} {bs : List Str}, strsOf ds = some bs → RepL K G H ds vs → vs = bs.map V.str
  | [], vs, bs, h, r => by cases h; exact repL_nil r
  | d :: ds, vs, bs, h, r => by
    cases d with
    | str b =>
      simp only [strsOf] at h
      cases q : strsOf ds with
      | none => rw [q] at h; cases h
      | some cs =>
        rw [q] at h
        cases h
        obtain ⟨v, u, e, r1, r2⟩ := repL_cons r
        rw [e, rep_str r1, strs_of q r2]
        rfl
    | _ => cases h
theorem lst_sq {K : PySem.W.Frag} {F G : Gp} {H : Hp} {d : D} {v : V} {ds : List D} (t : At K F G H) (h : lstOf G d = some ds) (r : Rep K (jn G F) H d v) : ∃ a xs, v = .ref a ∧ SqL K H a xs ∧ RepL K (jn G F) H ds xs := by
  obtain ⟨a, xs, e, q, t'⟩ := lstOf_sq t h r
  exact ⟨a, xs, e, q.sq, t'⟩
/-- a list of bools, of ints -/
def rBls3 (f : List Bool → D) : F3 := fun ds G Q => match ds with
  | [x] => (match lstOf G x with
    | some l => (match blsOf l with
      | some bs => Q (f bs) G
      | none => False)
    | none => False)
  | _ => False
theorem bls_step {K : PySem.W.Frag} {f : List Bool → D} {vs : List V} {H : Hp} {Q : VK} (h : liftF K (rBls3 f) vs H Q) : ∃ (a : Addr) (bs : List Bool) (G F : Gp) (Q3 : D → Gp → Prop), vs = [V.ref a] ∧ SqL K H a (bs.map V.bl) ∧ At K F G H ∧ Q3 (f bs) G ∧ Post K F G H Q3 Q := by
  obtain ⟨ds, G, F, Q3, t, rv, h, p⟩ := h
  simp only [rBls3] at h
  split at h
  · rename_i x
    split at h
    · rename_i l hl
      split at h
      · rename_i bs hb
        obtain ⟨v, e, r⟩ := repL_one rv
        obtain ⟨a, xs, e1, q, t'⟩ := lst_sq t hl r
        rw [bls_of hb t'] at q
        exact ⟨a, bs, G, F, Q3, by rw [e, e1], q, t, h, p⟩
      · exact h.elim
    · exact h.elim
  · exact h.elim
def rAny3 : F3 := rBls3 fun bs => .bl (bs.any id)
def rAll3 : F3 := rBls3 fun bs => .bl (bs.all id)
theorem call3_any (hc : X.calm = true) : CallR X (.builtin "any") (liftF X.K rAny3) :=
  CallR.imp (cr_any hc) fun vs H Q h => by
    obtain ⟨a, bs, G, F, Q3, e, q, t, h, p⟩ := bls_step h
    exact ⟨a, bs, e, q, p _ _ h _ _ t.tr (by simp only [Rep])⟩
theorem call3_all (hc : X.calm = true) : CallR X (.builtin "all") (liftF X.K rAll3) :=
  CallR.imp (cr_all hc) fun vs H Q h => by
    obtain ⟨a, bs, G, F, Q3, e, q, t, h, p⟩ := bls_step h
    exact ⟨a, bs, e, q, p _ _ h _ _ t.tr (by simp only [Rep])⟩
/-- sum, min, max of a list of ints (of two ints) -/
def minI : List Int → Int
  | [] => 0
  | [x] => x
  | x :: r => min x (minI r)
def maxI : List Int → Int
  | [] => 0
  | [x] => x
  | x :: r => max x (maxI r)
theorem minI_ok : ∀ {l : List Int} {m : Int}, m ∈ l → (∀ y ∈ l, m ≤ y) → minI l = m
  | [], m, h, _ => by simp at h
  | [x], m, h, _ => by simp at h; simp [minI, h]
  | x :: y :: r, m, h, k => by
    have kx := k x (by simp)
    rcases List.mem_cons.mp h with e | h
    · subst e
      have z : m ≤ minI (y :: r) := by
        have g : ∀ (l : List Int), l ≠ [] → (∀ y ∈ l, m ≤ y) → m ≤ minI l := by
          intro l
          induction l with
          | nil => intro q; exact absurd rfl q
          | cons a l ih =>
            intro _ hh
            cases l with
            | nil => simpa [minI] using hh a (by simp)
            | cons b l =>
              show m ≤ min a (minI (b :: l))
              have := ih (by simp) fun y hy => hh y (List.mem_cons_of_mem _ hy)
              have := hh a (by simp)
              omega
        exact g (y :: r) (by simp) fun y hy => k y (List.mem_cons_of_mem _ hy)
      show min m (minI (y :: r)) = m
      omega
    · have := minI_ok h fun y hy => k y (List.mem_cons_of_mem _ hy)
      show min x (minI (y :: r)) = m
      omega
theorem maxI_ok : ∀ {l : List Int} {m : Int}, m ∈ l → (∀ y ∈ l, y ≤ m) → maxI l = m
  | [], m, h, _ => by simp at h
  | [x], m, h, _ => by simp at h; simp [maxI, h]
  | x :: y :: r, m, h, k => by
    have kx := k x (by simp)
    rcases List.mem_cons.mp h with e | h
    · subst e
      have z : maxI (y :: r) ≤ m := by
        have g : ∀ (l : List Int), l ≠ [] → (∀ y ∈ l, y ≤ m) → maxI l ≤ m := by
          intro l
          induction l with
          | nil => intro q; exact absurd rfl q
          | cons a l ih =>
            intro _ hh
            cases l with
            | nil => simpa [maxI] using hh a (by simp)
            | cons b l =>
              show max a (maxI (b :: l)) ≤ m
              have := ih (by simp) fun y hy => hh y (List.mem_cons_of_mem _ hy)
              have := hh a (by simp)
              omega
        exact g (y :: r) (by simp) fun y hy => k y (List.mem_cons_of_mem _ hy)
      show max m (maxI (y :: r)) = m
      omega
    · have := maxI_ok h fun y hy => k y (List.mem_cons_of_mem _ hy)
      show max x (maxI (y :: r)) = m
      omega
def rInts3 (C : List Int → Bool) (f : List Int → Int) : F3 := fun ds G Q => match ds with
  | [x] => (match lstOf G x with
    | some l => (match intsOf l with
      | some ns => C ns = true ∧ Q (.int (f ns)) G
      | none => False)
    | none => False)
  | [.int i, .int j] => C [i, j, i] = true ∧ Q (.int (f [i, j])) G
  | _ => False
theorem ints_step {K : PySem.W.Frag} {C : List Int → Bool} {f : List Int → Int} {vs : List V} {H : Hp} {Q : VK} (h : liftF K (rInts3 C f) vs H Q) : ∃ (G F : Gp) (Q3 : D → Gp → Prop), At K F G H ∧ Post K F G H Q3 Q ∧ ((∃ (a : Addr) (ns : List Int), vs = [V.ref a] ∧ SqL K H a (ns.map V.int) ∧ C ns = true ∧ Q3 (.int (f ns)) G) ∨ ∃ i j, vs = [.int i, .int j] ∧ C [i, j, i] = true ∧ Q3 (.int (f [i, j])) G) := by
  obtain ⟨ds, G, F, Q3, t, rv, h, p⟩ := h
  refine ⟨G, F, Q3, t, p, ?_⟩
  simp only [rInts3] at h
  split at h
  · rename_i x
    split at h
    · rename_i l hl
      split at h
      · rename_i bs hb
        obtain ⟨v, e, r⟩ := repL_one rv
        obtain ⟨a, xs, e1, q, t'⟩ := lst_sq t hl r
        rw [ints_of hb t'] at q
        exact .inl ⟨a, bs, by rw [e, e1], q, h⟩
      · exact h.elim
    · exact h.elim
  · rename_i i j
    obtain ⟨v, u, e, r1, r2⟩ := repL_two rv
    exact .inr ⟨i, j, by rw [e, rep_int r1, rep_int r2], h⟩
  · exact h.elim
def rSum3 : F3 := rInts3 (fun ns => match ns with
  | [_, _, _] => true
  | _ => true) fun ns => ns.sum
def rMin3 : F3 := rInts3 (fun ns => !ns.isEmpty) minI
def rMax3 : F3 := rInts3 (fun ns => !ns.isEmpty) maxI
theorem call3_min (hc : X.calm = true) : CallR X (.builtin "min") (liftF X.K rMin3) :=
  CallR.imp (CallR.or (cr_min hc) (call_min2 hc)) fun vs H Q h => by
    obtain ⟨G, F, Q3, t, p, h⟩ := ints_step h
    rcases h with ⟨a, ns, e, q, hc, h⟩ | ⟨i, j, e, _, h⟩
    · refine .inl ⟨a, ns, e, q, ?_, fun m h1 h2 => ?_⟩
      · cases ns with
        | nil => simp at hc
        | cons _ _ => simp
      · rw [← minI_ok h1 h2]; exact p _ _ h _ _ t.tr (by simp only [Rep])
    · refine .inr ⟨i, j, e, ?_⟩
      have z : minI [i, j] = if j < i then j else i := by
        show min i j = _
        split <;> omega
      rw [z] at h
      exact p _ _ h _ _ t.tr (by simp only [Rep])
theorem call3_max (hc : X.calm = true) : CallR X (.builtin "max") (liftF X.K rMax3) :=
  CallR.imp (CallR.or (cr_max hc) (call_max2 hc)) fun vs H Q h => by
    obtain ⟨G, F, Q3, t, p, h⟩ := ints_step h
    rcases h with ⟨a, ns, e, q, hc, h⟩ | ⟨i, j, e, _, h⟩
    · refine .inl ⟨a, ns, e, q, ?_, fun m h1 h2 => ?_⟩
      · cases ns with
        | nil => simp at hc
        | cons _ _ => simp
      · rw [← maxI_ok h1 h2]; exact p _ _ h _ _ t.tr (by simp only [Rep])
    · refine .inr ⟨i, j, e, ?_⟩
      have z : maxI [i, j] = if j > i then j else i := by
        show max i j = _
        split <;> omega
      rw [z] at h
      exact p _ _ h _ _ t.tr (by simp only [Rep])
def rInt3 : F3 := fun ds G Q => match ds with
  | [.int i] => Q (.int i) G
  | [.bl k] => Q (.int (if k then 1 else 0)) G
  | [.str z] => (match PySem.intText? z with
    | some n => z.length ≤ 640 ∧ Q (.int n) G
    | none => False)
  | _ => False
theorem call3_int : CallR X (.type "int") (liftF X.K rInt3) :=
  CallR.imp (CallR.or call_int1 call_int_str) fun vs H Q ⟨ds, G, F, Q3, t, rv, h, p⟩ => by
    simp only [rInt3] at h
    split at h
    · obtain ⟨v, e, r⟩ := repL_one rv
      exact .inl (.inl ⟨_, by rw [e, rep_int r], p _ _ h _ _ t.tr (by simp only [Rep])⟩)
    · obtain ⟨v, e, r⟩ := repL_one rv
      exact .inl (.inr ⟨_, by rw [e, rep_bl r], p _ _ h _ _ t.tr (by simp only [Rep])⟩)
    · obtain ⟨v, e, r⟩ := repL_one rv
      split at h
      · rename_i n hn
        exact .inr ⟨_, n, by rw [e, rep_str r], hn, h.1, p _ _ h.2 _ _ t.tr (by simp only [Rep])⟩
      · exact h.elim
    · exact h.elim
def rStr3 : F3 := fun ds G Q => match ds with
  | [.int i] => i.natAbs.log2 < 1920 ∧ Q (.str (toString i)) G
  | _ => False
theorem call3_str : CallR X (.type "str") (liftF X.K rStr3) :=
  CallR.imp call_str_int fun vs H Q ⟨ds, G, F, Q3, t, rv, h, p⟩ => by
    simp only [rStr3] at h
    split at h
    · obtain ⟨v, e, r⟩ := repL_one rv
      exact ⟨_, by rw [e, rep_int r], h.1, p _ _ h.2 _ _ t.tr (by simp only [Rep])⟩
    · exact h.elim
theorem call_tuple_ofF : CallR X (.type "tuple") (fun xs H Q => ∃ p ys, xs = [.ref p] ∧ ((SqL X.K H p ys ∧ ∀ l o, H l = none → o.dict = none → Q (.ref l) (upd H l (.frz o (.tup ys)))) ∨ (SqT X.K H p ys ∧ Q (.ref p) H))) := by
  intro pins s σ H xs us Q I r h
  obtain ⟨p, ys, rfl, h⟩ := h
  obtain ⟨u, rfl, rx⟩ := vals1 r
  cases rx
  rcases h with ⟨hq, q⟩ | ⟨hq, q⟩
  · obtain ⟨its, r', pl, hz⟩ := I.list hq
    have hlen := r'.length
    refine call_tuple_list pl.isList (fun h' kp => ?_) (by simp only [List.size_toArray] <;> omega)
    have I1 : Inv X pins σ H { s with heap := h' } := I.kept (t' := s.toks) kp
    exact laid_tup I1 r' hz q
  · obtain ⟨its, r', pl, hz⟩ := I.tuple hq
    exact call_tuple_same pl ⟨.ref p, H, I, rfl, q⟩
def rTup3 : F3 := fun ds G Q => match ds with
  | [x] => (match x with
    | .tup l => Q (.tup l) G
    | _ => (match lstOf G x with
      | some l => Q (.tup l) G
      | none => False))
  | _ => False
theorem call3_tuple : CallR X (.type "tuple") (liftF X.K rTup3) :=
  CallR.imp call_tuple_ofF fun vs H Q ⟨ds, G, F, Q3, t, rv, h, p⟩ => by
    simp only [rTup3] at h
    split at h
    · rename_i x
      obtain ⟨v, e, r⟩ := repL_one rv
      split at h
      · rename_i l
        obtain ⟨a, xs, e1, q, t'⟩ := id r.tupSq
        exact ⟨a, xs, by rw [e, e1], .inr ⟨q, by rw [← e1]; exact p _ _ h _ _ t.tr r⟩⟩
      · split at h
        · rename_i l hl
          obtain ⟨a, xs, e1, q, t'⟩ := lst_sq t hl r
          exact ⟨a, xs, by rw [e, e1], .inl ⟨q, fun b o hb ho => p _ _ h _ _ (.newH t.dj t.g hb) (rep_tupNew t.g hb ho t')⟩⟩
        · exact h.elim
    · exact h.elim
/-- the items of what list(..) takes -/
def itemsOf (G : Gp) (x : D) : Option (List D) := match x with
  | .tup l => some l
  | _ => lstOf G x
def rList3 : FL3 := fun ds G Q => match ds with
  | [x] => (match itemsOf G x with
    | some l => Q l G
    | none => False)
  | _ => False
theorem items_sq {K : PySem.W.Frag} {F G : Gp} {H : Hp} {d : D} {v : V} {ds : List D} (t : At K F G H) (h : itemsOf G d = some ds) (r : Rep K (jn G F) H d v) : ∃ a xs, v = .ref a ∧ (SqL K H a xs ∨ SqT K H a xs) ∧ RepL K (jn G F) H ds xs := by
  unfold itemsOf at h
  split at h
  · cases h
    obtain ⟨a, xs, e, q, t'⟩ := r.tupSq
    exact ⟨a, xs, e, .inr q, t'⟩
  · obtain ⟨a, xs, e, q, t'⟩ := lst_sq t h r
    exact ⟨a, xs, e, .inl q, t'⟩
theorem call3_list : CallR X (.type "list") (liftFL X.K rList3) :=
  CallR.imp call_list_of fun vs H Q ⟨ds, G, F, Q3, t, rv, h, p⟩ => by
    simp only [rList3] at h
    split at h
    · rename_i x
      split at h
      · rename_i l hl
        obtain ⟨v, e, r⟩ := repL_one rv
        obtain ⟨a, xs, e1, q, t'⟩ := items_sq t hl r
        exact ⟨a, xs, by rw [e, e1], q, fun b hb => p _ _ h _ _ (jn_nn (t.g.nn hb)).1 (.new t.dj t.g hb (orel_new hb t'))⟩
      · exact h.elim
    · exact h.elim
inductive Ty3 where
  | non | bl | int | str | tup | lst | dic
deriving DecidableEq
def Ty3.s : Ty3 → String
  | .non => "NoneType" | .bl => "bool" | .int => "int" | .str => "str" | .tup => "tuple" | .lst => "list" | .dic => "dict"
def ty3Of (G : Gp) : D → Option Ty3
  | .non => some .non
  | .bl _ => some .bl
  | .int _ => some .int
  | .str _ => some .str
  | .tup _ => some .tup
  | .lst _ => some .lst
  | .ref a => (match G a with
    | some (.lst _) => some .lst
    | some (.dic _) => some .dic
    | some (.rdd _) => some .dic
    | _ => none)
  | .ty _ => none
def ty3N (n : String) : Option Ty3 :=
  if n = "bool" then some .bl else if n = "int" then some .int else if n = "str" then some .str else if n = "tuple" then some .tup else if n = "list" then some .lst else if n = "dict" then some .dic else none
def isT3 : Ty3 → Ty3 → Bool
  | .bl, .int => true
  | a, b => a == b
theorem ty3N_s {n : String} {t : Ty3} (h : ty3N n = some t) : n = t.s := by
  unfold ty3N at h
  split at h
  · cases h; assumption
  · split at h
    · cases h; assumption
    · split at h
      · cases h; assumption
      · split at h
        · cases h; assumption
        · split at h
          · cases h; assumption
          · split at h
            · cases h; assumption
            · cases h
theorem kit3 {K : PySem.W.Frag} (a b : Ty3) (hb : b ≠ .non) : PySem.W.kitOne K (.type a.s) (.type b.s) = some (isT3 a b) := by
  refine kit_ty ?_
  cases b with
  | non => exact absurd rfl hb
  | _ => cases a <;> decide +kernel
def isAny3 (t : Ty3) : List D → Option Bool
  | [] => some false
  | .ty n :: r => (match ty3N n with
    | some u => (isAny3 t r).map (isT3 t u || ·)
    | none => none)
  | _ :: _ => none
def rIsi3 : F3 := fun ds G Q => match ds with
  | [x, c] => (match ty3Of G x with
    | some t => (match c with
      | .ty n => (match ty3N n with
        | some u => Q (.bl (isT3 t u)) G
        | none => False)
      | .tup cs => (match isAny3 t cs with
        | some b => Q (.bl b) G
        | none => False)
      | _ => False)
    | none => False)
  | _ => False
theorem tyx_of {K : PySem.W.Frag} {F G : Gp} {H : Hp} {x : D} {v : V} {t : Ty3} (a : At K F G H) (h : ty3Of G x = some t) (r : Rep K (jn G F) H x v) : TyX K H v (.type t.s) := by
  cases x with
  | non => cases h; rw [rep_non r]; exact .base .non
  | bl b => cases h; rw [rep_bl r]; exact .base (.bl b)
  | int b => cases h; rw [rep_int r]; exact .base (.int b)
  | str b => cases h; rw [rep_str r]; exact .base (.str b)
  | tup l =>
    cases h
    simp only [Rep] at r
    obtain ⟨p, xs, e, q, t'⟩ := r
    rw [e]
    rcases q with ⟨_, o, q, _⟩ | ⟨o, its, n, q, c, _⟩
    · exact .fTuple q
    · exact .kTuple q c
  | lst l =>
    cases h
    obtain ⟨p, xs, e, q, t'⟩ := r.lstX
    rw [e]
    rcases q with (q | ⟨o, q⟩) | ⟨its, n, q, _⟩
    · exact .base (.lst q)
    · exact .base (.frz q)
    · exact .kList q rfl
  | ref p =>
    rw [rep_ref r]
    simp only [ty3Of] at h
    split at h
    · cases h
      rename_i ds e
      obtain ⟨xs, q, _⟩ := at_list a e
      exact .base (.lst q)
    · cases h
      rename_i ds e
      obtain ⟨xs, q, _⟩ := at_dic a e
      exact .base (.dK q)
    · cases h
      rename_i ds e
      obtain ⟨o, xs, q, _⟩ := at_rdd a e
      exact .fDict q
    · cases h
  | ty n => cases h
theorem call_isiF : CallR X (.builtin "isinstance") (fun xs H Q => ∃ (x : V) (tp : Addr) (cs : List V) (t : Value) (us : List Value) (b : Bool), xs = [x, .ref tp] ∧ (HTup H tp cs ∨ KTup X.K tp cs) ∧ Paired ClsV cs us ∧ TyX X.K H x t ∧ PySem.W.kitAny X.K t us = some b ∧ Q (.bl b) H) := by
  intro pins s σ H xs us Q I r h
  obtain ⟨x, tp, cs, t, ws, b, rfl, hT, k, ty, e, q⟩ := h
  obtain ⟨u1, u2, rfl, r1, r2⟩ := vals2 r
  cases (show u2 = Value.ref tp from r2)
  obtain ⟨P, Z, p, hx⟩ := kit_of I r1 ty
  rcases hT with ⟨ob, hT, _⟩ | ⟨ob, its, n, hk, hc, _, hd, _, rv⟩
  · obtain ⟨e0, _, its, rv, o, h1, h2, n, h3⟩ := (show ObjOk X.prog X.w H s.heap tp (.frz ob (.tup cs)) from I.hok tp _ hT)
    have e3 := ClsV.all k rv
    subst e3
    obtain ⟨oc, od, dt, sl⟩ := o
    simp only at h2 h3
    subst h2 h3
    exact PySem.W.kia_tup Z I.kIn p h1 e hx fun tk => ⟨.bl b, H, I.tok tk, rfl, q⟩
  · have e3 := ClsV.all k rv
    obtain ⟨oc, od, dt, sl⟩ := ob
    simp only at hc hd
    subst hc hd
    obtain ⟨l⟩ := its
    simp only at e3
    subst e3
    exact PySem.W.kia_tup Z I.kIn p (I.kIn _ _ hk) e hx fun tk => ⟨.bl b, H, I.tok tk, rfl, q⟩
theorem isAny_kit {K : PySem.W.Frag} {G : Gp} {H : Hp} (t : Ty3) : ∀ {cs : List D} {vs : List V} {b : Bool}, isAny3 t cs = some b → RepL K G H cs vs → ∃ us, Paired ClsV vs us ∧ PySem.W.kitAny K (.type t.s) us = some b
  | [], vs, b, h, r => by
    cases h
    rw [repL_nil r]
    exact ⟨[], .nil, kitAny_nil⟩
  | c :: cs, vs, b, h, r => by
    cases c with
    | ty n =>
      simp only [isAny3] at h
      split at h
      · rename_i u hu
        cases q : isAny3 t cs with
        | none => rw [q] at h; cases h
        | some b' =>
          rw [q] at h
          have h := Option.some.inj h
          obtain ⟨v, w, e, r1, r2⟩ := repL_cons r
          obtain ⟨us, p1, p2⟩ := isAny_kit t q r2
          rw [e, rep_ty r1]
          have ne : u ≠ .non := by
            intro z
            subst z
            unfold ty3N at hu
            (repeat' split at hu) <;> cases hu
          refine ⟨.type n :: us, .cons (.ty n) p1, kitAny_cons (b := isT3 t u) (by rw [ty3N_s hu]; exact kit3 t u ne) (fun z => ?_) fun z => ?_⟩
          · rw [p2, ← h, z]; rfl
          · rw [← h, z]; rfl
      · cases h
    | _ => cases h
theorem call3_isi : CallR X (.builtin "isinstance") (liftF X.K rIsi3) :=
  CallR.imp (CallR.or call_isi call_isiF) fun vs H Q ⟨ds, G, F, Q3, t, rv, h, p⟩ => by
    simp only [rIsi3] at h
    split at h
    · rename_i x c
      obtain ⟨v, u, e, r1, r2⟩ := repL_two rv
      split at h
      · rename_i ty hty
        split at h
        · rename_i n
          split at h
          · rename_i w hw
            have ne : w ≠ .non := by
              intro z
              subst z
              unfold ty3N at hw
              (repeat' split at hw) <;> cases hw
            exact .inl ⟨v, _, _, _, _, by rw [e, rep_ty r2], .ty n, tyx_of t hty r1, by rw [ty3N_s hw]; exact kit3 ty w ne, p _ _ h _ _ t.tr (by simp only [Rep])⟩
          · exact h.elim
        · rename_i cs
          split at h
          · rename_i b hb
            simp only [Rep] at r2
            obtain ⟨tp, xs, e2, q, t'⟩ := r2
            obtain ⟨us, p1, p2⟩ := isAny_kit ty hb t'
            refine .inr ⟨v, tp, xs, _, us, b, by rw [e, e2], ?_, p1, tyx_of t hty r1, p2, p _ _ h _ _ t.tr (by simp only [Rep])⟩
            rcases q with ⟨_, q⟩ | q
            · exact .inl q
            · exact .inr q
          · exact h.elim
        · exact h.elim
      · exact h.elim
    · exact h.elim
end
end L3
namespace L3
open PySem PySem.Spec PyProof.Rows L2

abbrev TO3 := St3 → Gp → XK3 → (Option Int → Gp → Prop) → Prop
def PostO (K : PySem.W.Frag) (F G : Gp) (H : Hp) (Q3 : Option Int → Gp → Prop) (Q : Option Int → Hp → Prop) : Prop := ∀ b G', Q3 b G' → ∀ H', Tr K F G H G' H' → Q b H'
def liftO (K : PySem.W.Frag) (W : WX) (t : TO3) : TO := fun σ H Q => ∃ σ3 G F E3 Q3, Rel K F σ3 G σ H ∧ t σ3 G E3 Q3 ∧ PostX K F G H E3 (fun c d H' => W c d σ H') ∧ PostO K F G H Q3 Q
def PO3 (X : Cx) (e : Option Expr) (t : TO3) : Prop := ∀ W, Takes X W → PO X e (liftO X.K W t)
theorem PO.imp {X : Cx} {e : Option Expr} {t t' : TO} (h : PO X e t) (i : ∀ σ H Q, t' σ H Q → t σ H Q) : PO X e t' := ⟨fun pins s σ H Q I q => h.run pins s σ H Q I (i σ H Q q)⟩
def tNoP3 : TO3 := fun _ G _ Q => Q none G
def tPart3 (te : TE3) : TO3 := fun σ G E Q => te σ G E fun x G1 => match x with
  | .int i => Q (some i) G1
  | _ => False
section
variable {X : Cx}
theorem po3_none : PO3 X none tNoP3 := fun W tk => PO.imp po_none fun σ H Q ⟨σ3, G, F, E3, Q3, r, h, px, p⟩ => p _ _ h _ r.here
theorem po3_some {e : Expr} {te : TE3} (he : PE3 X e te) : PO3 X (some e) (tPart3 te) := fun W tk =>
  PO.imp (po_some (he W tk)) fun σ H Q ⟨σ3, G, F, E3, Q3, r, h, px, p⟩ => ⟨σ3, G, F, E3, _, r, h, px, fun x G1 hx v H1 f1 rv => by
    cases x with
    | int i => exact ⟨i, rep_int rv, p _ _ hx _ f1⟩
    | _ => exact hx.elim⟩
end
def cutD (ds : List D) (lo hi : Option Int) : List D := (ds.drop (HT.sIx ds.length 0 lo)).take (HT.sIx ds.length ds.length hi - HT.sIx ds.length 0 lo)
theorem cutD_rep {K : PySem.W.Frag} {G : Gp} {H : Hp} {ds : List D} {vs : List V} (r : RepL K G H ds vs) (lo hi : Option Int) : RepL K G H (cutD ds lo hi) (cutV vs lo hi) := by
  unfold cutD cutV
  rw [← r.length]
  exact (r.drop _).take _
theorem sl_tupF {X : Cx} : SlR X (fun x lo hi H Q => ∃ a xs, x = .ref a ∧ SqT X.K H a xs ∧
    (HT.sIx xs.length 0 lo = 0 ∧ HT.sIx xs.length xs.length hi = xs.length → Q (.ref a) H) ∧ (¬ (HT.sIx xs.length 0 lo = 0 ∧ HT.sIx xs.length xs.length hi = xs.length) → ∀ p o, H p = none → o.dict = none → Q (.ref p) (upd H p (.frz o (.tup (cutV xs lo hi)))))) := by
  intro pins s σ H x v vl vu lo hi sl Q I rx hs pl pu h
  obtain ⟨a, xs, rfl, hx, q1, q2⟩ := h
  cases rx
  obtain ⟨its, r, ht, hz⟩ := I.tuple hx
  have hlen : its.toArray.size = xs.length := by rw [List.size_toArray]; exact r.length.symm
  refine ⟨"tuple", _, PyProof.Rows.slot_tuple_getitem.lookup, ht.typeIs, ?_⟩
  by_cases hw : HT.sIx xs.length 0 lo = 0 ∧ HT.sIx xs.length xs.length hi = xs.length
  · exact getItem_tuple_whole ht hs pl pu (by rw [hlen]; exact hw) ⟨.ref a, H, I, rfl, q1 hw⟩
  · refine HT.getItem_tuple_cut ht hs pl pu (by rw [hlen]; exact hw) ?_ (by rw [hlen]; exact hz)
    rw [hlen]
    exact laid_tup I ((r.drop (HT.sIx xs.length 0 lo)).take (HT.sIx xs.length xs.length hi - HT.sIx xs.length 0 lo)) (Nat.le_trans (cutV_length xs lo hi) hz) (q2 hw)
abbrev RS3 := D → Option Int → Option Int → Gp → (D → Gp → Prop) → Prop
def liftSl (K : PySem.W.Frag) (r : RS3) : V → Option Int → Option Int → Hp → VK → Prop := fun v lo hi H Q => ∃ x G F Q3, At K F G H ∧ Rep K (jn G F) H x v ∧ r x lo hi G Q3 ∧ Post K F G H Q3 Q
def liftSlL (K : PySem.W.Frag) (r : D → Option Int → Option Int → Gp → (List D → Gp → Prop) → Prop) : V → Option Int → Option Int → Hp → VK → Prop := fun v lo hi H Q => ∃ x G F Q3, At K F G H ∧ Rep K (jn G F) H x v ∧ r x lo hi G Q3 ∧ PostL K F G H Q3 Q
/-- tuples, texts -/
def rSl3 : RS3 := fun x lo hi G Q => match x with
  | .tup l => Q (.tup (cutD l lo hi)) G
  | .str z => z.length ≤ sizeLine ∧ Q (.str (cutS z lo hi)) G
  | _ => False
/-- lists -/
def rSlL3 : D → Option Int → Option Int → Gp → (List D → Gp → Prop) → Prop := fun x lo hi G Q => match lstOf G x with
  | some l => Q (cutD l lo hi) G
  | none => False
def tSl3 (r : RS3) (te : TE3) (tl th : TO3) : TE3 := fun σ G E Q => te σ G E fun x G1 => tl σ G1 E fun l G2 => th σ G2 E fun u G3 => r x l u G3 Q
def tSlL3 (r : D → Option Int → Option Int → Gp → (List D → Gp → Prop) → Prop) (te : TE3) (tl th : TO3) : TA3 := fun σ G E Q => te σ G E fun x G1 => tl σ G1 E fun l G2 => th σ G2 E fun u G3 => r x l u G3 Q
section
variable {X : Cx} {e : Expr} {lo hi : Option Expr} {te : TE3} {tl th : TO3} {p2 pos : Pos}
theorem sl3 : SlR X (liftSl X.K rSl3) :=
  SlR.imp (SlR.or sl_tupF sl_str) fun v lo hi H Q ⟨x, G, F, Q3, t, r, h, p⟩ => by
    cases x with
    | tup l =>
      obtain ⟨a, xs, e, q, t'⟩ := id r.tupSq
      refine .inl ⟨a, xs, e, q, fun hw => ?_, fun hw b o hb ho => p _ _ h _ _ (.newH t.dj t.g hb) (rep_tupNew t.g hb ho (cutD_rep t' lo hi))⟩
      have z : cutD l lo hi = l := by
        unfold cutD
        rw [t'.length, hw.1, hw.2, List.drop_zero, Nat.sub_zero, ← t'.length, List.take_length]
      rw [← e]
      refine p _ _ h _ _ t.tr ?_
      rw [z]; exact r
    | str z => exact .inr ⟨z, rep_str r, h.1, p _ _ h.2 _ _ t.tr (by simp only [Rep])⟩
    | _ => exact h.elim
theorem slL3 : SlR X (liftSlL X.K rSlL3) :=
  SlR.imp sl_list fun v lo hi H Q ⟨x, G, F, Q3, t, r, h, p⟩ => by
    simp only [rSlL3] at h
    split at h
    · rename_i l hl
      obtain ⟨a, xs, e, q, t'⟩ := lst_sq t hl r
      exact ⟨a, xs, e, q, fun b hb => p _ _ h _ _ (jn_nn (t.g.nn hb)).1 (.new t.dj t.g hb (orel_new hb (cutD_rep t' lo hi)))⟩
    · exact h.elim
theorem pe3_slice {r : RS3} (hr : SlR X (liftSl X.K r)) (he : PE3 X e te) (hl : PO3 X lo tl) (hu : PO3 X hi th) : PE3 X (.Subscript e (.Slice lo hi none p2) pos) (tSl3 r te tl th) := fun W tk =>
  PE.imp (pe_slice hr (he W tk) (hl W tk) (hu W tk)) fun σ H Q ⟨σ3, G, F, E3, Q3, rr, h, px, p⟩ => ⟨σ3, G, F, E3, _, rr, h, px, fun x G1 hx v H1 f1 rv =>
    ⟨σ3, G1, F, E3, _, rr.tr f1, hx, px.tr f1, fun l G2 hl H2 f2 => ⟨σ3, G2, F, E3, _, (rr.tr f1).tr f2, hl, (px.tr f1).tr f2, fun u G3 hu H3 f3 => ⟨x, G3, F, Q3, f3.at, (f2.trans f3).rep rv, hu, p.tr (f1.trans (f2.trans f3))⟩⟩⟩⟩
theorem pl3_slice {r : D → Option Int → Option Int → Gp → (List D → Gp → Prop) → Prop} (hr : SlR X (liftSlL X.K r)) (he : PE3 X e te) (hl : PO3 X lo tl) (hu : PO3 X hi th) : PL3 X (.Subscript e (.Slice lo hi none p2) pos) (tSlL3 r te tl th) := fun W tk =>
  PE.imp (pe_slice hr (he W tk) (hl W tk) (hu W tk)) fun σ H Q ⟨σ3, G, F, E3, Q3, rr, h, px, p⟩ => ⟨σ3, G, F, E3, _, rr, h, px, fun x G1 hx v H1 f1 rv =>
    ⟨σ3, G1, F, E3, _, rr.tr f1, hx, px.tr f1, fun l G2 hl H2 f2 => ⟨σ3, G2, F, E3, _, (rr.tr f1).tr f2, hl, (px.tr f1).tr f2, fun u G3 hu H3 f3 => ⟨x, G3, F, Q3, f3.at, (f2.trans f3).rep rv, hu, p.tr (f1.trans (f2.trans f3))⟩⟩⟩⟩

def rMulL3 : D → D → Gp → (List D → Gp → Prop) → Prop := fun x y G Q => match x with
  | .ref a => (match G a with
    | some (.lst l) => (match y with
      | .int k => -(2 ^ 63) ≤ k ∧ k < 2 ^ 63 ∧ l.length * k.toNat ≤ sizeLine ∧ Q (List.replicate k.toNat l).flatten G
      | _ => False)
    | _ => False)
  | _ => False
theorem repL_rep {K : PySem.W.Frag} {G : Gp} {H : Hp} {ds : List D} {vs : List V} (r : RepL K G H ds vs) : ∀ k : Nat, RepL K G H (List.replicate k ds).flatten (List.replicate k vs).flatten
  | 0 => .nil
  | k + 1 => by
    rw [List.replicate_succ, List.replicate_succ, List.flatten_cons, List.flatten_cons]
    exact r.append (repL_rep r k)
theorem opL3_mul : OpL3 X (binaryOp .Mult) rMulL3 :=
  OpR.imp op_rep fun v u H Q ⟨x, y, G, F, Q3, t, rx, ry, h, p⟩ => by
    cases x with
    | ref a =>
      simp only [rMulL3] at h
      split at h
      · rename_i l e
        cases y with
        | int k =>
          obtain ⟨xs, q, t'⟩ := at_list t e
          exact ⟨a, k, xs, rep_ref rx, rep_int ry, q, h.1, h.2.1, by rw [← t'.length]; exact h.2.2.1, fun b hb => p _ _ h.2.2.2 _ _ (jn_nn (t.g.nn hb)).1 (.new t.dj t.g hb (orel_new hb (repL_rep t' _)))⟩
        | _ => exact h.elim
      · exact h.elim
    | _ => exact h.elim
end

abbrev RM3 := D → List D → Gp → (D → Gp → Prop) → Prop
abbrev RML3 := D → List D → Gp → (List D → Gp → Prop) → Prop
/-- the kind of a receiver -/
inductive Mk where
  | str | lst | tup | dic
deriving DecidableEq
def Mk.s : Mk → String
  | .str => "str" | .lst => "list" | .tup => "tuple" | .dic => "dict"
def mkOf (G : Gp) : D → Option Mk
  | .str _ => some .str
  | .tup _ => some .tup
  | .lst _ => some .lst
  | .ref a => (match G a with
    | some (.lst _) => some .lst
    | some (.dic _) => some .dic
    | _ => none)
  | _ => none
/-- a method by its kind and name -/
structure MtE (X : Cx) (T : String) (name : Str) (r : V → List V → Hp → VK → Prop) : Prop where
  ex : ∃ id, PlainAttrs T ∧ Slot T name id ∧ typeOf (.builtin id) = pure (.type "method_descriptor") ∧ MtR X id r
theorem mk_is {X : Cx} {pins : List (Addr × Obj)} {σ : St} {H : Hp} {s : Shared} {F G : Gp} {x : D} {v : V} {u : Value} {k : Mk} (I : Inv X pins σ H s) (t : At X.K F G H) (h : mkOf G x = some k) (r : Rep X.K (jn G F) H x v) (rv : RelV v u) :
    s.TypeIs u k.s ∧ ∀ a, u = .ref a → ∃ ob, s.heap.get? a = some ob ∧ ob.dict = none := by
  have lst : ∀ {p : Addr} {xs : List V}, v = .ref p → SqL X.K H p xs → s.TypeIs u "list" ∧ ∀ a, u = .ref a → ∃ ob, s.heap.get? a = some ob ∧ ob.dict = none := fun {p xs} e q => by
    rw [e] at rv
    exact tyV_is I rv (T := "list") (.inl ⟨rfl, xs, q⟩)
  cases x with
  | str z => cases h; rw [rep_str r] at rv; exact tyV_is I rv (T := "str") rfl
  | tup l =>
    cases h
    simp only [Rep] at r
    obtain ⟨p, xs, e, q, _⟩ := r
    rw [e] at rv
    cases rv
    rcases q with ⟨_, o, q, hd⟩ | ⟨o, its, n, q, c, hd, _⟩
    · obtain ⟨e0, _, its, rv, o', h1, h2, _⟩ := (show ObjOk X.prog X.w H s.heap p (.frz o (.tup xs)) from I.hok p _ q)
      refine ⟨⟨o', h1, h2⟩, fun a ea => ?_⟩
      cases ea
      exact ⟨o, e0, hd⟩
    · refine ⟨⟨o, I.kIn _ _ q, c⟩, fun a ea => ?_⟩
      cases ea
      exact ⟨o, I.kIn _ _ q, hd⟩
  | lst l =>
    cases h
    obtain ⟨p, xs, e, q, _⟩ := r.lstSq
    exact lst e q
  | ref a =>
    simp only [mkOf] at h
    split at h
    · rename_i ds e
      cases h
      obtain ⟨xs, q, _⟩ := at_list t e
      exact lst (rep_ref r) (SqL.of q)
    · rename_i ds e
      cases h
      obtain ⟨xs, q, _⟩ := at_dic t e
      rw [rep_ref r] at rv
      exact tyV_is I rv (T := "dict") (.inr (.inr (.inl ⟨rfl, .inl ⟨_, q⟩⟩)))
    · cases h
  | _ => cases h
def tMt3 (rm : Mk → Option RM3) (to : TE3) (ta : TA3) : TE3 := fun σ G E Q => to σ G E fun x G1 => match mkOf G1 x with
  | some k => (match rm k with
    | some r => ta σ G1 E fun ds G2 => r x ds G2 Q
    | none => False)
  | none => False
def tMtL3 (rm : Mk → Option RML3) (to : TE3) (ta : TA3) : TA3 := fun σ G E Q => to σ G E fun x G1 => match mkOf G1 x with
  | some k => (match rm k with
    | some r => ta σ G1 E fun ds G2 => r x ds G2 Q
    | none => False)
  | none => False
section
variable {X : Cx} {o e : Expr} {es : List Expr} {name : Str} {apos cpos : Pos} {to : TE3} {ta : TA3}
/-- the step of a method call, by what happens behind the receiver -/
theorem pe_mtd {to : TE} {q2 : V → St → Hp → VK → Prop} (ho : PE X o to)
    (hq : ∀ pins s σ H v u Q, Inv X pins σ H s → RelV v u → q2 v σ H Q → ∃ T id, PlainAttrs T ∧ Slot T name id ∧ typeOf (.builtin id) = pure (.type "method_descriptor") ∧ s.TypeIs u T ∧ (∀ a, u = .ref a → ∃ ob, s.heap.get? a = some ob ∧ ob.dict = none) ∧ ∃ (t : TA) (r : V → List V → Hp → VK → Prop), PA X (e :: es) t ∧ MtR X id r ∧ t σ H (fun vs H1 => r v vs H1 Q))
    (hbase : attributeBase o name X.env (eval o X.env) = eval o X.env)
    (hfew : ((backTo cpos (starEach (e :: es) X.env)).all (fun x => !x.1) && (backToKw cpos (keywordEach [] X.env)).all (fun x => x.1.isSome)
      && decide ((e :: es).length + ([] : List Keyword).length + (if ([] : List Keyword).isEmpty then 0 else 1) < 30)) = true)
    (hline : (apos.endLine == cpos.line) = true) (hs : starEach (e :: es) X.env = (false, eval e X.env) :: starEach es X.env) (hplain : (backTo cpos (starEach es X.env)).any (·.1) = false) :
    PE X (.Call (.Attribute o name apos) (e :: es) [] cpos) (fun σ H Q => to σ H fun v H1 => q2 v σ H1 Q) := by
  refine ⟨fun pins s σ H Q I h => ?_⟩
  refine wpAny_Call_method_late hbase hfew hline rfl (thn (ho.run pins s σ H _ I h) fun v s1 ⟨x, H1, I1, r1, q1⟩ => ?_)
  obtain ⟨T, id, pa, slot, ty, h1, h2, t, r, ha, hm, q⟩ := hq pins s1 σ H1 x v Q I1 r1 q1
  refine ⟨T, id, pa, slot, ty, h1, h2, ?_⟩
  have hA := ha.run cpos pins s1 σ H1 _ I1 q
  rw [hs] at hA ⊢
  refine Calls.callWith_builtin (by show (false || (backTo cpos (starEach es X.env)).any (·.1)) = false; rw [hplain] <;> rfl) (Calls.evalArgs_plain ?_)
  exact thn hA fun us s2 ⟨vs, H2, I2, r2, q2⟩ => hm pins s2 σ H2 x vs v us Q I2 r1 r2 q2
theorem pe_mtd0 {to : TE} {q2 : V → St → Hp → VK → Prop} (ho : PE X o to)
    (hq : ∀ pins s σ H v u Q, Inv X pins σ H s → RelV v u → q2 v σ H Q → ∃ T id, PlainAttrs T ∧ Slot T name id ∧ typeOf (.builtin id) = pure (.type "method_descriptor") ∧ s.TypeIs u T ∧ (∀ a, u = .ref a → ∃ ob, s.heap.get? a = some ob ∧ ob.dict = none) ∧ ∃ (r : V → List V → Hp → VK → Prop), MtR X id r ∧ r v [] H Q)
    (hbase : attributeBase o name X.env (eval o X.env) = eval o X.env) (hline : (apos.endLine == cpos.line) = true) :
    PE X (.Call (.Attribute o name apos) [] [] cpos) (fun σ H Q => to σ H fun v H1 => q2 v σ H1 Q) := by
  refine ⟨fun pins s σ H Q I h => ?_⟩
  refine wpAny_Call_method0_late hbase hline (thn (ho.run pins s σ H _ I h) fun v s1 ⟨x, H1, I1, r1, q1⟩ => ?_)
  obtain ⟨T, id, pa, slot, ty, h1, h2, r, hm, q⟩ := hq pins s1 σ H1 x v Q I1 r1 q1
  exact ⟨T, id, pa, slot, ty, h1, h2, Calls.callWith_builtin rfl (PySem.evalArgs_none (hm pins s1 σ H1 x [] v [] Q I1 r1 .nil q))⟩
theorem pe3_mt {rm : Mk → Option RM3} (hm : ∀ k r, rm k = some r → MtE X k.s name (liftM X.K r)) (ho : PE3 X o to) (ha : PA3 X (e :: es) ta) (hbase : attributeBase o name X.env (eval o X.env) = eval o X.env)
    (hfew : ((backTo cpos (starEach (e :: es) X.env)).all (fun x => !x.1) && (backToKw cpos (keywordEach [] X.env)).all (fun x => x.1.isSome)
      && decide ((e :: es).length + ([] : List Keyword).length + (if ([] : List Keyword).isEmpty then 0 else 1) < 30)) = true)
    (hline : (apos.endLine == cpos.line) = true) (hs : starEach (e :: es) X.env = (false, eval e X.env) :: starEach es X.env) (hplain : (backTo cpos (starEach es X.env)).any (·.1) = false) : PE3 X (.Call (.Attribute o name apos) (e :: es) [] cpos) (tMt3 rm to ta) := fun W tk =>
  PE.imp (pe_mtd (q2 := (fun v σ H Q => ∃ x σ3 G F E3 Q3, Rel X.K F σ3 G σ H ∧ Rep X.K (jn G F) H x v ∧ PostX X.K F G H E3 (fun c d H' => W c d σ H') ∧ Post X.K F G H Q3 Q ∧ ∃ k r, mkOf G x = some k ∧ rm k = some r ∧ ta σ3 G E3 fun ds G2 => r x ds G2 Q3)) (ho W tk)
    (fun pins s σ H v u Q I rv ⟨x, σ3, G, F, E3, Q3, r, rx, px, p, k, rr, hk, hr, h⟩ => by
      obtain ⟨id, pa, sl, ty, mt⟩ := (hm k rr hr).ex
      obtain ⟨h1, h2⟩ := mk_is I r.at hk rx rv
      exact ⟨k.s, id, pa, sl, ty, h1, h2, _, _, ha W tk, mt, σ3, G, F, E3, _, r, h, px, fun ds G1 hd vs H1 f1 rvs => ⟨x, ds, G1, F, Q3, f1.at, f1.rep rx, rvs, hd, p.tr f1⟩⟩) hbase hfew hline hs hplain)
  fun σ H Q ⟨σ3, G, F, E3, Q3, r, h, px, p⟩ => ⟨σ3, G, F, E3, _, r, h, px, fun x G1 hx v H1 f1 rv => by
    simp only at hx
    split at hx
    · rename_i k hk
      split at hx
      · rename_i rr hr
        exact ⟨x, σ3, G1, F, E3, Q3, r.tr f1, rv, px.tr f1, p.tr f1, k, rr, hk, hr, hx⟩
      · exact hx.elim
    · exact hx.elim⟩
theorem pe3_mt0 {rm : Mk → Option RM3} (hm : ∀ k r, rm k = some r → MtE X k.s name (liftM X.K r)) (ho : PE3 X o to) (hbase : attributeBase o name X.env (eval o X.env) = eval o X.env)
    (hline : (apos.endLine == cpos.line) = true) : PE3 X (.Call (.Attribute o name apos) [] [] cpos) (tMt3 rm to tNil3) := fun W tk =>
  PE.imp (pe_mtd0 (q2 := (fun v σ H Q => ∃ x σ3 G F E3 Q3, Rel X.K F σ3 G σ H ∧ Rep X.K (jn G F) H x v ∧ PostX X.K F G H E3 (fun c d H' => W c d σ H') ∧ Post X.K F G H Q3 Q ∧ ∃ k r, mkOf G x = some k ∧ rm k = some r ∧ tNil3 σ3 G E3 fun ds G2 => r x ds G2 Q3)) (ho W tk)
    (fun pins s σ H v u Q I rv ⟨x, σ3, G, F, E3, Q3, r, rx, px, p, k, rr, hk, hr, h⟩ => by
      obtain ⟨id, pa, sl, ty, mt⟩ := (hm k rr hr).ex
      obtain ⟨h1, h2⟩ := mk_is I r.at hk rx rv
      exact ⟨k.s, id, pa, sl, ty, h1, h2, _, mt, x, [], G, F, Q3, r.at, rx, .nil, h, p⟩) hbase hline)
  fun σ H Q ⟨σ3, G, F, E3, Q3, r, h, px, p⟩ => ⟨σ3, G, F, E3, _, r, h, px, fun x G1 hx v H1 f1 rv => by
    simp only at hx
    split at hx
    · rename_i k hk
      split at hx
      · rename_i rr hr
        exact ⟨x, σ3, G1, F, E3, Q3, r.tr f1, rv, px.tr f1, p.tr f1, k, rr, hk, hr, hx⟩
      · exact hx.elim
    · exact hx.elim⟩
theorem pl3_mt {rm : Mk → Option RML3} (hm : ∀ k r, rm k = some r → MtE X k.s name (liftML X.K r)) (ho : PE3 X o to) (ha : PA3 X (e :: es) ta) (hbase : attributeBase o name X.env (eval o X.env) = eval o X.env)
    (hfew : ((backTo cpos (starEach (e :: es) X.env)).all (fun x => !x.1) && (backToKw cpos (keywordEach [] X.env)).all (fun x => x.1.isSome)
      && decide ((e :: es).length + ([] : List Keyword).length + (if ([] : List Keyword).isEmpty then 0 else 1) < 30)) = true)
    (hline : (apos.endLine == cpos.line) = true) (hs : starEach (e :: es) X.env = (false, eval e X.env) :: starEach es X.env) (hplain : (backTo cpos (starEach es X.env)).any (·.1) = false) : PL3 X (.Call (.Attribute o name apos) (e :: es) [] cpos) (tMtL3 rm to ta) := fun W tk =>
  PE.imp (pe_mtd (q2 := (fun v σ H Q => ∃ x σ3 G F E3 Q3, Rel X.K F σ3 G σ H ∧ Rep X.K (jn G F) H x v ∧ PostX X.K F G H E3 (fun c d H' => W c d σ H') ∧ PostL X.K F G H Q3 Q ∧ ∃ k r, mkOf G x = some k ∧ rm k = some r ∧ ta σ3 G E3 fun ds G2 => r x ds G2 Q3)) (ho W tk)
    (fun pins s σ H v u Q I rv ⟨x, σ3, G, F, E3, Q3, r, rx, px, p, k, rr, hk, hr, h⟩ => by
      obtain ⟨id, pa, sl, ty, mt⟩ := (hm k rr hr).ex
      obtain ⟨h1, h2⟩ := mk_is I r.at hk rx rv
      exact ⟨k.s, id, pa, sl, ty, h1, h2, _, _, ha W tk, mt, σ3, G, F, E3, _, r, h, px, fun ds G1 hd vs H1 f1 rvs => ⟨x, ds, G1, F, Q3, f1.at, f1.rep rx, rvs, hd, p.tr f1⟩⟩) hbase hfew hline hs hplain)
  fun σ H Q ⟨σ3, G, F, E3, Q3, r, h, px, p⟩ => ⟨σ3, G, F, E3, _, r, h, px, fun x G1 hx v H1 f1 rv => by
    simp only at hx
    split at hx
    · rename_i k hk
      split at hx
      · rename_i rr hr
        exact ⟨x, σ3, G1, F, E3, Q3, r.tr f1, rv, px.tr f1, p.tr f1, k, rr, hk, hr, hx⟩
      · exact hx.elim
    · exact hx.elim⟩
theorem pl3_mt0 {rm : Mk → Option RML3} (hm : ∀ k r, rm k = some r → MtE X k.s name (liftML X.K r)) (ho : PE3 X o to) (hbase : attributeBase o name X.env (eval o X.env) = eval o X.env)
    (hline : (apos.endLine == cpos.line) = true) : PL3 X (.Call (.Attribute o name apos) [] [] cpos) (tMtL3 rm to tNil3) := fun W tk =>
  PE.imp (pe_mtd0 (q2 := (fun v σ H Q => ∃ x σ3 G F E3 Q3, Rel X.K F σ3 G σ H ∧ Rep X.K (jn G F) H x v ∧ PostX X.K F G H E3 (fun c d H' => W c d σ H') ∧ PostL X.K F G H Q3 Q ∧ ∃ k r, mkOf G x = some k ∧ rm k = some r ∧ tNil3 σ3 G E3 fun ds G2 => r x ds G2 Q3)) (ho W tk)
    (fun pins s σ H v u Q I rv ⟨x, σ3, G, F, E3, Q3, r, rx, px, p, k, rr, hk, hr, h⟩ => by
      obtain ⟨id, pa, sl, ty, mt⟩ := (hm k rr hr).ex
      obtain ⟨h1, h2⟩ := mk_is I r.at hk rx rv
      exact ⟨k.s, id, pa, sl, ty, h1, h2, _, mt, x, [], G, F, Q3, r.at, rx, .nil, h, p⟩) hbase hline)
  fun σ H Q ⟨σ3, G, F, E3, Q3, r, h, px, p⟩ => ⟨σ3, G, F, E3, _, r, h, px, fun x G1 hx v H1 f1 rv => by
    simp only at hx
    split at hx
    · rename_i k hk
      split at hx
      · rename_i rr hr
        exact ⟨x, σ3, G1, F, E3, Q3, r.tr f1, rv, px.tr f1, p.tr f1, k, rr, hk, hr, hx⟩
      · exact hx.elim
    · exact hx.elim⟩
end

/-- a tracked list becomes another -/
def mLst (f : List D → List D → Gp → (List D → D → Prop) → Prop) : RM3 := fun x vs G Q => match x with
  | .ref a => (match G a with
    | some (.lst l) => f l vs G fun l' y => Q y (gup G a (.lst l'))
    | _ => False)
  | _ => False
theorem mLst_step {K : PySem.W.Frag} {f : List D → List D → Gp → (List D → D → Prop) → Prop} {v : V} {us : List V} {H : Hp} {Q : VK} (h : liftM K (mLst f) v us H Q) : ∃ (a : Addr) (l vs : List D) (xs : List V) (G F : Gp) (R : List D → D → Prop), v = .ref a ∧ H a = some (.lst xs) ∧ RepL K (jn G F) H l xs ∧ RepL K (jn G F) H vs us ∧ At K F G H ∧ f l vs G R ∧
    ∀ l' xs' y u, R l' y → RepL K (jn G F) H l' xs' → Rep K (jn G F) H y u → Q u (upd H a (.lst xs')) := by
  obtain ⟨x, ds, G, F, Q3, t, rx, rs, h, p⟩ := h
  cases x with
  | ref a =>
    simp only [mLst] at h
    split at h
    · rename_i l e
      obtain ⟨xs, q, t'⟩ := at_list t e
      refine ⟨a, l, ds, xs, G, F, _, rep_ref rx, q, t', rs, t, h, fun l' xs' y u hr r1 r2 => ?_⟩
      have ff : Fr (jn G F) H (gup (jn G F) a (.lst l')) (upd H a (.lst xs')) := Fr.set (jn_some e)
      refine p _ _ hr _ _ (.set t.dj t.g e ⟨_, upd_same, r1.fr ff⟩) ?_
      rw [jn_gup]
      exact r2.fr ff
    · exact h.elim
  | _ => exact h.elim
def mAppend : RM3 := mLst fun l vs G R => match vs with
  | [y] => l.length < sizeLine ∧ R (l ++ [y]) .non
  | _ => False
def mExtend : RM3 := mLst fun l vs G R => match vs with
  | [y] => (match lstOf G y with
    | some m => l.length + m.length ≤ sizeLine ∧ R (l ++ m) .non
    | none => False)
  | _ => False
def mPop : RM3 := mLst fun l vs G R => match vs with
  | [] => (match l.getLast? with
    | some y => R l.dropLast y
    | none => False)
  | [.int i] => -(2 ^ 63) ≤ i ∧ i < 2 ^ 63 ∧ (match seqIndex? i l.length with
    | some k => (match l[k]? with
      | some y => R (l.eraseIdx k) y
      | none => False)
    | none => False)
  | _ => False
def mClear : RM3 := mLst fun l vs G R => match vs with
  | [] => R [] .non
  | _ => False
def mReverse : RM3 := mLst fun l vs G R => match vs with
  | [] => R l.reverse .non
  | _ => False
section
variable {X : Cx}
theorem rep_nonV {K : PySem.W.Frag} {G : Gp} {H : Hp} : Rep K G H .non .non := by simp only [Rep]
theorem mt3_append : MtR X "list.append" (liftM X.K mAppend) :=
  MtR.imp mt_append fun v us H Q h => by
    obtain ⟨a, l, vs, xs, G, F, R, e, q, r, rs, t, h, p⟩ := mLst_step h
    split at h
    · obtain ⟨u, e2, r2⟩ := repL_one rs
      exact ⟨a, xs, u, e, e2, q, by rw [← r.length]; exact h.1, p _ _ _ _ h.2 (r.append (.cons r2 .nil)) rep_nonV⟩
    · exact h.elim
theorem mt3_clear : MtR X "list.clear" (liftM X.K mClear) :=
  MtR.imp mt_clear fun v us H Q h => by
    obtain ⟨a, l, vs, xs, G, F, R, e, q, r, rs, t, h, p⟩ := mLst_step h
    split at h
    · exact ⟨a, xs, e, repL_nil rs, q, p _ _ _ _ h .nil rep_nonV⟩
    · exact h.elim
theorem mt3_reverse : MtR X "list.reverse" (liftM X.K mReverse) :=
  MtR.imp mt_reverse fun v us H Q h => by
    obtain ⟨a, l, vs, xs, G, F, R, e, q, r, rs, t, h, p⟩ := mLst_step h
    split at h
    · exact ⟨a, xs, e, repL_nil rs, q, p _ _ _ _ h r.reverse rep_nonV⟩
    · exact h.elim
theorem mt3_pop : MtR X "list.pop" (liftM X.K mPop) :=
  MtR.imp (MtR.or3 mt_pop mt_popAt) fun v us H Q h => by
    obtain ⟨a, l, vs, xs, G, F, R, e, q, r, rs, t, h, p⟩ := mLst_step h
    split at h
    · split at h
      · rename_i y hy
        rw [List.getLast?_eq_getElem?] at hy
        obtain ⟨w, h1, h2⟩ := r.get hy
        exact .inl ⟨a, xs, w, e, repL_nil rs, q, by rw [← r.length]; exact h1, p _ _ _ _ h r.dropLast h2⟩
      · exact h.elim
    · rename_i i
      obtain ⟨u, e2, r2⟩ := repL_one rs
      obtain ⟨h1, h2, h⟩ := h
      split at h
      · rename_i k hk
        split at h
        · rename_i y hy
          obtain ⟨w, h3, h4⟩ := r.get hy
          exact .inr ⟨a, xs, i, k, w, e, by rw [e2, rep_int r2], q, h1, h2, by rw [← r.length]; exact hk, h3, p _ _ _ _ h (r.eraseIdx k) h4⟩
        · exact h.elim
      · exact h.elim
    · exact h.elim
theorem mt_extendRd : MtR X "list.extend" (fun x vs H Q => ∃ l b xs zs, x = .ref l ∧ vs = [.ref b] ∧ H l = some (.lst xs) ∧ LsX X.K H b zs ∧ xs.length + zs.length ≤ sizeLine ∧ Q .non (upd H l (.lst (xs ++ zs)))) := by
  intro pins s σ H x vs v us Q I rx rv h
  obtain ⟨l, b, xs, zs, rfl, rfl, hH, hB, hz, q⟩ := h
  cases rx
  obtain ⟨u, rfl, ru⟩ := rv.one
  cases ru
  obtain ⟨z, its, n, r, hl, e⟩ := I.lstM hH
  have z2 : ∃ (its2 : List Value) (n2 : Nat), Vals zs its2 ∧ zs.length = its2.length ∧ s.heap.get? b = some { cls := .type "list", data := .seq its2.toArray n2 } := by
    rcases hB with (hB | ⟨o, hB⟩) | ⟨its, n, q, _, rv⟩
    · obtain ⟨_, its2, n2, r2, hl2, e2⟩ := I.lstM hB
      exact ⟨its2, n2, r2, hl2, e2⟩
    · obtain ⟨e0, _, its2, n2, r2, e2⟩ := (show ObjOk X.prog X.w H s.heap b (.frz o (.lst zs)) from I.hok b _ hB)
      exact ⟨its2, n2, r2, r2.length, e2⟩
    · exact ⟨its.toList, n, rv, rv.length, I.kIn _ _ q⟩
  obtain ⟨its2, n2, r2, hl2, e2⟩ := z2
  have hsz : its.toArray.size + its2.toArray.size ≤ sizeLine := by rw [List.size_toArray, List.size_toArray]; omega
  have hlong : ¬ (!its.toArray.isEmpty && Builtin.List.listTooLong (its.toArray.size + its2.toArray.size)) = true := by
    rw [notLongL hsz, Bool.and_false]
    exact Bool.false_ne_true
  refine call_meets F.slot_list_extend ⟨_, e, rfl⟩ F.entry_list_extend (F.args_list_extend_2 _ _)
    (AutoSeq1.list_extend_list_list_0 l its.toArray n b its2.toArray n2 hlong (by simp only [List.size_toArray]; omega) (by simp only [List.size_toArray]; omega)) ⟨e, e2, ?_⟩
  refine ⟨.non, _, I.lset (its' := its ++ its2) hH e (by simp) (r.append r2) ?_, rfl, q⟩
  rw [List.length_append]
  omega
theorem mt3_extend : MtR X "list.extend" (liftM X.K mExtend) :=
  MtR.imp mt_extendRd fun v us H Q h => by
    obtain ⟨a, l, vs, xs, G, F, R, e, q, r, rs, t, h, p⟩ := mLst_step h
    split at h
    · split at h
      · rename_i m hm
        obtain ⟨u, e2, r2⟩ := repL_one rs
        obtain ⟨b, ys, e3, q3, r3⟩ := lstOf_sq t hm r2
        exact ⟨a, b, xs, ys, e, by rw [e2, e3], q, q3, by rw [← r.length, ← r3.length]; exact h.1, p _ _ _ _ h.2 (r.append r3) rep_nonV⟩
      · exact h.elim
    · exact h.elim
end
def mtab (name : Str) (k : Mk) : Option RM3 := match k with
  | .lst => if name = "append" then some mAppend else if name = "extend" then some mExtend else if name = "pop" then some mPop else if name = "clear" then some mClear else if name = "reverse" then some mReverse else none
  | _ => none
theorem mtab_ok {X : Cx} {name : Str} {k : Mk} {r : RM3} (h : mtab name k = some r) : MtE X k.s name (liftM X.K r) := by
  cases k with
  | lst =>
    simp only [mtab] at h
    split at h
    · rename_i e; cases h; subst e; exact ⟨_, F.plainAttrs_list, F.slot_list_append, F.type_list_append, mt3_append⟩
    · split at h
      · rename_i e; cases h; subst e; exact ⟨_, F.plainAttrs_list, F.slot_list_extend, F.type_list_extend, mt3_extend⟩
      · split at h
        · rename_i e; cases h; subst e; exact ⟨_, F.plainAttrs_list, F.slot_list_pop, F.type_list_pop, mt3_pop⟩
        · split at h
          · rename_i e; cases h; subst e; exact ⟨_, F.plainAttrs_list, F.slot_list_clear, F.type_list_clear, mt3_clear⟩
          · split at h
            · rename_i e; cases h; subst e; exact ⟨_, F.plainAttrs_list, F.slot_list_reverse, F.type_list_reverse, mt3_reverse⟩
            · cases h
  | _ => cases h
end L3
namespace L3
open PySem PySem.Spec PyProof.Rows L2

section
variable {X : Cx} {pins : List (Addr × Obj)} {σ : St} {H : Hp} {s : Shared} {G : Gp}
mutual
theorem nested_of (I : Inv X pins σ H s) : ∀ {d : D} {v : V} {u : Value} {k : NestedKey}, nkey d = some k → Rep X.K G H d v → RelV v u → NestedIs s.heap k u
  | .non, v, u, k, h, r, rv => by
    cases h; rw [rep_non r] at rv; cases (show u = Value.none from rv); exact .none
  | .bl b, v, u, k, h, r, rv => by
    simp only [nkey, Option.some.injEq] at h
    subst h
    rw [rep_bl r] at rv; cases (show u = Value.bool b from rv); exact .bool rfl
  | .int i, v, u, k, h, r, rv => by
    cases h; rw [rep_int r] at rv; obtain ⟨t, e⟩ := (show ∃ t, u = Value.int i t from rv); rw [e]; exact .int i t
  | .str i, v, u, k, h, r, rv => by
    cases h; rw [rep_str r] at rv; obtain ⟨t, e⟩ := (show ∃ t, u = Value.str i t from rv); rw [e]; exact .text i t
  | .tup l, v, u, k, h, r, rv => by
    simp only [nkey] at h
    cases q : nkeys l with
    | none => rw [q] at h; cases h
    | some ks =>
      rw [q] at h
      have h := Option.some.inj h
      subst h
      obtain ⟨a, xs, e, hq, t⟩ := r.tupSq
      rw [e] at rv
      cases rv
      obtain ⟨its, rvs, p, _⟩ := I.tuple hq
      obtain ⟨o, ho, hc, n, hd⟩ := p
      exact .tup ho hc hd (nesteds_of I q t rvs)
  | .lst _, v, u, k, h, r, rv => by cases h
  | .ref _, v, u, k, h, r, rv => by cases h
  | .ty _, v, u, k, h, r, rv => by cases h
theorem nesteds_of (I : Inv X pins σ H s) : ∀ {ds : List D} {vs : List V} {us : List Value} {ks : List NestedKey}, nkeys ds = some ks → RepL X.K G H ds vs → Vals vs us → NestedAll s.heap ks us
  | [], vs, us, ks, h, r, rv => by
    cases h
    rw [repL_nil r] at rv
    cases rv
    exact .nil
  | d :: ds, vs, us, ks, h, r, rv => by
    simp only [nkeys] at h
    cases q : nkey d with
    | none => rw [q] at h; cases h
    | some k =>
      rw [q] at h
      cases q2 : nkeys ds with
      | none => rw [q2] at h; cases h
      | some ks' =>
        rw [q2] at h
        have h := Option.some.inj h
        subst h
        obtain ⟨v, w, e, r1, r2⟩ := repL_cons r
        rw [e] at rv
        cases rv with
        | cons a b => exact .cons (nested_of I q r1 a) (nesteds_of I q2 r2 b)
end
end
def dnVal (kvs : List (D × D)) (k : NestedKey) : Option D := (kvs.find? fun kv => decide (nkey kv.1 = some k)).map (·.2)
def dnPut (kvs : List (D × D)) (x : D) (k : NestedKey) (v : D) : List (D × D) :=
  if (dnVal kvs k).isSome then kvs.map fun kv => if nkey kv.1 = some k then (kv.1, v) else kv else kvs ++ [(x, v)]
theorem dnAll_len {K : PySem.W.Frag} {G : Gp} {H : Hp} : ∀ {kvs : List (D × D)} {xs : List (NestedKey × Addr × Value)}, DnAll K G H kvs xs → kvs.length = xs.length
  | [], _, h => by
    have h : _ = [] := h
    rw [h]
    all_goals rfl
  | kv :: r, _, ⟨k, b, u, ys, v, e, h1, h2, h3, h4, h5, h6⟩ => by rw [e]; simp [dnAll_len h6]
theorem dnAll_at {K : PySem.W.Frag} {G : Gp} {H : Hp} (k : NestedKey) : ∀ {kvs : List (D × D)} {xs : List (NestedKey × Addr × Value)}, DnAll K G H kvs xs → (dnVal kvs k = none ∧ atKey xs k = none) ∨ ∃ d b u v, dnVal kvs k = some d ∧ atKey xs k = some (b, u) ∧ RelV v u ∧ Rep K G H d v
  | [], xs, h => by
    have h : xs = [] := h
    rw [h]
    exact .inl ⟨rfl, rfl⟩
  | kv :: r, _, ⟨k', b, u, ys, v, e, h1, h2, h3, h4, h5, h6⟩ => by
    rw [e]
    by_cases hk : k' = k
    · subst hk
      exact .inr ⟨kv.2, b, u, v, by simp [dnVal, h1], by simp [atKey], h4, h5⟩
    · have e1 : dnVal (kv :: r) k = dnVal r k := by
        unfold dnVal
        rw [List.find?_cons, h1]
        simp [hk]
      have e2 : atKey ((k', b, u) :: ys) k = atKey ys k := by simp [atKey, hk]
      rw [e1, e2]
      exact dnAll_at k h6
theorem dnAll_map {K : PySem.W.Frag} {G : Gp} {H : Hp} (k : NestedKey) {d : D} {v : V} {u : Value} (rv : RelV v u) (r : Rep K G H d v) : ∀ {kvs : List (D × D)} {xs : List (NestedKey × Addr × Value)}, DnAll K G H kvs xs → DnAll K G H (kvs.map fun kv => if nkey kv.1 = some k then (kv.1, d) else kv) (xs.map (putAt k u))
  | [], xs, h => by
    have h : xs = [] := h
    rw [h]
    exact rfl
  | kv :: r', _, ⟨k', b, u', ys, v', e, h1, h2, h3, h4, h5, h6⟩ => by
    rw [e, List.map_cons, List.map_cons]
    have ih := dnAll_map k rv r h6
    by_cases hk : k' = k
    · subst hk
      rw [if_pos h1]
      exact ⟨k', b, u, _, v, by simp [putAt], h1, h2, h3, rv, r, ih⟩
    · rw [if_neg (by rw [h1]; simpa using hk)]
      exact ⟨k', b, u', _, v', by simp [putAt, hk], h1, h2, h3, h4, h5, ih⟩
theorem dnAll_app {K : PySem.W.Frag} {G : Gp} {H : Hp} : ∀ {kvs lvs : List (D × D)} {xs ys : List (NestedKey × Addr × Value)}, DnAll K G H kvs xs → DnAll K G H lvs ys → DnAll K G H (kvs ++ lvs) (xs ++ ys)
  | [], _, xs, _, h, t => by
    have h : xs = [] := h
    rw [h]
    exact t
  | kv :: r', _, _, _, ⟨k', b, u', ys, v', e, h1, h2, h3, h4, h5, h6⟩, t => by
    rw [e]
    exact ⟨k', b, u', _, v', rfl, h1, h2, h3, h4, h5, dnAll_app h6 t⟩
theorem dnAll_put {K : PySem.W.Frag} {G : Gp} {H : Hp} {kvs : List (D × D)} {xs : List (NestedKey × Addr × Value)} {x d : D} {k : NestedKey} {b : Addr} {v : V} {u : Value} (h : DnAll K G H kvs xs) (hk : nkey x = some k) (hd : k.depth ≤ 8) (rx : Rep K G H x (.ref b)) (rv : RelV v u) (r : Rep K G H d v) : DnAll K G H (dnPut kvs x k d) (storedH xs k b u) := by
  unfold dnPut storedH
  have e : (dnVal kvs k).isSome = (atKey xs k).isSome := by
    rcases dnAll_at k h with ⟨e1, e2⟩ | ⟨_, _, _, _, e1, e2, _⟩
    · rw [e1, e2]; rfl
    · rw [e1, e2]; rfl
  rw [e]
  split
  · exact dnAll_map k rv r h
  · exact dnAll_app h ⟨k, b, u, [], v, rfl, hk, hd, rx, rv, r, rfl⟩
theorem at_dn {K : PySem.W.Frag} {F G : Gp} {H : Hp} (t : At K F G H) {a : Addr} {w : World} {kvs : List (D × D)} (h : G a = some (.dn w kvs)) : ∃ es ep xs, H a = some (.ext (dnPhi a es ep)) ∧ es.toList = xs.map (dnEnt w) ∧ (xs.map (·.1)).Nodup ∧ DnAll K (jn G F) H kvs xs := t.g a _ (jn_some h)
section
variable {X : Cx} {pins : List (Addr × Obj)} {σ : St} {H : Hp} {s : Shared} {G F : Gp} {a : Addr}
theorem dn_is {T : Gp} (I : Inv X pins σ H s) : ∀ {kvs : List (D × D)} {xs : List (NestedKey × Addr × Value)}, DnAll X.K T H kvs xs → ∀ x ∈ xs, (nestedKind X.prog X.w).is s.heap x.1 x.2.1
  | [], xs, h, x, hx => by
    have h : xs = [] := h
    rw [h] at hx
    cases hx
  | kv :: r, _, ⟨k, b, u, ys, v, e, h1, h2, h3, h4, h5, h6⟩, x, hx => by
    rw [e] at hx
    rcases List.mem_cons.mp hx with z | z
    · subst z
      exact ⟨nested_of I h1 h3 rfl, h2⟩
    · exact dn_is I h6 x z
theorem dn_rd (I : Inv X pins σ H s) (t : At X.K F G H) {kvs : List (D × D)} (h : G a = some (.dn X.w kvs)) : ∃ xs, (a == sysModules) = false ∧ s.heap.DictOfH (nestedKind X.prog X.w) a xs ∧ DnAll X.K (jn G F) H kvs xs ∧ ∃ es ep, H a = some (.ext (dnPhi a es ep)) := by
  obtain ⟨es, ep, xs, e, h1, h2, h3⟩ := at_dn t h
  obtain ⟨⟨hs, o, ho, hx, hd⟩, _, _⟩ := I.hok a _ e
  exact ⟨xs, hs, ⟨o, es, ep, ho, hx, hd, h1, dn_is I h3, h2⟩, h3, es, ep, e⟩
end
theorem phi_stay (a : Addr) (es : Array DictEntry) (ep : Nat) : ∀ h1 h2 : Heap, dnPhi a es ep h1 → (∀ o, h1.get? a = some o → h2.get? a = some o) → dnPhi a es ep h2 := fun h1 h2 ⟨hs, o, ho, r⟩ k => ⟨hs, o, k o ho, r⟩
def atDn (w : World) (x y : D) (G : Gp) (R : List (D × D) → NestedKey → Prop) : Prop := match x with
  | .ref a => (match G a with
    | some (.dn w' kvs) => w' = w ∧ (match y with
      | .tup l => (match nkey (.tup l) with
        | some k => k.depth ≤ 8 ∧ R kvs k
        | none => False)
      | _ => False)
    | _ => False)
  | _ => False
theorem atDn_step {K : PySem.W.Frag} {F G : Gp} {H : Hp} {w : World} {x y : D} {v u : V} {R : List (D × D) → NestedKey → Prop} (h : atDn w x y G R) (rx : Rep K (jn G F) H x v) (ry : Rep K (jn G F) H y u) : ∃ a kvs b k, x = .ref a ∧ v = .ref a ∧ u = .ref b ∧ G a = some (.dn w kvs) ∧ nkey y = some k ∧ k.depth ≤ 8 ∧ R kvs k := by
  unfold atDn at h
  split at h
  · rename_i a
    split at h
    · rename_i w' kvs e
      obtain ⟨ew, h⟩ := h
      subst ew
      split at h
      · rename_i l
        split at h
        · rename_i k hk
          obtain ⟨b, xs, eb, _⟩ := ry.tupSq
          exact ⟨a, kvs, b, k, rfl, rep_ref rx, eb, e, hk, h⟩
        · exact h.elim
      · exact h.elim
    · exact h.elim
  · exact h.elim
section
variable {X : Cx}
theorem room_in1 (hu : X.A.units + 64 < cLine) : (nestedKind X.prog X.w).room X.A.in1 := by
  show X.A.units + 1 + 8 < cLine
  omega
def rInN (w : World) (neg : Bool) : R3 := fun x y G Q => atDn w y x G fun kvs k => Q (.bl (bn neg (dnVal kvs k).isSome)) G
theorem op3_inN (hu : X.A.units + 64 < cLine) : Op3 X (compareOp .In) (rInN X.w false) := by
  intro pins s σ H v u iv iu Q I rv ru ⟨x, y, G, F, Q3, t, rx, ry, h, p⟩
  obtain ⟨a, kvs, b, k, ex, ev, eu, e, hk, hd, h⟩ := atDn_step h ry rx
  obtain ⟨xs, hs, dd, al, _⟩ := dn_rd I t e
  rw [ev] at ru
  cases ru
  have hkey : (nestedKind X.prog X.w).is s.heap k b := ⟨by have := nested_of I hk rx rv; rw [eu] at rv; cases rv; exact this, hd⟩
  rw [eu] at rv
  cases rv
  refine wpAny_in_heap (room_in1 hu) hkey hs dd ?_
  refine ⟨.bl (atKey xs k).isSome, H, I.tok _, rfl, p _ _ h _ _ t.tr ?_⟩
  rcases dnAll_at k al with ⟨e1, e2⟩ | ⟨_, _, _, _, e1, e2, _⟩
  · rw [e1, e2]; simp only [Rep, bn]; rfl
  · rw [e1, e2]; simp only [Rep, bn]; rfl
theorem op3_notinN (hu : X.A.units + 64 < cLine) : Op3 X (compareOp .NotIn) (rInN X.w true) := by
  intro pins s σ H v u iv iu Q I rv ru ⟨x, y, G, F, Q3, t, rx, ry, h, p⟩
  obtain ⟨a, kvs, b, k, ex, ev, eu, e, hk, hd, h⟩ := atDn_step h ry rx
  obtain ⟨xs, hs, dd, al, _⟩ := dn_rd I t e
  rw [ev] at ru
  cases ru
  have hkey : (nestedKind X.prog X.w).is s.heap k b := ⟨by have := nested_of I hk rx rv; rw [eu] at rv; cases rv; exact this, hd⟩
  rw [eu] at rv
  cases rv
  refine notIn_keyed (room_in1 hu) hkey hs ⟨xs, dd, rfl⟩ ?_
  rw [valueAt_pairsH, Option.isSome_map]
  refine ⟨.bl (!(atKey xs k).isSome), H, I.tok _, rfl, p _ _ h _ _ t.tr ?_⟩
  rcases dnAll_at k al with ⟨e1, e2⟩ | ⟨_, _, _, _, e1, e2, _⟩
  · rw [e1, e2]; simp only [Rep, bn]; rfl
  · rw [e1, e2]; simp only [Rep, bn]; rfl
def rIxN (w : World) : R3 := fun x y G Q => atDn w x y G fun kvs k => match dnVal kvs k with
  | some d => Q d G
  | none => False
theorem ix3N (hu : X.A.units + 64 < cLine) : Ix3 X (rIxN X.w) := by
  intro value slice pins s σ H v u iv iu Q I rv ru ⟨x, y, G, F, Q3, t, rx, ry, h, p⟩ hs'
  obtain ⟨a, kvs, b, k, ex, ev, eu, e, hk, hd, h⟩ := atDn_step h rx ry
  obtain ⟨xs, hs, dd, al, _⟩ := dn_rd I t e
  rw [ev] at rv
  cases rv
  have hkey : (nestedKind X.prog X.w).is s.heap k b := ⟨by have := nested_of I hk ry ru; rw [eu] at ru; cases ru; exact this, hd⟩
  rw [eu] at ru
  cases ru
  split at h
  · rename_i d hd'
    rcases dnAll_at k al with ⟨e1, e2⟩ | ⟨d', b', u', v', e1, e2, e3, e4⟩
    · rw [e1] at hd'; cases hd'
    · rw [e1] at hd'
      cases hd'
      unfold subscriptTail
      refine wpAny_bind ?_
      rw [getitemInPython_of_ne dd.typeIs.not_modules]
      refine wpAny_bind (wpAny_specialOf dd.typeIs PySem.F.slot_dict_getitem.lookup ?_)
      have fin : wpAny (model X.prog X.w) X.A (subscripted slice false (.ref a) (.ref b)) (fun r s₃ => wpAny (model X.prog X.w) X.A (letTemporaryGo value (.ref a) r >>= fun _ => pure r) (EP X pins σ Q) X.xe s₃) X.xe s := by
        rw [hs']
        refine wpAny_operating (wpAny_getItem_heap (room_in1 hu) hkey dd e2 ?_)
        exact wpAny_bind (wpAny_letTemporaryGo (wpAny_pure ⟨v', H, I.tok _, e3, p _ _ h _ _ t.tr e4⟩))
      first
        | exact wpAny_pure (wpAny_bind fin)
        | exact wpAny_bind (wpAny_pure (wpAny_bind fin))
        | exact wpAny_bind fin
  · exact h.elim
def rSetN (w : World) : D → D → D → Gp → (Gp → Prop) → Prop := fun o i v G Q => match o with
  | .ref a => atDn w o i G fun kvs k => kvs.length < sizeLine ∧ Q (gup G a (.dn w (dnPut kvs i k v)))
  | _ => False
theorem set3N (hu : X.A.units + 64 < cLine) : Set3 X (rSetN X.w) := by
  intro pins s σ H ov iv vv o i r Q I ro ri rr ⟨x, y, z, G, F, Q3, t, rx, ry, rz, h, p⟩
  cases x with
  | ref a =>
    simp only [rSetN] at h
    obtain ⟨a', kvs, b, k, ex, ev, eu, e, hk, hd, hl, h⟩ := atDn_step h rx ry
    cases ex
    obtain ⟨xs, hs, dd, al, es0, ep0, e0⟩ := dn_rd I t e
    rw [ev] at ro
    cases ro
    have hkey : (nestedKind X.prog X.w).is s.heap k b := ⟨by have := nested_of I hk ry ri; rw [eu] at ri; cases ri; exact this, hd⟩
    rw [eu] at ri
    cases ri
    refine wpAny_setItem_heap (hsz := by rw [← dnAll_len al]; omega) (room_in1 hu) hkey dd fun h' dd' sb => ?_
    obtain ⟨q, es, ep, hq, h2, h3, h4, h5, h6⟩ := dd'
    have ff : Fr (jn G F) H (gup (jn G F) a (.dn X.w (dnPut kvs y k z))) (upd H a (.ext (dnPhi a es ep))) := Fr.set (jn_some e)
    have al2 := dnAll_put al hk hd (by rw [eu] at ry; exact ry) rr rz
    have tr : Tr X.K F G H (gup G a (.dn X.w (dnPut kvs y k z))) (upd H a (.ext (dnPhi a es ep))) := .set t.dj t.g e ⟨es, ep, _, upd_same, h4, h6, al2.fr ff⟩
    refine ⟨upd H a (.ext (dnPhi a es ep)), ?_, p _ h _ tr⟩
    refine I.write (x := a) (e := a) (by rw [e0]; exact trivial) (.inl rfl) (fun b' u' hb hu' => (sb.2 b' hb).trans hu') ⟨q, hq⟩ ?_
    exact ⟨⟨hs, q, hq, h2, h3⟩, ⟨q, hq⟩, phi_stay a es ep⟩
  | _ => exact h.elim
/-- {} -/
def tDn3 (w : World) : TE3 := fun σ G E Q => ∀ a, G a = none → Q (.ref a) (gup G a (.dn w []))
theorem pe3_dn {pos : Pos} : PE3 X (.Dict [] [] pos) (tDn3 X.w) := fun W tk => ⟨fun pins s σ H Q I ⟨σ3, G, F, E3, Q3, r, h, px, p⟩ => by
  have hf : H s.heap.objs.size = none := I.hok.fresh (Nat.le_refl _)
  have hg := (jn_nn (r.g.nn hf)).1
  refine wpAny_Dict_empty ?_
  have hs : (s.heap.objs.size == sysModules) = false := beq_eq_false_iff_ne.mpr (Ne.symm (Nat.ne_of_lt I.big))
  have tr : Tr X.K F G H (gup G s.heap.objs.size (.dn X.w [])) (upd H s.heap.objs.size (.ext (dnPhi s.heap.objs.size #[] 0))) := .new r.dj r.g hf ⟨#[], 0, [], upd_same, rfl, List.nodup_nil, rfl⟩
  refine ⟨.ref s.heap.objs.size, _, I.laid (a := s.heap.objs.size) (o := .ext (dnPhi s.heap.objs.size #[] 0)) (t' := s.toks) (fun _ _ q => Heap.get?_push_of_some _ q) (Nat.le_refl _) ?_, rfl, p _ _ (h _ hg) _ _ tr (by simp only [Rep])⟩
  exact ⟨⟨hs, _, Heap.get?_push_size _ rfl, ⟨rfl, rfl, rfl⟩, rfl⟩, ⟨_, Heap.get?_push_size _ rfl⟩, phi_stay _ _ _⟩⟩
def tDk3 : TE3 := fun σ G E Q => ∀ a, G a = none → Q (.ref a) (gup G a (.dic []))
theorem pe3_dk {pos : Pos} : PE3 X (.Dict [] [] pos) tDk3 := fun W tk =>
  PE.imp pe_dnewK fun σ H Q ⟨σ3, G, F, E3, Q3, r, h, px, p⟩ => fun a ha => p _ _ (h a (jn_nn (r.g.nn ha)).1) _ _ (.new r.dj r.g ha ⟨[], upd_same, rfl, .nil⟩) (by simp only [Rep])
end
end L3
namespace L3
open PySem PySem.Spec PyProof.Rows L2

def rIte (c : D → D → Gp → Bool) (r r' : R3) : R3 := fun x y G Q => match c x y G with
  | true => r x y G Q
  | false => r' x y G Q
section
variable {X : Cx}
theorem Op3.ite {f : Value → Value → Sem Value} {c : D → D → Gp → Bool} {r r' : R3} (h : Op3 X f r) (h' : Op3 X f r') : Op3 X f (rIte c r r') :=
  OpR.imp (OpR.or h h') fun v u H Q ⟨x, y, G, F, Q3, t, rx, ry, q, p⟩ => by
    unfold rIte at q
    split at q
    · exact .inl ⟨x, y, G, F, Q3, t, rx, ry, q, p⟩
    · exact .inr ⟨x, y, G, F, Q3, t, rx, ry, q, p⟩
theorem Ix3.ite {c : D → D → Gp → Bool} {r r' : R3} (h : Ix3 X r) (h' : Ix3 X r') : Ix3 X (rIte c r r') :=
  IxR.imp (IxR.or h h') fun v u H Q ⟨x, y, G, F, Q3, t, rx, ry, q, p⟩ => by
    unfold rIte at q
    split at q
    · exact .inl ⟨x, y, G, F, Q3, t, rx, ry, q, p⟩
    · exact .inr ⟨x, y, G, F, Q3, t, rx, ry, q, p⟩
abbrev RSet3 := D → D → D → Gp → (Gp → Prop) → Prop
def sIte (c : D → Gp → Bool) (r r' : RSet3) : RSet3 := fun o i v G Q => match c o G with
  | true => r o i v G Q
  | false => r' o i v G Q
theorem Set3.ite {c : D → Gp → Bool} {r r' : RSet3} (h : Set3 X r) (h' : Set3 X r') : Set3 X (sIte c r r') :=
  PSet.imp (PSet.or h h') fun o i v H Q ⟨x, y, z, G, F, Q3, t, rx, ry, rz, q, p⟩ => by
    unfold sIte at q
    split at q
    · exact .inl ⟨x, y, z, G, F, Q3, t, rx, ry, rz, q, p⟩
    · exact .inr ⟨x, y, z, G, F, Q3, t, rx, ry, rz, q, p⟩
/-- a new list as a value -/
def rV (r : D → D → Gp → (List D → Gp → Prop) → Prop) : R3 := fun x y G Q => r x y G fun ds G' => Q (.lst ds) G'
theorem OpL3.v {f : Value → Value → Sem Value} {r : D → D → Gp → (List D → Gp → Prop) → Prop} (h : OpL3 X f r) : Op3 X f (rV r) :=
  OpR.imp h fun v u H Q ⟨x, y, G, F, Q3, t, rx, ry, q, p⟩ => ⟨x, y, G, F, fun ds G' => Q3 (.lst ds) G', t, rx, ry, q, fun ds G' hq a H' n t' => p _ _ hq _ _ (t'.sub (Sub.gup n)) (rep_lstOf n t'.dj t'.g)⟩
theorem op3_no {f : Value → Value → Sem Value} : Op3 X f (fun _ _ _ _ => False) := fun pins s σ H x y v u Q I rx ry ⟨_, _, _, _, _, _, _, _, h, _⟩ => h.elim
theorem op_repRd : OpR X (binaryOp .Mult) (fun x y H Q => ∃ l k xs, x = .ref l ∧ y = .int k ∧ LsX X.K H l xs ∧ -(2 ^ 63) ≤ k ∧ k < 2 ^ 63 ∧ xs.length * k.toNat ≤ sizeLine ∧
  ∀ p, H p = none → Q (.ref p) (upd H p (.lst (List.replicate k.toNat xs).flatten))) := by
  intro pins s σ H x y v u Q I rx ry h
  obtain ⟨l, k, xs, rfl, rfl, hH, h1, h2, hz, q⟩ := h
  cases rx
  obtain ⟨t, rfl⟩ := ry
  have z2 : ∃ (o : Obj) (its : List Value) (n : Nat), Vals xs its ∧ xs.length = its.length ∧ s.heap.get? l = some o ∧ o = { cls := .type "list", data := .seq its.toArray n } := by
    rcases hH with (hB | ⟨o, hB⟩) | ⟨its, n, q, _, rv⟩
    · obtain ⟨_, its2, n2, r2, hl2, e2⟩ := I.lstM hB
      exact ⟨_, its2, n2, r2, hl2, e2, rfl⟩
    · obtain ⟨e0, _, its2, n2, r2, e2⟩ := (show ObjOk X.prog X.w H s.heap l (.frz o (.lst xs)) from I.hok l _ hB)
      exact ⟨_, its2, n2, r2, r2.length, e2, rfl⟩
    · exact ⟨_, its.toList, n, rv, rv.length, I.kIn _ _ q, rfl⟩
  obtain ⟨o, its, n, r, hl, e, eo⟩ := z2
  subst eo
  have hlen : its.toArray.size * k.toNat ≤ sizeLine := by rw [List.size_toArray, ← hl]; exact hz
  have hcap : ¬ its.toArray.size * k.toNat > (2 ^ 63 - 1) / 8 := by
    have : (sizeLine : Nat) ≤ (2 ^ 63 - 1) / 8 := by decide
    omega
  have hfit : ¬ (!Builtin.List.listFitsIndex k) = true := by
    rw [fitsIndex_both h1 h2]
    exact Bool.false_ne_true
  have hlong : ¬ Builtin.List.listTooLong (its.toArray.size * k.toNat) = true := by
    rw [notLongL hlen]
    exact Bool.false_ne_true
  have hnew : List.foldl (fun x1 x2 => x1 ++ x2) #[] (List.replicate (if its.toArray.isEmpty = true then 0 else k.toNat) its.toArray) = (List.replicate k.toNat its).flatten.toArray := by
    have f0 : ∀ m : Nat, List.foldl (fun x1 x2 => x1 ++ x2) #[] (List.replicate m its.toArray) = (List.replicate m its).flatten.toArray := fun m => by
      have := foldl_rep its m []
      rw [List.nil_append] at this
      exact this
    rw [f0]
    cases its with
    | nil => simp
    | cons a r' => rw [if_neg (by simp)]
  refine wpAny_binaryOp_repeat_ref (T := "list") (U := "int") (by decide) ⟨_, e, rfl⟩ (fun s' => typeIs_int s' k t) noFill_list_mul F.fills_int_mul F.slot_int_rmul repeat_list F.slot_int_index.lookup
    (call_meets F.slot_int_rmul (typeIs_int s k t) F.entry_int_rmul (F.args_int_rmul_2 _ _) (int___rmul___int_list k t l its.toArray n)
      ⟨e, rfl, ⟨_, e, rfl⟩, call_meets F.slot_list_mul ⟨_, e, rfl⟩ F.entry_list_mul (F.args_list_mul_2 _ _) (AutoListH.list___mul___list_int_3 l its.toArray n k t hfit hcap hlong) ⟨e, ?_⟩⟩)
  rw [hnew]
  exact ⟨.ref _, _, I.lnew (t' := s.toks) (r.rep k.toNat) (by rw [PyProof.Rows.lm_len_rep_flat, Nat.mul_comm]; exact hz), rfl, q _ I.fresh⟩
def rMulV : D → D → Gp → (List D → Gp → Prop) → Prop := fun x y G Q => match lstOf G x with
  | some l => (match y with
    | .int k => -(2 ^ 63) ≤ k ∧ k < 2 ^ 63 ∧ l.length * k.toNat ≤ sizeLine ∧ Q (List.replicate k.toNat l).flatten G
    | _ => False)
  | none => False
theorem opL3_mulV : OpL3 X (binaryOp .Mult) rMulV :=
  OpR.imp op_repRd fun v u H Q ⟨x, y, G, F, Q3, t, rx, ry, h, p⟩ => by
    simp only [rMulV] at h
    split at h
    · rename_i l e
      cases y with
      | int k =>
        obtain ⟨a, xs, e1, q, t'⟩ := lstOf_sq t e rx
        exact ⟨a, k, xs, e1, rep_int ry, q, h.1, h.2.1, by rw [← t'.length]; exact h.2.2.1, fun b hb => p _ _ h.2.2.2 _ _ (jn_nn (t.g.nn hb)).1 (.new t.dj t.g hb (orel_new hb (repL_rep t' _)))⟩
      | _ => exact h.elim
    · exact h.elim
def isLs (x : D) (y : D) (G : Gp) : Bool := (lstOf G x).isSome
def isDn (x : D) (G : Gp) : Bool := match x with
  | .ref a => (match G a with
    | some (.dn _ _) => true
    | _ => false)
  | _ => false
def rNo : R3 := fun _ _ _ _ => False
def bop : Operator → R3
  | .Add => rIte isLs (rV rCat3) rAdd3
  | .Sub => rAr0 fun i j => i - j
  | .Mult => rIte isLs (rV rMulV) (rArI CMulW fun i j => i * j)
  | .FloorDiv => rArI CDivW fun i j => i / j
  | .Mod => rArI (fun _ j => 0 < j) fun i j => i % j
  | .Pow => rArI CPow fun i j => i ^ j.toNat
  | .LShift => rArI CPow fun i j => i * 2 ^ j.toNat
  | .BitAnd => rAr0 fun i j => Builtin.bitAnd i j
  | .BitOr => rAr0 fun i j => Builtin.bitOr i j
  | .BitXor => rAr0 fun i j => Builtin.bitXor i j
  | _ => rNo
theorem bop_ok (op : Operator) : Op3 X (binaryOp op) (bop op) := by
  cases op with
  | Add => exact Op3.ite opL3_cat.v op3_add
  | Sub => exact op3_sub
  | Mult => exact Op3.ite opL3_mulV.v op3_mul
  | FloorDiv => exact op3_div
  | Mod => exact op3_mod
  | Pow => exact op3_pow
  | LShift => exact op3_shl
  | BitAnd => exact op3_band
  | BitOr => exact op3_bor
  | BitXor => exact op3_bxor
  | _ => exact op3_no
def cop (w : World) : CmpOp → R3
  | .Eq => rEq3
  | .NotEq => rNe3
  | .Lt => rLt3
  | .LtE => rCmpI fun i j => decide (i ≤ j)
  | .Gt => rCmpI fun i j => decide (j < i)
  | .GtE => rCmpI fun i j => decide (j ≤ i)
  | .Is => rIs3
  | .IsNot => rIsN3
  | .In => rIte (fun _ y G => isDn y G) (rInN w false) (rIn3 false)
  | .NotIn => rIte (fun _ y G => isDn y G) (rInN w true) (rIn3 true)
theorem cop_ok (hu : X.A.units + 65 < cLine) (op : CmpOp) : Op3 X (compareOp op) (cop X.w op) := by
  cases op with
  | Eq => exact op3_eq (by omega)
  | NotEq => exact op3_ne (by omega)
  | Lt => exact op3_lt
  | LtE => exact op3_le
  | Gt => exact op3_gt
  | GtE => exact op3_ge
  | Is => exact op3_is
  | IsNot => exact op3_isnot
  | In => exact Op3.ite (op3_inN (by omega)) (op3_in (by omega))
  | NotIn => exact Op3.ite (op3_notinN (by omega)) (op3_notin (by omega))
def iop : Operator → R3
  | .Add => rIAdd3
  | .Sub => rAr0 fun i j => i - j
  | _ => rNo
theorem iop_ok (op : Operator) : Ip3 X op (iop op) := by
  cases op with
  | Add => exact ip3_add
  | Sub => exact ip3_sub
  | _ => exact op3_no
def ixop (w : World) : R3 := rIte (fun x _ G => isDn x G) (rIxN w) rIx3
theorem ixop_ok (hu : X.A.units + 65 < cLine) : Ix3 X (ixop X.w) := Ix3.ite (ix3N (by omega)) (ix3 (by omega))
def setop (w : World) : RSet3 := sIte isDn (rSetN w) rSet3
theorem setop_ok (hu : X.A.units + 65 < cLine) : Set3 X (setop X.w) := Set3.ite (set3N (by omega)) (set3 (by omega))
/-- slices: tuples, texts, lists as values -/
def isLs1 (x : D) (G : Gp) : Bool := (lstOf G x).isSome
def slop : RS3 := fun x lo hi G Q => match isLs1 x G with
  | true => rSlL3 x lo hi G fun ds G' => Q (.lst ds) G'
  | false => rSl3 x lo hi G Q
theorem slop_ok : SlR X (liftSl X.K slop) :=
  SlR.imp (SlR.or slL3 sl3) fun v lo hi H Q ⟨x, G, F, Q3, t, r, h, p⟩ => by
    unfold slop at h
    split at h
    · exact .inl ⟨x, G, F, fun ds G' => Q3 (.lst ds) G', t, r, h, fun ds G' hq a H' n t' => p _ _ hq _ _ (t'.sub (Sub.gup n)) (rep_lstOf n t'.dj t'.g)⟩
    · exact .inr ⟨x, G, F, Q3, t, r, h, p⟩
def bltF (x : Str) : Option F3 :=
  if x = "len" then some rLen3 else if x = "any" then some rAny3 else if x = "all" then some rAll3 else if x = "min" then some rMin3 else if x = "max" then some rMax3
  else if x = "isinstance" then some rIsi3 else if x = "int" then some rInt3 else if x = "str" then some rStr3 else if x = "tuple" then some rTup3 else none
def bltL (x : Str) : Option FL3 := if x = "list" then some rList3 else none
def bltT (x : Str) : Option String := if x = "int" then some "int" else if x = "str" then some "str" else if x = "bool" then some "bool" else if x = "tuple" then some "tuple" else if x = "list" then some "list" else if x = "dict" then some "dict" else none
/-- a built-in function, a built-in type -/
structure BltE (X : Cx) (x : Str) (r : List V → Hp → VK → Prop) : Prop where
  n : x ≠ "__name__"
  d : (x == ("__debug__" : Str)) = false
  ex : (∃ id, bootBuiltins x = some (.builtin id) ∧ CallR X (.builtin id) r) ∨ ∃ T, bootBuiltins x = some (.type T) ∧ CallR X (.type T) r
theorem bltF_ok (hc : X.calm = true) {x : Str} {r : F3} (h : bltF x = some r) : BltE X x (liftF X.K r) := by
  unfold bltF at h
  split at h
  · rename_i e; cases h; subst e; exact ⟨by decide, by decide, .inl ⟨"len", by decide +kernel, call3_len⟩⟩
  split at h
  · rename_i e; cases h; subst e; exact ⟨by decide, by decide, .inl ⟨"any", by decide +kernel, call3_any hc⟩⟩
  split at h
  · rename_i e; cases h; subst e; exact ⟨by decide, by decide, .inl ⟨"all", by decide +kernel, call3_all hc⟩⟩
  split at h
  · rename_i e; cases h; subst e; exact ⟨by decide, by decide, .inl ⟨"min", by decide +kernel, call3_min hc⟩⟩
  split at h
  · rename_i e; cases h; subst e; exact ⟨by decide, by decide, .inl ⟨"max", by decide +kernel, call3_max hc⟩⟩
  split at h
  · rename_i e; cases h; subst e; exact ⟨by decide, by decide, .inl ⟨"isinstance", by decide +kernel, call3_isi⟩⟩
  split at h
  · rename_i e; cases h; subst e; exact ⟨by decide, by decide, .inr ⟨"int", by decide +kernel, call3_int⟩⟩
  split at h
  · rename_i e; cases h; subst e; exact ⟨by decide, by decide, .inr ⟨"str", by decide +kernel, call3_str⟩⟩
  split at h
  · rename_i e; cases h; subst e; exact ⟨by decide, by decide, .inr ⟨"tuple", by decide +kernel, call3_tuple⟩⟩
  cases h
theorem bltL_ok (hc : X.calm = true) {x : Str} {r : FL3} (h : bltL x = some r) : BltE X x (liftFL X.K r) := by
  unfold bltL at h
  split at h
  · rename_i e; cases h; subst e; exact ⟨by decide, by decide, .inr ⟨"list", by decide +kernel, call3_list⟩⟩
  cases h
theorem bltT_ok {x : Str} {T : String} (h : bltT x = some T) : x ≠ "__name__" ∧ (x == ("__debug__" : Str)) = false ∧ bootBuiltins x = some (.type T) := by
  unfold bltT at h
  split at h
  · rename_i e; cases h; subst e; exact ⟨by decide, by decide, by decide +kernel⟩
  split at h
  · rename_i e; cases h; subst e; exact ⟨by decide, by decide, by decide +kernel⟩
  split at h
  · rename_i e; cases h; subst e; exact ⟨by decide, by decide, by decide +kernel⟩
  split at h
  · rename_i e; cases h; subst e; exact ⟨by decide, by decide, by decide +kernel⟩
  split at h
  · rename_i e; cases h; subst e; exact ⟨by decide, by decide, by decide +kernel⟩
  split at h
  · rename_i e; cases h; subst e; exact ⟨by decide, by decide, by decide +kernel⟩
  cases h
theorem pe3_blt {x : Str} {r : F3} {e : Expr} {es : List Expr} {ta : TA3} {p pos : Pos} (b : BltE X x (liftF X.K r)) (hg : Gl X x) (hm : X.mg x = none) (ha : PA3 X (e :: es) ta) (he : starEach (e :: es) X.env = (false, eval e X.env) :: starEach es X.env) (hpl : (backTo pos (starEach es X.env)).any (·.1) = false) :
    PE3 X (.Call (.Name x p) (e :: es) [] pos) (tCB3 r ta) := by
  rcases b.ex with ⟨id, h1, h2⟩ | ⟨T, h1, h2⟩
  · exact pe3_callB h2 hg hm h1 ha b.n b.d he hpl
  · exact pe3_callTy h2 hg hm h1 ha b.n b.d he hpl
theorem pl3_blt {x : Str} {r : FL3} {e : Expr} {es : List Expr} {ta : TA3} {p pos : Pos} (b : BltE X x (liftFL X.K r)) (hg : Gl X x) (hm : X.mg x = none) (ha : PA3 X (e :: es) ta) (he : starEach (e :: es) X.env = (false, eval e X.env) :: starEach es X.env) (hpl : (backTo pos (starEach es X.env)).any (·.1) = false) :
    PL3 X (.Call (.Name x p) (e :: es) [] pos) (tCBL3 r ta) := by
  rcases b.ex with ⟨id, h1, h2⟩ | ⟨T, h1, h2⟩
  · exact pl3_callB h2 hg hm h1 ha b.n b.d he hpl
  · exact pl3_callTy h2 hg hm h1 ha b.n b.d he hpl
end
end L3
namespace L3
open PySem PySem.Spec PyProof.Rows L2

/-- a global: a def with a promise, a constant, not the module's (a built-in) -/
inductive Gl3 where
  | fn (n : Nat) (sp : Sp3)
  | con (d : D)
  | free
structure C3 where
  w : World
  N : List Str
  sc : Scope
  mu : List Str := []
  dn : List Str := []
  rm : Bool := false
  gl : Str → Option Gl3
def ixOf : List Str → Str → Nat → Option Nat
  | [], _, _ => none
  | y :: ys, x, n => if y = x then some n else ixOf ys x (n + 1)
theorem ixOf_get : ∀ {N : List Str} {x : Str} {n i : Nat}, ixOf N x n = some i → n ≤ i ∧ N[i - n]? = some x
  | [], _, _, _, h => by cases h
  | y :: ys, x, n, i, h => by
    unfold ixOf at h
    split at h
    · rename_i e
      cases h
      exact ⟨Nat.le_refl _, by rw [Nat.sub_self]; simp [e]⟩
    · obtain ⟨h1, h2⟩ := ixOf_get h
      refine ⟨by omega, ?_⟩
      have e : i - n = (i - (n + 1)) + 1 := by omega
      rw [e, List.getElem?_cons_succ]
      exact h2
structure CxE (B : Bas) (k : Nat) (C : C3) (X : Cx) : Prop where
  b : CxB B k X
  w : X.w = C.w
  N : X.N = C.N
  sc : X.env.scope = C.sc
  calm : X.calm = true
  nd : X.N.Nodup
  glf : ∀ x n sp, C.gl x = some (.fn n sp) → FnE B k x n sp
  glc : ∀ x d, C.gl x = some (.con d) → ∃ u v, B.mg x = some u ∧ RelV v u ∧ Fix B.K d v
  glb : ∀ x, C.gl x = some .free → B.mg x = none
/-- for statements -/
structure CxS (B : Bas) (k : Nat) (C : C3) (X : Cx) : Prop where
  e : CxE B k C X
  pass : PassesOwn (model X.prog X.w) X.A X.env X.xe
  fn : ∀ x, X.fn x = true
  kind : C.sc.kind = .function
section
variable {B : Bas} {k : Nat} {C : C3} {X : Cx}
theorem CxE.hu (c : CxE B k C X) : X.A.units + 65 < cLine := by have := c.b.room.un; omega
theorem CxE.hu1 (c : CxE B k C X) : X.A.units + 1 < cLine := by have := c.b.room.un; omega
theorem CxE.gl (c : CxE B k C X) {x : Str} (h : C.sc.names.lookup x = some .globalImplicit) : Gl X x := by
  show X.env.scope.names.lookup x = _
  rw [c.sc]; exact h
theorem CxE.mgn (c : CxE B k C X) {x : Str} (h : C.gl x = some .free) : X.mg x = none := by rw [c.b.mg]; exact c.glb x h
end
structure Ev where
  E : C3 → Expr → TE3
  L : C3 → Expr → Option TA3
  T : C3 → Expr → TT3
  S : C3 → Stmt → TS3
def plainE : Expr → Bool
  | .Starred .. => false
  | _ => true
def evA (r : Ev) (C : C3) : List Expr → TA3
  | [] => tNil3
  | e :: es => tCons3 (r.E C e) (evA r C es)
def plainAll : List Expr → Bool
  | [] => true
  | e :: es => plainE e && plainAll es
def evSs (r : Ev) (C : C3) : List Stmt → TS3
  | [] => tNext3
  | s :: ss => tSeq3 (r.S C s) (evSs r C ss)
def evAnd (r : Ev) (C : C3) : List Expr → TE3
  | [] => tNo3
  | [a] => r.E C a
  | a :: b :: rest => tAndV3 (r.E C a) (evAnd r C (b :: rest))
def evOr (r : Ev) (C : C3) : List Expr → TE3
  | [] => tNo3
  | [a] => r.E C a
  | a :: b :: rest => tOrV3 (r.E C a) (evOr r C (b :: rest))
def tNoT3 : TT3 := fun _ _ _ _ => False
def evAndT (r : Ev) (C : C3) : List Expr → TT3
  | [] => tNoT3
  | [a] => r.T C a
  | a :: b :: rest => tAnd3 (r.T C a) (evAndT r C (b :: rest))
def evOrT (r : Ev) (C : C3) : List Expr → TT3
  | [] => tNoT3
  | [a] => r.T C a
  | a :: b :: rest => tOr3 (r.T C a) (evOrT r C (b :: rest))
/-- the slot of a name that stands in the frame -/
def slotOf (C : C3) (x : Str) : Option Nat := if (x == ("__debug__" : Str)) || (x == ("__classdict__" : Str)) then none else match C.sc.names.lookup x with
  | some .local => ixOf C.N x 0
  | some .cell => ixOf C.N x 0
  | some .free => ixOf C.N x 0
  | _ => none
/-- .. and may be bound there -/
def bindOf (C : C3) (x : Str) : Option Nat := match C.sc.names.lookup x with
  | some .local => ixOf C.N x 0
  | _ => none
/-- .. by a statement of a def -/
def bindS (C : C3) (x : Str) : Option Nat := match C.sc.names.lookup x with
  | some .local => ixOf C.N x 0
  | some .cell => ixOf C.N x 0
  | _ => none
def isGl (C : C3) (x : Str) : Bool := match C.sc.names.lookup x with
  | some .globalImplicit => !(x == ("__debug__" : Str))
  | _ => false
def evName (C : C3) (x : Str) : TE3 := match slotOf C x with
  | some i => tVar3 i
  | none => match isGl C x with
    | true => (match C.gl x with
      | some (.con d) => tC3 d
      | some .free => (match bltT x with
        | some T => tC3 (.ty T)
        | none => tNo3)
      | _ => tNo3)
    | false => tNo3
def evCall (r : Ev) (C : C3) (x : Str) (es : List Expr) : TE3 := match isGl C x && plainAll es with
  | true => (match C.gl x with
    | some (.fn n sp) => tCall3 n sp (evA r C es)
    | some .free => (match bltF x with
      | some f => (match es with
        | [] => tNo3
        | _ :: _ => tCB3 f (evA r C es))
      | none => (match bltL x with
        | some f => (match es with
          | [] => tNo3
          | _ :: _ => tLv3 (tCBL3 f (evA r C es)))
        | none => tNo3))
    | _ => tNo3)
  | false => tNo3
def evCallL (r : Ev) (C : C3) (x : Str) (es : List Expr) : Option TA3 := match isGl C x && plainAll es with
  | true => (match C.gl x with
    | some .free => (match bltL x with
      | some f => (match es with
        | [] => none
        | _ :: _ => some (tCBL3 f (evA r C es)))
      | none => none)
    | _ => none)
  | false => none
def plainRecv : Expr → Bool
  | .Call (.Name _ _) [] [] _ => false
  | _ => true
def evMeth (r : Ev) (C : C3) (o : Expr) (name : Str) (apos cpos : Pos) (es : List Expr) : TE3 := match plainRecv o && plainAll es && decide (es.length < 25) && (apos.endLine == cpos.line) with
  | true => tMt3 (mtab name) (r.E C o) (evA r C es)
  | false => tNo3
def evPart (r : Ev) (C : C3) : Option Expr → TO3
  | none => tNoP3
  | some e => tPart3 (r.E C e)
def notSet : Expr → Bool
  | .Set .. => false
  | _ => true
def namesOf (b : Str → Option Nat) : List Expr → Option (List Nat)
  | [] => some []
  | .Name x _ :: es => (b x).bind fun i => (namesOf b es).map (i :: ·)
  | _ :: _ => none
def tgtOf (b : Str → Option Nat) : Expr → Option Tgt
  | .Name x _ => (b x).map .nm
  | .Tuple es _ _ => (namesOf b es).map .tp
  | _ => none
def isTp : Tgt → Bool
  | .tp _ => true
  | _ => false
def isTupE : Expr → Bool
  | .Tuple .. => true
  | _ => false
/-- a walk -/
def evI (r : Ev) (C : C3) (tge : Expr) (tg : Tgt) : Expr → Option TI3
  | .Call (.Name x p) es [] pos => (match isGl C x && plainAll es && (match C.gl x with
      | some .free => true
      | _ => false) with
    | true => if x = "range" then (match es with
        | [_] => some (tRg1 (evA r C es))
        | [_, _] => some (tRg2 (evA r C es))
        | _ => none)
      else if x = "enumerate" then (match es with
        | [_] => if isTupE tge && isTp tg then some (tEnum3 (evA r C es)) else none
        | _ => none)
      else if x = "zip" then (match es with
        | [_, _] => if isTupE tge && isTp tg then some (tZip3 (evA r C es)) else none
        | _ => none)
      else some (tI3 (r.E C (.Call (.Name x p) es [] pos)))
    | false => some (tI3 (r.E C (.Call (.Name x p) es [] pos))))
  | e => some (tI3 (r.E C e))
def ownOf (C : C3) (scope : Scope) : List (Str × Nat) := scope.names.filterMap fun (n, k) => match k with
  | .local => (ixOf C.N n 0).map (n, ·)
  | .cell => (ixOf C.N n 0).map (n, ·)
  | _ => none
def C3.blk (C : C3) (scope : Scope) : C3 := { C with sc := relS scope C.sc }
def evIfs (r : Ev) (C : C3) : List Expr → Option TT3
  | [] => some tYes3
  | [c] => some (r.T C c)
  | _ => none
/-- [elt for tge in iter if ..] -/
def evLc (r : Ev) (C : C3) (elt : Expr) (gens : List Comprehension) (scope : Scope) : Option TA3 := match gens with
  | [⟨tge, iter, ifs, 0⟩] => (match blkC C.N C.sc scope (ownOf C scope) && notSet iter with
    | true => (match tgtOf (bindOf (C.blk scope)) tge with
      | some tg => (match evI r C tge tg iter, evIfs r (C.blk scope) ifs with
        | some wi, some tt => if tg.ix.all fun i => (ownOf C scope).map (·.2) |>.contains i then some (tLc3 wi tg tt (r.E (C.blk scope) elt) ((ownOf C scope).map (·.2))) else none
        | _, _ => none)
      | none => none)
    | false => none)
  | _ => none
def ixPlain : Expr → Bool
  | .Slice .. => false
  | _ => true
def lsV : Option TA3 → TE3
  | some t => tLv3 t
  | none => tNo3
def stepE (r : Ev) (C : C3) : Expr → TE3
  | .Name x _ => evName C x
  | .Constant (.int i) _ _ => tC3 (.int i)
  | .Constant (.bool i) _ _ => tC3 (.bl i)
  | .Constant (.str i) _ _ => tC3 (.str i)
  | .Constant .none _ _ => tC3 .non
  | .Tuple es _ _ => (match plainAll es with
    | true => tTup3 (evA r C es)
    | false => tNo3)
  | .List es _ => (match plainAll es with
    | true => tLv3 (tLs3 (evA r C es))
    | false => tNo3)
  | .BinOp a op b _ => tOp3 (bop op) (r.E C a) (r.E C b)
  | .UnaryOp .Not a _ => tNotV3 (r.E C a)
  | .UnaryOp .USub a _ => tUn3 (fun x G Q => match x with
    | .int i => Q (.int (-i)) G
    | _ => False) (r.E C a)
  | .BoolOp .And es _ => evAnd r C es
  | .BoolOp .Or es _ => evOr r C es
  | .Compare a [op] [b] _ => (match notSet b with
    | true => tOp3 (cop C.w op) (r.E C a) (r.E C b)
    | false => tNo3)
  | .Compare a [op, op'] [b, c] _ => (match notSet c with
    | true => tChain3 (cop C.w op) (cop C.w op') (r.E C a) (r.E C b) (r.E C c)
    | false => tNo3)
  | .IfExp c a b _ => tIf3 (r.T C c) (r.E C a) (r.E C b)
  | .Call (.Name x _) es [] _ => evCall r C x es
  | .Call (.Attribute o name apos) es [] cpos => evMeth r C o name apos cpos es
  | .Subscript a (.Slice lo hi none _) _ => tSl3 slop (r.E C a) (evPart r C lo) (evPart r C hi)
  | .Subscript a b _ => (match ixPlain b with
    | true => tOp3 (ixop C.w) (r.E C a) (r.E C b)
    | false => tNo3)
  | .ListComp elt gens scope _ => lsV (evLc r C elt gens scope)
  | _ => tNo3
def stepL (r : Ev) (C : C3) : Expr → Option TA3
  | .List es _ => (match plainAll es with
    | true => some (tLs3 (evA r C es))
    | false => none)
  | .BinOp a .Add b _ => some (tOpL3 rCat3 (r.E C a) (r.E C b))
  | .BinOp a .Mult b _ => some (tOpL3 rMulV (r.E C a) (r.E C b))
  | .Call (.Name x _) es [] _ => evCallL r C x es
  | .Subscript a (.Slice lo hi none _) _ => some (tSlL3 rSlL3 (r.E C a) (evPart r C lo) (evPart r C hi))
  | .ListComp elt gens scope _ => evLc r C elt gens scope
  | _ => none
def stepT (r : Ev) (C : C3) : Expr → TT3
  | .UnaryOp .Not a _ => tNot3 (r.T C a)
  | .BoolOp .And es _ => evAndT r C es
  | .BoolOp .Or es _ => evOrT r C es
  | .Compare a [op] [b] _ => (match notSet b with
    | true => tB3 (tOp3 (cop C.w op) (r.E C a) (r.E C b))
    | false => tNoT3)
  | .Compare a [op, op'] [b, c] _ => (match notSet c with
    | true => tB3 (tChain3 (cop C.w op) (cop C.w op') (r.E C a) (r.E C b) (r.E C c))
    | false => tNoT3)
  | .Name x p => tB3 (r.E C (.Name x p))
  | .Constant c j p => tB3 (r.E C (.Constant c j p))
  | .Call f es ks p => tB3 (r.E C (.Call f es ks p))
  | .Subscript a b p => tB3 (r.E C (.Subscript a b p))
  | _ => tNoT3
def isLc : Expr → Bool
  | .ListComp .. => true
  | .SetComp .. => true
  | .DictComp .. => true
  | _ => false
def isSeqE : Expr → Bool
  | .Tuple .. => true
  | .List .. => true
  | _ => false
def memS (x : Str) : List Str → Bool
  | [] => false
  | y :: ys => if y = x then true else memS x ys
def tNoG3 : TG3 := fun _ _ _ _ _ => False
/-- a target's reading -/
def evG1 (r : Ev) (C : C3) : Expr → TG3
  | .Name x _ => (match bindS C x with
    | some i => gName3 i
    | none => tNoG3)
  | .Subscript o i _ => (match ixPlain i with
    | true => gSub3 (r.E C o) (r.E C i) (setop C.w)
    | false => tNoG3)
  | _ => tNoG3
def evGs (r : Ev) (C : C3) : List Expr → TGs3
  | [] => gNil3
  | e :: es => gCons3 (evG1 r C e) (evGs r C es)
def evAsg (r : Ev) (C : C3) (x : Str) (v : Expr) : TS3 := match bindS C x with
  | some i => (match v with
    | .Dict [] [] _ => tAsg3 (if memS x C.dn then tDn3 C.w else tDk3) (gName3 i)
    | .ListComp elt gens scope _ => (match evLc r C elt gens scope with
      | some t => if memS x C.mu then tSetN3 t i else tSetV3 t i
      | none => tNever3)
    | .SetComp .. => tNever3
    | .DictComp .. => tNever3
    | _ => (match memS x C.mu, r.L C v with
      | true, some t => tSetN3 t i
      | _, _ => tAsg3 (r.E C v) (gName3 i)))
  | none => tNever3
def stepS (r : Ev) (C : C3) : Stmt → TS3
  | .Pass _ => tNext3
  | .Break _ => tBreak3
  | .Continue _ => tCont3
  | .Expr e _ => (match isLc e with
    | true => tNever3
    | false => tDrop3 (r.E C e))
  | .Return none _ => tRetN3
  | .Return (some e) _ => (match C.rm, r.L C e with
    | true, some t => tRet3 (tLn3 t)
    | _, _ => tRet3 (r.E C e))
  | .If c a b _ => tIfS3 (r.T C c) (evSs r C a) (evSs r C b)
  | .While c a [] _ => tWhile3 (r.T C c) (evSs r C a)
  | .For tge iter a [] _ => (match notSet iter, tgtOf (bindS C) tge with
    | true, some tg => (match evI r C tge tg iter with
      | some wi => tFor3 wi tg (evSs r C a)
      | none => tNever3)
    | _, _ => tNever3)
  | .Assign [.Name x _] v _ => evAsg r C x v
  | .Assign [.Tuple es _ _] v _ => (match isLc v || isSeqE v || !plainAll es with
    | true => tNever3
    | false => tAsg3 (r.E C v) (gTup3 es.length (evGs r C es)))
  | .Assign [.Subscript o i _] v _ => (match isLc v || !ixPlain i with
    | true => tNever3
    | false => tAsg3 (r.E C v) (gSub3 (r.E C o) (r.E C i) (setop C.w)))
  | .AugAssign (.Name x _) op e _ => (match bindS C x with
    | some i => tAug3 i (r.E C e) (iop op)
    | none => tNever3)
  | .AugAssign (.Subscript o i _) op e _ => (match ixPlain i with
    | true => tAugS3 (r.E C o) (r.E C i) (r.E C e) rGet3 (iop op) (setop C.w)
    | false => tNever3)
  | _ => tNever3
def stepEv (r : Ev) : Ev := ⟨stepE r, stepL r, stepT r, stepS r⟩
def ev : Nat → Ev
  | 0 => ⟨fun _ _ => tNo3, fun _ _ => none, fun _ _ => tNoT3, fun _ _ => tNever3⟩
  | n + 1 => stepEv (ev n)
end L3
namespace L3
open PySem PySem.Spec PyProof.Rows L2

theorem star_cons {e : Expr} (h : plainE e = true) (es : List Expr) (env : Env) : starEach (e :: es) env = (false, eval e env) :: starEach es env := by
  cases e <;> first | rfl | cases h
theorem asg_cons {e : Expr} (h : plainE e = true) (es : List Expr) (env : Env) : assignEach (e :: es) env = (false, assign e env) :: assignEach es env := by
  cases e <;> first | rfl | cases h
theorem star_plain {pos : Pos} {env : Env} : ∀ {es : List Expr}, plainAll es = true → (backTo pos (starEach es env)).any (·.1) = false ∧ (backTo pos (starEach es env)).all (fun x => !x.1) = true
  | [], _ => ⟨rfl, rfl⟩
  | e :: es, h => by
    simp only [plainAll, Bool.and_eq_true] at h
    obtain ⟨h1, h2⟩ := star_plain (pos := pos) (env := env) h.2
    rw [star_cons h.1]
    unfold backTo at h1 h2 ⊢
    rw [List.map_cons, List.any_cons, List.all_cons, h1, h2]
    exact ⟨rfl, rfl⟩
theorem asg_plain {env : Env} : ∀ {es : List Expr}, plainAll es = true → (assignEach es env).length = es.length ∧ (assignEach es env).findIdx? (·.1) = none
  | [], _ => ⟨rfl, rfl⟩
  | e :: es, h => by
    simp only [plainAll, Bool.and_eq_true] at h
    obtain ⟨h1, h2⟩ := asg_plain (env := env) h.2
    rw [asg_cons h.1]
    refine ⟨by simp [h1], ?_⟩
    rw [List.findIdx?_cons, h2]
    rfl
structure EvOk (r : Ev) : Prop where
  E : ∀ {B k C X}, CxE B k C X → ∀ e, PE3 X e (r.E C e)
  L : ∀ {B k C X}, CxE B k C X → ∀ e t, r.L C e = some t → PL3 X e t
  T : ∀ {B k C X}, CxE B k C X → ∀ e, PT3 X e (r.T C e)
  S : ∀ {B k C X}, CxS B k C X → ∀ st, PS3 X st (r.S C st)
section
variable {r : Ev} {B : Bas} {k : Nat} {C : C3} {X : Cx}
theorem pt3_no {e : Expr} : PT3 X e tNoT3 := fun W tk => ⟨fun pins s σ H Q I q => by obtain ⟨_, _, _, _, _, _, h, _⟩ := q; exact h.elim⟩
theorem evA_ok (o : EvOk r) (c : CxE B k C X) : ∀ {es : List Expr}, plainAll es = true → PA3 X es (evA r C es)
  | [], _ => pa3_nil
  | e :: es, h => by
    simp only [plainAll, Bool.and_eq_true] at h
    exact pa3_cons (o.E c e) (evA_ok o c h.2) (star_cons h.1 es X.env)
theorem evSs_ok (o : EvOk r) (c : CxS B k C X) : ∀ ss : List Stmt, PSs3 X ss (evSs r C ss)
  | [] => pss3_nil
  | s :: ss => pss3_cons (o.S c s) (evSs_ok o c ss)
theorem pe3_boolNil {op : BoolOp} {pos : Pos} : PE3 X (.BoolOp op [] pos) tNo3 := pe3_no
theorem evAnd_ok (o : EvOk r) (c : CxE B k C X) {pos : Pos} : ∀ es : List Expr, PE3 X (.BoolOp .And es pos) (evAnd r C es)
  | [] => pe3_no
  | [a] => pe3_one (o.E c a)
  | a :: b :: rest => pe3_and (o.E c a) (evAnd_ok o c (b :: rest))
theorem evOr_ok (o : EvOk r) (c : CxE B k C X) {pos : Pos} : ∀ es : List Expr, PE3 X (.BoolOp .Or es pos) (evOr r C es)
  | [] => pe3_no
  | [a] => pe3_one (o.E c a)
  | a :: b :: rest => pe3_or (o.E c a) (evOr_ok o c (b :: rest))
theorem pw3_no {e : Expr} : PW3 X e tNoT3 := fun W tk => ⟨fun wh pins s σ H Q I q => by obtain ⟨_, _, _, _, _, _, h, _⟩ := q; exact h.elim⟩
theorem evAndT_ok (o : EvOk r) (c : CxE B k C X) {pos : Pos} : ∀ es : List Expr, PW3 X (.BoolOp .And es pos) (evAndT r C es)
  | [] => pw3_no
  | [a] => pw3_and1 (o.T c a)
  | a :: b :: rest => pw3_and (o.T c a) (evAndT_ok o c (b :: rest))
theorem evOrT_ok (o : EvOk r) (c : CxE B k C X) {pos : Pos} : ∀ es : List Expr, PW3 X (.BoolOp .Or es pos) (evOrT r C es)
  | [] => pw3_no
  | [a] => pw3_or1 (o.T c a)
  | a :: b :: rest => pw3_or (o.T c a) (evOrT_ok o c (b :: rest))
theorem slotOf_ok (c : CxE B k C X) {x : Str} {i : Nat} (h : slotOf C x = some i) : X.N[i]? = some x ∧ Vis X.env.scope x ∧ (x == ("__debug__" : Str)) = false ∧ (x == ("__classdict__" : Str)) = false := by
  unfold slotOf at h
  split at h
  · cases h
  · rename_i hd
    simp only [Bool.or_eq_true, not_or, Bool.not_eq_true] at hd
    unfold Vis
    rw [c.sc, c.N]
    split at h
    · rename_i e
      exact ⟨by simpa using (ixOf_get h).2, .inl e, hd⟩
    · rename_i e
      exact ⟨by simpa using (ixOf_get h).2, .inr (.inl e), hd⟩
    · rename_i e
      exact ⟨by simpa using (ixOf_get h).2, .inr (.inr e), hd⟩
    · cases h
theorem bindOf_ok (c : CxE B k C X) {x : Str} {i : Nat} (h : bindOf C x = some i) : X.N[i]? = some x ∧ L2.Loc X.env.scope x ∧ X.env.scope.names.lookup x = some .local := by
  unfold bindOf at h
  unfold L2.Loc
  rw [c.sc, c.N]
  split at h
  · rename_i e
    exact ⟨by simpa using (ixOf_get h).2, .inl e, e⟩
  · cases h
theorem isGl_ok {x : Str} (h : isGl C x = true) : C.sc.names.lookup x = some .globalImplicit ∧ (x == ("__debug__" : Str)) = false := by
  unfold isGl at h
  split at h
  · rename_i e
    exact ⟨e, by simpa using h⟩
  · cases h
theorem evName_ok (c : CxE B k C X) {x : Str} {pos : Pos} : PE3 X (.Name x pos) (evName C x) := by
  unfold evName
  split
  · rename_i i h
    obtain ⟨h1, h2, h3, h4⟩ := slotOf_ok c h
    exact pe3_var h1 h2 h3 h4
  · split
    · rename_i hg
      obtain ⟨g, hd⟩ := isGl_ok hg
      split
      · rename_i d hc
        obtain ⟨u, v, h1, h2, h3⟩ := c.glc x d hc
        rw [← c.b.mg] at h1
        rw [← c.b.K] at h3
        exact pe3_const (pe_glob (c.gl g) h1 h2 hd) h3
      · rename_i hf
        split
        · rename_i T hT
          obtain ⟨h1, h2, h3⟩ := bltT_ok hT
          exact pe3_const (pe_bltn (c.gl g) (c.mgn hf) h3 (v := .ty T) rfl h1 h2) fix_ty
        · exact pe3_no
      · exact pe3_no
    · exact pe3_no
theorem evCall_ok (o : EvOk r) (c : CxE B k C X) {x : Str} {es : List Expr} {p pos : Pos} : PE3 X (.Call (.Name x p) es [] pos) (evCall r C x es) := by
  unfold evCall
  split
  · rename_i hh
    rw [Bool.and_eq_true] at hh
    obtain ⟨hg, hp⟩ := hh
    obtain ⟨g, hd⟩ := isGl_ok hg
    split
    · rename_i n sp hf
      cases es with
      | nil => exact pe3_call0 c.b (c.glf x n sp hf) (c.gl g) hd
      | cons e es =>
        have hp' := hp
        simp only [plainAll, Bool.and_eq_true] at hp'
        exact pe3_call c.b (c.glf x n sp hf) (c.gl g) (evA_ok o c hp) hd (star_cons hp'.1 es X.env) (star_plain hp'.2).1
    · rename_i hf
      split
      · rename_i f hb
        cases es with
        | nil => exact pe3_no
        | cons e es =>
          have hp' := hp
          simp only [plainAll, Bool.and_eq_true] at hp'
          exact pe3_blt (bltF_ok c.calm hb) (c.gl g) (c.mgn hf) (evA_ok o c hp) (star_cons hp'.1 es X.env) (star_plain hp'.2).1
      · split
        · rename_i f hb
          cases es with
          | nil => exact pe3_no
          | cons e es =>
            have hp' := hp
            simp only [plainAll, Bool.and_eq_true] at hp'
            exact pe3_lv (pl3_blt (bltL_ok c.calm hb) (c.gl g) (c.mgn hf) (evA_ok o c hp) (star_cons hp'.1 es X.env) (star_plain hp'.2).1)
        · exact pe3_no
    · exact pe3_no
  · exact pe3_no
theorem evCallL_ok (o : EvOk r) (c : CxE B k C X) {x : Str} {es : List Expr} {p pos : Pos} {t : TA3} (h : evCallL r C x es = some t) : PL3 X (.Call (.Name x p) es [] pos) t := by
  unfold evCallL at h
  split at h
  · rename_i hh
    rw [Bool.and_eq_true] at hh
    obtain ⟨hg, hp⟩ := hh
    obtain ⟨g, hd⟩ := isGl_ok hg
    split at h
    · rename_i hf
      split at h
      · rename_i f hb
        cases es with
        | nil => cases h
        | cons e es =>
          have hp' := hp
          simp only [plainAll, Bool.and_eq_true] at hp'
          cases h
          exact pl3_blt (bltL_ok c.calm hb) (c.gl g) (c.mgn hf) (evA_ok o c hp) (star_cons hp'.1 es X.env) (star_plain hp'.2).1
      · cases h
    · cases h
  · cases h
theorem recv_ok {o : Expr} (h : plainRecv o = true) (name : Str) (env : Env) : attributeBase o name env (eval o env) = eval o env := by
  unfold attributeBase
  split
  · cases h
  · rfl
theorem evMeth_ok (o : EvOk r) (c : CxE B k C X) {ob : Expr} {name : Str} {apos cpos : Pos} {es : List Expr} : PE3 X (.Call (.Attribute ob name apos) es [] cpos) (evMeth r C ob name apos cpos es) := by
  unfold evMeth
  split
  · rename_i hh
    simp only [Bool.and_eq_true, decide_eq_true_eq] at hh
    obtain ⟨⟨⟨h1, hp⟩, h3⟩, h4⟩ := hh
    cases es with
    | nil => exact pe3_mt0 (fun k r h => mtab_ok h) (o.E c ob) (recv_ok h1 name X.env) h4
    | cons e es =>
      have hp' := hp
      simp only [plainAll, Bool.and_eq_true] at hp'
      refine pe3_mt (fun k r h => mtab_ok h) (o.E c ob) (evA_ok o c hp) (recv_ok h1 name X.env) ?_ h4 (star_cons hp'.1 es X.env) (star_plain hp'.2).1
      rw [(star_plain hp).2]
      have z : decide ((e :: es).length + ([] : List Keyword).length + (if ([] : List Keyword).isEmpty then 0 else 1) < 30) = true := decide_eq_true (by
        show (e :: es).length + 0 + 0 < 30
        omega)
      rw [z]
      rfl
  · exact pe3_no
theorem evPart_ok (o : EvOk r) (c : CxE B k C X) : ∀ e : Option Expr, PO3 X e (evPart r C e)
  | none => po3_none
  | some e => po3_some (o.E c e)
theorem notSet_marks {op : CmpOp} {e : Expr} (h : notSet e = true) : behindInMarks op e = false := by
  cases e <;> first | rfl | cases h
theorem notSet_fold {e : Expr} (h : notSet e = true) (env : Env) (x : Value) : foldedSetIterable e env x = pure x := by
  cases e <;> first | rfl | cases h
theorem notSet_last {op op' : CmpOp} {b e : Expr} (h : notSet e = true) : lastMarks [op, op'] [b, e] = false := notSet_marks (op := op') h
/-- what a binder's answer is good for -/
def BindOk (X : Cx) (b : Str → Option Nat) : Prop := ∀ x i, b x = some i → X.N[i]? = some x ∧ L2.Loc X.env.scope x ∧ (X.fn x = true ∨ X.env.scope.names.lookup x = some .local)
theorem bind_ok (c : CxE B k C X) : BindOk X (bindOf C) := fun x i h => by
  obtain ⟨h1, h2, h3⟩ := bindOf_ok c h
  exact ⟨h1, h2, .inr h3⟩
theorem bindS_ok (c : CxS B k C X) : BindOk X (bindS C) := fun x i h => by
  unfold bindS at h
  unfold L2.Loc
  rw [c.e.sc, c.e.N]
  split at h
  · rename_i e
    exact ⟨by simpa using (ixOf_get h).2, .inl e, .inr e⟩
  · rename_i e
    exact ⟨by simpa using (ixOf_get h).2, .inr e, .inl (c.fn x)⟩
  · cases h
theorem namesOf_ok (nd : X.N.Nodup) {b : Str → Option Nat} (hb : BindOk X b) : ∀ {es : List Expr} {is : List Nat}, namesOf b es = some is → PGs X es (gNames is) ∧ plainAll es = true ∧ es.length = is.length
  | [], is, h => by
    cases h
    exact ⟨pgs_nil, rfl, rfl⟩
  | e :: es, is, h => by
    cases e with
    | Name x p =>
      simp only [namesOf] at h
      cases q : b x with
      | none => rw [q] at h; cases h
      | some i =>
        rw [q] at h
        cases q2 : namesOf b es with
        | none => rw [q2] at h; cases h
        | some js =>
          rw [q2] at h
          cases h
          obtain ⟨h1, h2, h3⟩ := namesOf_ok nd hb q2
          obtain ⟨b1, b2, b3⟩ := hb x i q
          exact ⟨pgs_cons (pg_name nd b1 b2 b3) h1 rfl, by simp [plainAll, plainE, h2], by simp [h3]⟩
    | _ => cases h
theorem tgtOf_ok (nd : X.N.Nodup) (hc : X.calm = true) {b : Str → Option Nat} (hb : BindOk X b) {e : Expr} {tg : Tgt} (h : tgtOf b e = some tg) : IsTgt X e tg := by
  cases e with
  | Name x p =>
    simp only [tgtOf] at h
    cases q : b x with
    | none => rw [q] at h; cases h
    | some i =>
      rw [q] at h
      cases h
      obtain ⟨b1, b2, b3⟩ := hb x i q
      exact pg_name nd b1 b2 b3
  | Tuple es kk p =>
    simp only [tgtOf] at h
    cases q : namesOf b es with
    | none => rw [q] at h; cases h
    | some is =>
      rw [q] at h
      cases h
      obtain ⟨h1, h2, h3⟩ := namesOf_ok nd hb q
      obtain ⟨a1, a2⟩ := asg_plain (env := X.env) h2
      exact PG.or (pg_tup hc h1 (by rw [a1, h3]) a2) (pg_lst hc h1 (by rw [a1, h3]) a2)
  | _ => cases h
theorem tupE {e : Expr} (h : isTupE e = true) : ∃ es k p, e = .Tuple es k p := by
  cases e <;> first | exact ⟨_, _, _, rfl⟩ | cases h
theorem evI_ok (o : EvOk r) (c : CxE B k C X) {tge iter : Expr} {tg : Tgt} {wi : TI3} (h : evI r C tge tg iter = some wi) : PI3 X tge iter tg wi := by
  unfold evI at h
  split at h
  · rename_i x p es pos
    split at h
    · rename_i hh
      simp only [Bool.and_eq_true] at hh
      obtain ⟨⟨hg, hp⟩, hf⟩ := hh
      obtain ⟨g, hd⟩ := isGl_ok hg
      have hf : C.gl x = some .free := by
        split at hf
        · assumption
        · cases hf
      split at h
      · rename_i ex
        subst ex
        split at h
        · cases h
          rename_i a
          simp only [plainAll, Bool.and_eq_true] at hp
          exact pi3_range1 (c.gl g) (c.mgn hf) (evA_ok o c (by simp [plainAll, hp])) (star_cons hp.1 [] X.env)
        · cases h
          rename_i a b
          simp only [plainAll, Bool.and_eq_true] at hp
          refine pi3_range2 (c.gl g) (c.mgn hf) (evA_ok o c (by simp [plainAll, hp])) ?_ (star_cons hp.2.1 [] X.env)
          rw [star_cons hp.1, star_cons hp.2.1]
          rfl
        · cases h
      · split at h
        · rename_i ex
          subst ex
          split at h
          · split at h
            · rename_i a hh
              cases h
              rw [Bool.and_eq_true] at hh
              obtain ⟨elts, kk, tp, et⟩ := tupE hh.1
              subst et
              cases tg with
              | nm _ => cases hh.2
              | tp is =>
                simp only [plainAll, Bool.and_eq_true] at hp
                exact pi3_enum (c.gl g) (c.mgn hf) (evA_ok o c (by simp [plainAll, hp])) (star_cons hp.1 [] X.env)
            · cases h
          · cases h
        · split at h
          · rename_i ex
            subst ex
            split at h
            · split at h
              · rename_i a b hh
                cases h
                rw [Bool.and_eq_true] at hh
                obtain ⟨elts, kk, tp, et⟩ := tupE hh.1
                subst et
                cases tg with
                | nm _ => cases hh.2
                | tp is =>
                  have hp0 := hp
                  simp only [plainAll, Bool.and_eq_true] at hp
                  exact pi3_zip (c.gl g) (c.mgn hf) (evA_ok o c hp0) (star_cons hp.1 _ X.env) (star_plain (by simp [plainAll, hp])).1
              · cases h
            · cases h
          · cases h
            exact pi3_val (o.E c _)
    · cases h
      exact pi3_val (o.E c _)
  · cases h
    exact pi3_val (o.E c _)
theorem CxE.blk (c : CxE B k C X) {scope : Scope} (s : Shared) (H : Hp) (A : Addr) (cl : List (Str × Addr)) (fp : List Addr) : CxE B k (C.blk scope) (X.blk s H scope (compEnvC scope cl A X.env) fp) where
  b := ⟨c.b.prog, c.b.w, c.b.K, c.b.mg, c.b.base, c.b.room⟩
  w := c.w
  N := c.N
  sc := by
    show (compEnvC scope cl A X.env).scope = relS scope C.sc
    rw [← c.sc]
    rfl
  calm := c.calm
  nd := c.nd
  glf := c.glf
  glc := c.glc
  glb := c.glb
/-- what a comprehension asks -/
structure LcOk (X : Cx) (elt tge iter : Expr) (ifs : List Expr) (scope : Scope) (own : List (Str × Nat)) (wi : TI3) (tg : Tgt) (tt : TT3) (te : TE3) : Prop where
  hi : PI3 X tge iter tg wi
  ok : BlkOk X.N X.env.scope scope own
  hg : ∀ (s : Shared) (H : Hp) (C : Addr) (cl : List (Str × Addr)) (fp : List Addr), IsTgt (X.blk s H scope (compEnvC scope cl C X.env) fp) tge tg
  ht : ∀ (s : Shared) (H : Hp) (C : Addr) (cl : List (Str × Addr)) (fp : List Addr), PTs3 (X.blk s H scope (compEnvC scope cl C X.env) fp) ifs tt
  he : ∀ (s : Shared) (H : Hp) (C : Addr) (cl : List (Str × Addr)) (fp : List Addr), PE3 (X.blk s H scope (compEnvC scope cl C X.env) fp) elt te
  hix : ∀ i ∈ tg.ix, i ∈ own.map (·.2)
  hs : ∀ x, foldedSetIterable iter X.env x = pure x
theorem evLc_ok (o : EvOk r) (c : CxE B k C X) {elt : Expr} {gens : List Comprehension} {scope : Scope} {t : TA3} (h : evLc r C elt gens scope = some t) :
    ∃ tge iter ifs own wi tg tt te, gens = [⟨tge, iter, ifs, 0⟩] ∧ t = tLc3 wi tg tt te (own.map (·.2)) ∧ LcOk X elt tge iter ifs scope own wi tg tt te := by
  unfold evLc at h
  split at h
  · rename_i tge iter ifs
    split at h
    · rename_i hb
      rw [Bool.and_eq_true] at hb
      split at h
      · rename_i tg htg
        split at h
        · rename_i wi tt hwi htt
          split at h
          · rename_i hix
            cases h
            refine ⟨tge, iter, ifs, _, wi, tg, tt, _, rfl, rfl, ⟨evI_ok o c hwi, ?_, fun s H A cl fp => tgtOf_ok (c.blk s H A cl fp).nd c.calm (bind_ok (c.blk s H A cl fp)) htg, fun s H A cl fp => ?_, fun s H A cl fp => o.E (c.blk s H A cl fp) elt, fun i hi => ?_, notSet_fold hb.2 X.env⟩⟩
            · rw [c.N, c.sc]; exact blkOk_by hb.1
            · unfold evIfs at htt
              split at htt
              · cases htt; exact pts3_nil
              · cases htt; exact pts3_one (o.T (c.blk s H A cl fp) _)
              · cases htt
            · have := List.all_eq_true.mp hix i hi
              simpa using this
          · cases h
        · cases h
      · cases h
    · cases h
  · cases h
theorem lc_pl (o : EvOk r) (c : CxE B k C X) {elt : Expr} {gens : List Comprehension} {scope : Scope} {t : TA3} {pos : Pos} (h : evLc r C elt gens scope = some t) : PL3 X (.ListComp elt gens scope pos) t := by
  obtain ⟨tge, iter, ifs, own, wi, tg, tt, te, e1, e2, l⟩ := evLc_ok o c h
  subst e1 e2
  exact pl3_lc c.calm c.nd l.hi l.ok l.hg l.ht l.he l.hix l.hs
theorem ixPlain_ok {b : Expr} (h : ixPlain b = true) : PlainIx b := by
  intro ov iv
  cases b <;> first | rfl | cases h
theorem stepE_ok (o : EvOk r) (c : CxE B k C X) (e : Expr) : PE3 X e (stepE r C e) := by
  have hcop : ∀ op, Op3 X (compareOp op) (cop C.w op) := fun op => by rw [← c.w]; exact cop_ok c.hu op
  unfold stepE
  split
  · exact evName_ok c
  · exact pe3_int
  · exact pe3_bl
  · exact pe3_str
  · exact pe3_non
  · split
    · rename_i h; exact pe3_tup (evA_ok o c h)
    · exact pe3_no
  · split
    · rename_i h; exact pe3_lv (pl3_list (evA_ok o c h))
    · exact pe3_no
  · exact pe3_op (bop_ok _) (o.E c _) (o.E c _)
  · exact pe3_not (o.E c _)
  · exact pe3_un un3_neg (o.E c _)
  · exact evAnd_ok o c _
  · exact evOr_ok o c _
  · split
    · rename_i h; exact pe3_cmp (hcop _) (o.E c _) (o.E c _) (notSet_marks h)
    · exact pe3_no
  · split
    · rename_i h; exact pe3_chain (hcop _) (hcop _) (o.E c _) (o.E c _) (o.E c _) (notSet_last h)
    · exact pe3_no
  · exact pe3_if (o.T c _) (o.E c _) (o.E c _)
  · exact evCall_ok o c
  · exact evMeth_ok o c
  · exact pe3_slice slop_ok (o.E c _) (evPart_ok o c _) (evPart_ok o c _)
  · split
    · rename_i h
      refine pe3_ix ?_ (o.E c _) (o.E c _) (ixPlain_ok h)
      rw [← c.w]; exact ixop_ok c.hu
    · exact pe3_no
  · rename_i elt gens scope pos
    cases q : evLc r C elt gens scope with
    | none => exact pe3_no
    | some t => exact pe3_lv (lc_pl o c q)
  · exact pe3_no
theorem stepL_ok (o : EvOk r) (c : CxE B k C X) (e : Expr) (t : TA3) (h : stepL r C e = some t) : PL3 X e t := by
  unfold stepL at h
  split at h
  · split at h
    · rename_i hp; cases h; exact pl3_list (evA_ok o c hp)
    · cases h
  · cases h; exact pl3_op opL3_cat (o.E c _) (o.E c _)
  · cases h; exact pl3_op opL3_mulV (o.E c _) (o.E c _)
  · exact evCallL_ok o c h
  · cases h; exact pl3_slice slL3 (o.E c _) (evPart_ok o c _) (evPart_ok o c _)
  · exact lc_pl o c h
  · cases h
theorem stepT_ok (o : EvOk r) (c : CxE B k C X) (e : Expr) : PT3 X e (stepT r C e) := by
  have hcop : ∀ op, Op3 X (compareOp op) (cop C.w op) := fun op => by rw [← c.w]; exact cop_ok c.hu op
  unfold stepT
  split
  · exact pt3_not (o.T c _)
  · exact (evAndT_ok o c _).pt
  · exact (evOrT_ok o c _).pt
  · split
    · rename_i h; exact pt3_cmp (hcop _) (o.E c _) (o.E c _) (notSet_marks h)
    · exact pt3_no
  · split
    · rename_i h; exact pt3_chain (hcop _) (hcop _) (o.E c _) (o.E c _) (o.E c _) (notSet_last h)
    · exact pt3_no
  · exact pt3_val (o.E c _) fun _ => rfl
  · exact pt3_val (o.E c _) fun _ => rfl
  · exact pt3_val (o.E c _) fun _ => rfl
  · exact pt3_val (o.E c _) fun _ => rfl
  · exact pt3_no
theorem pg3_no {e : Expr} : PG3 X e tNoG3 := fun W tk => ⟨fun pins s σ H v u Q I r q => by obtain ⟨_, _, _, _, _, _, _, _, h, _⟩ := q; exact h.elim⟩
theorem sub_asg {o i : Expr} {pos : Pos} (h : ixPlain i = true) (env : Env) (v : Value) : assign (.Subscript o i pos) env v = (do
      let ov ← holding [v] (eval o env)
      let iv ← holding [v, ov] (eval i env)
      standAt pos
      holding [v, ov, iv] (setItem ov iv v)
      release [v, ov, iv] []) := by
  cases i <;> first | rfl | cases h
theorem sub_aug {i : Expr} (h : ixPlain i = true) (ov iv new : Value) : augStore i ov iv new = (do holding [new, ov, iv] (setItem ov iv new); release [new, ov, iv] []; pure .next) := by
  cases i <;> first | rfl | cases h
theorem evG1_ok (o : EvOk r) (c : CxS B k C X) (e : Expr) : PG3 X e (evG1 r C e) := by
  unfold evG1
  split
  · split
    · rename_i i h
      obtain ⟨b1, b2, b3⟩ := bindS_ok c _ _ h
      exact pg3_name c.e.nd b1 b2 b3
    · exact pg3_no
  · split
    · rename_i h
      refine pg3_sub (o.E c.e _) (o.E c.e _) ?_ (sub_asg h X.env)
      rw [← c.e.w]; exact setop_ok c.e.hu
    · exact pg3_no
  · exact pg3_no
theorem evGs_ok (o : EvOk r) (c : CxS B k C X) : ∀ {es : List Expr}, plainAll es = true → PGs3 X es (evGs r C es)
  | [], _ => pgs3_nil
  | e :: es, h => by
    simp only [plainAll, Bool.and_eq_true] at h
    exact pgs3_cons (evG1_ok o c e) (evGs_ok o c h.2) (by rw [asg_cons h.1]; rfl)
theorem notLc_swaps {e : Expr} (h : isLc e = false) (t : Option Expr) (l : Nat) (env : Env) : swapsWith e t l env = pure false := by
  cases e <;> first | rfl | cases h
theorem notLc_sole {e : Expr} (h : isLc e = false) (t : Expr) (l : Nat) (env : Env) : swapsWithSole [t] e l env = pure false := by
  unfold swapsWithSole
  exact notLc_swaps h _ _ _
theorem notSeq_sw {v tg : Expr} (h : isSeqE v = false) (env : Env) : swappedStores [tg] v env = pure none := by
  cases v <;> first | (cases tg <;> rfl) | cases h
theorem lc_swaps {elt : Expr} {gens : List Comprehension} {scope : Scope} {vpos p : Pos} {x : Str} {l : Nat} {env : Env} (h : env.scope.names.lookup x = some .cell) : swapsWith (.ListComp elt gens scope vpos) (some (.Name x p)) l env = pure false := by
  have e : env.kindOf x = some .cell := h
  show (pure (env.blockKind == .function && env.kindOf x == some .local && p.line == vpos.line && !(scope.names.any fun (n, k) => n == x && (k == .local || k == .cell))) : Sem Bool) = pure false
  rw [e]
  have z : ((some NameKind.cell : Option NameKind) == some .local) = false := by decide
  rw [z, Bool.and_false, Bool.false_and, Bool.false_and]
theorem evAsg_ok (o : EvOk r) (c : CxS B k C X) {x : Str} {v : Expr} {p pos : Pos} : PS3 X (.Assign [.Name x p] v pos) (evAsg r C x v) := by
  unfold evAsg
  split
  · rename_i i h
    obtain ⟨b1, b2, b3⟩ := bindS_ok c _ _ h
    split
    · split
      · rename_i hm
        refine ps3_set c.e.nd b1 b2 ?_ rfl b3
        rw [← c.e.w]; exact pe3_dn
      · exact ps3_set c.e.nd b1 b2 pe3_dk rfl b3
    · rename_i elt gens scope vpos
      split
      · rename_i t ht
        have hpl := lc_pl (pos := vpos) o c.e ht
        obtain ⟨tge, iter, ifs, own, wi, tg, tt, te, e1, e2, l⟩ := evLc_ok o c.e ht
        have hb : ∃ b, swapsWith (.ListComp elt gens scope vpos) (some (.Name x p)) pos.line X.env = pure b := ⟨_, rfl⟩
        rcases b2 with b2' | b2'
        · obtain ⟨b, hb⟩ := hb
          cases b with
          | true =>
            subst e1 e2
            split
            · exact ps3_setLc c.e.calm c.e.nd b1 b2' hb l.hi l.ok l.hg l.ht l.he l.hix l.hs
            · exact ps3_setLv c.e.calm c.e.nd b1 b2' hb l.hi l.ok l.hg l.ht l.he l.hix l.hs
          | false =>
            split
            · exact ps3_setL c.e.nd b1 (.inl b2') hpl hb b3
            · exact ps3_setLV c.e.nd b1 (.inl b2') hpl hb b3
        · split
          · exact ps3_setL c.e.nd b1 (.inr b2') hpl (lc_swaps b2') b3
          · exact ps3_setLV c.e.nd b1 (.inr b2') hpl (lc_swaps b2') b3
      · exact ps3_never
    · exact ps3_never
    · exact ps3_never
    · rename_i hx1 hx2 hx3 hx4
      have hl : isLc v = false := by
        cases v <;> first | rfl | exact absurd rfl (hx2 _ _ _ _) | exact absurd rfl (hx3 _ _ _ _) | exact absurd rfl (hx4 _ _ _ _ _)
      split
      · rename_i t hm ht
        exact ps3_setL c.e.nd b1 b2 (o.L c.e v t ht) (notLc_swaps hl _ _ _) b3
      · exact ps3_set c.e.nd b1 b2 (o.E c.e v) (notLc_swaps hl _ _ _) b3
  · exact ps3_never
theorem stepS_ok (o : EvOk r) (c : CxS B k C X) (st : Stmt) : PS3 X st (stepS r C st) := by
  unfold stepS
  split
  · exact ps3_pass
  · exact ps3_break
  · exact ps3_continue
  · split
    · exact ps3_never
    · rename_i h; exact ps3_expr (o.E c.e _) (notLc_swaps h _ _ _)
  · exact ps3_retN
  · split
    · rename_i t h1 h2; exact ps3_ret (pe3_ln (o.L c.e _ _ h2))
    · exact ps3_ret (o.E c.e _)
  · exact ps3_if (o.T c.e _) (evSs_ok o c _) (evSs_ok o c _)
  · exact ps3_while c.pass (o.T c.e _) (evSs_ok o c _)
  · split
    · rename_i tg h1 h2
      split
      · rename_i wi h3
        exact ps3_for c.pass c.e.calm (evI_ok o c.e h3) (tgtOf_ok c.e.nd c.e.calm (bindS_ok c) h2) (evSs_ok o c _) (notSet_fold h1 X.env)
      · exact ps3_never
    · exact ps3_never
  · exact evAsg_ok o c
  · split
    · exact ps3_never
    · rename_i h
      simp only [Bool.or_eq_false_iff, Bool.not_eq_false'] at h
      obtain ⟨⟨h1, h2⟩, h3⟩ := h
      obtain ⟨a1, a2⟩ := asg_plain (env := X.env) h3
      exact ps3_asg (o.E c.e _) (pg3_tup c.e.calm (evGs_ok o c h3) a1 a2) (notLc_sole h1 _ _ _) (notSeq_sw h2 X.env) rfl
  · split
    · exact ps3_never
    · rename_i h
      simp only [Bool.or_eq_false_iff, Bool.not_eq_false'] at h
      refine ps3_asg (o.E c.e _) (pg3_sub (o.E c.e _) (o.E c.e _) ?_ (sub_asg h.2 X.env)) (notLc_sole h.1 _ _ _) ?_ rfl
      · rw [← c.e.w]; exact setop_ok c.e.hu
      · rename_i vv _
        cases vv <;> rfl
  · split
    · rename_i i h
      obtain ⟨b1, b2, b3⟩ := bindS_ok c _ _ h
      exact ps3_aug c.e.nd b1 b2 (o.E c.e _) (iop_ok _) b3
    · exact ps3_never
  · split
    · rename_i h
      refine ps3_augS (o.E c.e _) (o.E c.e _) (get3 c.e.hu1) (o.E c.e _) (iop_ok _) ?_ (sub_aug h)
      rw [← c.e.w]; exact setop_ok c.e.hu
    · exact ps3_never
  · exact ps3_never
end
theorem ev_ok : ∀ n, EvOk (ev n)
  | 0 => ⟨fun _ _ => pe3_no, fun _ _ _ h => (by cases h), fun _ _ => pt3_no, fun _ _ => ps3_never⟩
  | n + 1 => ⟨fun c e => stepE_ok (ev_ok n) c e, fun c e t h => stepL_ok (ev_ok n) c e t h, fun c e => stepT_ok (ev_ok n) c e, fun c st => stepS_ok (ev_ok n) c st⟩
end L3
namespace L3
open PySem PySem.Spec PyProof.Rows L2

def GlsOk (B : Bas) (k : Nat) : List (Str × Gl3) → Prop
  | [] => True
  | (x, .fn n sp) :: r => FnE B k x n sp ∧ GlsOk B k r
  | (x, .con d) :: r => (∃ u v, B.mg x = some u ∧ RelV v u ∧ Fix B.K d v) ∧ GlsOk B k r
  | (x, .free) :: r => B.mg x = none ∧ GlsOk B k r
def lookG : List (Str × Gl3) → Str → Option Gl3
  | [], _ => none
  | (y, g) :: r, x => if y = x then some g else lookG r x
theorem glsOk_get {B : Bas} {k : Nat} : ∀ {gls : List (Str × Gl3)} {x : Str} {g : Gl3}, GlsOk B k gls → lookG gls x = some g → GlsOk B k [(x, g)]
  | [], _, _, _, h => by cases h
  | (y, g') :: r, x, g, o, h => by
    unfold lookG at h
    split at h
    · rename_i e
      cases h
      subst e
      cases g' with
      | fn n sp => exact ⟨o.1, trivial⟩
      | con d => exact ⟨o.1, trivial⟩
      | free => exact ⟨o.1, trivial⟩
    · cases g' with
      | fn n sp => exact glsOk_get o.2 h
      | con d => exact glsOk_get o.2 h
      | free => exact glsOk_get o.2 h
def mkC (w : World) (N : List Str) (sc : Scope) (mu dn : List Str) (rm : Bool) (gls : List (Str × Gl3)) : C3 := { w := w, N := N, sc := sc, mu := mu, dn := dn, rm := rm, gl := lookG gls }
theorem cxS_of {B : Bas} {k : Nat} {N : List Str} {sc : Scope} {mu dn : List Str} {rm : Bool} {gls : List (Str × Gl3)} {X : Cx} (d : DefCx B k N sc X) (nd : N.Nodup) (kd : sc.kind = .function) (g : GlsOk B k gls) : CxS B k (mkC B.w N sc mu dn rm gls) X where
  e := ⟨d.b, d.b.w, d.N, d.sc, d.calm, by rw [d.N]; exact nd, fun x n sp h => (glsOk_get (g := .fn n sp) g h).1, fun x d h => (glsOk_get (g := .con d) g h).1, fun x h => (glsOk_get (g := .free) g h).1⟩
  pass := d.pass
  fn := fun x => by rw [d.fn]
  kind := kd
/-- THE RULE for a def by its computed reading -/
theorem fnE3 {B : Bas} {k n m : Nat} {x qual : Str} {params : Arguments} {body : List Stmt} {scope : Scope} {f : Addr} {fd : FuncData} {N ps : List Str} {sp : Sp3} {mu dn : List Str} {rm : Bool} {gls : List (Str × Gl3)} {t : TS3}
    (F : FunD B.K x qual params body scope [] [] f fd) (hm : B.mg x = some (.ref f)) (hb : Binds B.K fd ps []) (S : FnScope N ps scope) (hn : ps.length = n) (g : GlsOk B k gls)
    (ht : evSs (ev m) (mkC B.w N scope mu dn rm gls) body = t) (h : ∀ ds G E Q, ds.length = n → sp ds G E Q → t (defEnds E Q) (start3 N ds) G) : FnE B (k + 1) x n sp :=
  ⟨f, fd, ps, fn3 F S hn (fun X d => by rw [← ht]; exact evSs_ok (ev_ok m) (cxS_of d S.nd S.kind g) body) h, hm, F.kp, hb⟩
theorem fnOk3 {B : Bas} {k n m : Nat} {x qual : Str} {params : Arguments} {body : List Stmt} {scope : Scope} {f : Addr} {fd : FuncData} {N ps : List Str} {sp : Sp3} {mu dn : List Str} {rm : Bool} {gls : List (Str × Gl3)} {t : TS3}
    (F : FunD B.K x qual params body scope [] [] f fd) (S : FnScope N ps scope) (hn : ps.length = n) (g : GlsOk B k gls)
    (ht : evSs (ev m) (mkC B.w N scope mu dn rm gls) body = t) (h : ∀ ds G E Q, ds.length = n → sp ds G E Q → t (defEnds E Q) (start3 N ds) G) : FnOk B.P B.w B.K B.mg B.base (L2.CX B.P B.w) (k + 1) f fd ps (liftSp B.K n sp) :=
  fn3 F S hn (fun X d => by rw [← ht]; exact evSs_ok (ev_ok m) (cxS_of d S.nd S.kind g) body) h
theorem FnE.imp {B : Bas} {k n : Nat} {x : Str} {sp sp' : Sp3} (F : FnE B k x n sp) (h : ∀ ds G E Q, sp' ds G E Q → sp ds G E Q) : FnE B k x n sp' := by
  obtain ⟨f, fd, ps, o, r⟩ := F.ex
  exact ⟨f, fd, ps, o.imp fun vs H Q E ⟨ds, G, F, E3, Q3, a, b, c, d, e⟩ => ⟨ds, G, F, E3, Q3, a, b, c, h _ _ _ _ d, e⟩, r⟩
/-- several promises of one def at once: sp is their union -/
def LawSp (n : Nat) : Sp3 := fun ds _ _ Q => ∃ ns : List Int, ds = [.lst (ns.map D.int)] ∧ ns.length ≤ n ∧ (∀ z ∈ ns, Builtin.Int.intBits z ≤ 1048576) ∧ ∀ G', Q (.bl true) G'
theorem repL_ints {K : PySem.W.Frag} {G : Gp} {H : Hp} : ∀ ns : List Int, RepL K G H (ns.map D.int) (ns.map V.int)
  | [] => .nil
  | n :: ns => .cons (by simp only [Rep]) (repL_ints ns)
/-- a law: F gives the written part, the function object, the promise over every base -/
theorem law3 {l : PySem.W.OpenLaw} {n k : Nat} {q : Program} {loose : List Str} {XP : (Str → Option Value) → Heap → Prop} {YP : World → Heap → Prop} {d : DefRec} {x : Str}
    (hn : l.most = some n) (hn2 : n ≤ sizeLine) (hdf : d.params.defaults = []) (hr : Room k callerA)
    (F : ∀ (w : World) (mg : Str → Option Value) (fa : Addr) (h : Heap), YP w h → h.Ns mainGlobals mg → mg d.name = some (.ref fa) →
      ∃ (K : PySem.W.Frag) (fd : FuncData), K.In h ∧ (∀ (s : Shared) (u : Value), BindsTo s fd ⟨[u], []⟩ [(x, u)]) ∧
        ∀ base : Heap, K.In base → base.Ns mainGlobals mg → FnOk l.prog w K mg base (L2.CX l.prog w) k fa fd [x] (liftSp K 1 (LawSp n))) :
    PySem.W.WalkO q loose XP YP l.row.toRowW d [] (fun f vs => PySem.call f vs) := by
  refine Att.attach_callB hn hdf fun w s₀ s₁ mg mb fa o pm cd doc a vs ns G Y ho hd hcd hmg hobj hints hlen hbits hg => ?_
  obtain ⟨K, fd, KX, hb, hF⟩ := F w mg fa _ Y G.T.g hmg
  refine law_call KX G.T.g G.T.b G.T.builtins G.T.nolimit hg hobj hints (Nat.le_trans hlen hn2) hr hF hb (fun H hO hS => ?_) fun H e s' ⟨_, _, _, _, _, _, _, _, _, _, _, _, z⟩ => z
  refine ⟨[.lst (ns.map D.int)], fun _ => none, fun _ => none, fun _ _ _ => False, fun d _ => d = .bl true, ⟨fun _ _ e => (nomatch e), fun _ _ e => (nomatch e)⟩, .cons ?_ .nil, rfl, ⟨ns, rfl, hlen, hbits, fun _ => rfl⟩, fun _ _ _ z => z.elim, fun d G' e v H' t r => by subst e; exact rep_bl r⟩
  simp only [Rep]
  refine ⟨a, ns.map V.int, rfl, ?_, repL_ints ns⟩
  rcases hS with hS | ⟨o', its, nn, hk, hc, hd', hs, hz, hv⟩
  · exact .inl ⟨rfl, hS⟩
  · have e := (KX a o' hk).symm.trans hobj
    have e := Option.some.inj e
    subst e
    have hs : Data.seq vs.toArray _ = Data.seq its nn := hs
    cases hs
    exact .inr ⟨_, _, hk, hz, hv⟩
end L3
namespace L3
open PySem PySem.Spec PyProof.Rows L2
def uNeg3 : D → Gp → (D → Gp → Prop) → Prop := fun x G Q => match x with
    | .int i => Q (.int (-i)) G
    | _ => False
inductive Pl where
  | reg (n : Str)
  | hid (k : Int)
deriving DecidableEq
def Pl.d : Pl → D
  | .reg n => .tup [.str "reg", .str n]
  | .hid k => .tup [.str "hid", .int k]
def Pl.isReg : Pl → Bool
  | .reg _ => true
  | .hid _ => false
inductive Ord where
  | put (p : Pl) (v : Int)
  | move (p q : Pl)
  | alu (op : Str) (p q r : Pl)
  | load (p q : Pl)
  | store (p q : Pl)
def Ord.d : Ord → D
  | .put p v => .tup [.str "put", p.d, .int v]
  | .move p q => .tup [.str "move", p.d, q.d]
  | .alu op p q r => .tup [.str "alu", .str op, p.d, q.d, r.d]
  | .load p q => .tup [.str "load", p.d, q.d]
  | .store p q => .tup [.str "store", p.d, q.d]
inductive Fu where
  | go (n : Int)
  | test (p : Pl) (a b : Int)
  | fin
def Fu.d : Fu → D
  | .go n => .tup [.str "go", .int n]
  | .test p a b => .tup [.str "test", p.d, .int a, .int b]
  | .fin => .tup [.str "end"]
def Fu.nexts : Fu → List Int
  | .go n => [n]
  | .test _ a b => [a, b]
  | .fin => []
def Ord.traps : Ord → Bool
  | .load _ _ => true
  | .store _ _ => true
  | _ => false
def Ord.seen : Ord → Bool
  | .put p _ => p.isReg
  | .move p _ => p.isReg
  | .alu _ p _ _ => p.isReg
  | .load p _ => p.isReg
  | .store _ _ => true
abbrev Row := List Ord × Fu
def rowD (r : Row) : D := .tup [.tup (r.1.map Ord.d), r.2.d]
def progD (P : List Row) : D := .tup (P.map rowD)
def spNexts : Sp3 := fun ds G _ Q => ∃ f : Fu, ds = [f.d] ∧ Q (.lst (f.nexts.map .int)) G
def spMayTrap : Sp3 := fun ds G _ Q => ∃ os : List Ord, ds = [.tup (os.map Ord.d)] ∧ Q (.bl (os.any Ord.traps)) G
def spIsSeen : Sp3 := fun ds G _ Q => ∃ os : List Ord, ds = [.tup (os.map Ord.d)] ∧ Q (.bl (os.any Ord.seen)) G
theorem lcW_map {tg : Tgt} {tt : TT3} {te : TE3} {σ : St3} {g : D → D} {pb : D → Bool} : ∀ {items acc : List D} {G : Gp} {k : List D → Gp → Prop} {guard : Gp → Prop}, guard G →
    (∀ d ∈ items, ∃ τ, bind3 tg d σ = some τ ∧ (∀ Q : Bool → Gp → Prop, Q (pb d) G → tt τ G E03 Q) ∧ (pb d = true → ∀ Q : D → Gp → Prop, Q (g d) G → te τ G E03 Q)) →
    k (acc ++ (items.filter pb).map g) G → lcW tg tt te guard σ items acc G k
  | [], acc, G, k, guard, hg, _, h => ⟨hg, by simpa using h⟩
  | d :: ds, acc, G, k, guard, hg, hd, h => by
    obtain ⟨τ, h1, h2, h3⟩ := hd d List.mem_cons_self
    refine ⟨hg, ?_⟩
    rw [h1]
    refine h2 _ ?_
    cases q : pb d with
    | true =>
      refine h3 q _ ?_
      refine lcW_map hg (fun x hx => hd x (List.mem_cons_of_mem _ hx)) ?_
      rw [List.filter_cons_of_pos q] at h
      simpa using h
    | false =>
      refine lcW_map hg (fun x hx => hd x (List.mem_cons_of_mem _ hx)) ?_
      rw [List.filter_cons_of_neg (by rw [q]; exact Bool.false_ne_true)] at h
      exact h
theorem lcW_mapA {α : Type} (f : α → D) (g : α → D) (pb : α → Bool) {tg : Tgt} {tt : TT3} {te : TE3} {σ : St3} : ∀ {os : List α} {acc : List D} {G : Gp} {k : List D → Gp → Prop} {guard : Gp → Prop}, guard G →
    (∀ o ∈ os, ∃ τ, bind3 tg (f o) σ = some τ ∧ (∀ Q : Bool → Gp → Prop, Q (pb o) G → tt τ G E03 Q) ∧ (pb o = true → ∀ Q : D → Gp → Prop, Q (g o) G → te τ G E03 Q)) →
    k (acc ++ (os.filter pb).map g) G → lcW tg tt te guard σ (os.map f) acc G k
  | [], acc, G, k, guard, hg, _, h => ⟨hg, by simpa using h⟩
  | d :: ds, acc, G, k, guard, hg, hd, h => by
    obtain ⟨τ, h1, h2, h3⟩ := hd d List.mem_cons_self
    refine ⟨hg, ?_⟩
    rw [h1]
    refine h2 _ ?_
    cases q : pb d with
    | true =>
      refine h3 q _ ?_
      refine lcW_mapA f g pb hg (fun x hx => hd x (List.mem_cons_of_mem _ hx)) ?_
      rw [List.filter_cons_of_pos q] at h
      simpa using h
    | false =>
      refine lcW_mapA f g pb hg (fun x hx => hd x (List.mem_cons_of_mem _ hx)) ?_
      rw [List.filter_cons_of_neg (by rw [q]; exact Bool.false_ne_true)] at h
      exact h
theorem blsOf_map {α : Type} (f : α → D) (p : α → Bool) (h : ∀ a, f a = .bl (p a)) : ∀ l : List α, blsOf (l.map f) = some (l.map p)
  | [] => rfl
  | a :: l => by
    rw [List.map_cons, h a]
    simp only [blsOf]
    rw [blsOf_map f p h l]
    rfl
theorem intsOf_map : ∀ l : List Int, intsOf (l.map D.int) = some l
  | [] => rfl
  | a :: l => by
    rw [List.map_cons]
    simp only [intsOf]
    rw [intsOf_map l]
    rfl
end L3
namespace L3
open PySem PySem.Spec PyProof.Rows L2
/-- a length that is told at once -/
def Fit (l : List D) : Prop := l.length ≤ sizeLine
def Len (l : List D) (n : Nat) : Prop := l.length = n
theorem fit_le {l : List D} (h : l.length ≤ 1000000) : Fit l := by
  unfold Fit
  have : sizeLine = 16777216 := sizeLine_eq
  omega
theorem fit0 : Fit [] = True := eq_true (fit_le (by decide))
theorem fit1 {a : D} : Fit [a] = True := eq_true (fit_le (by simp))
theorem fit2 {a b : D} : Fit [a, b] = True := eq_true (fit_le (by simp))
theorem fit3 {a b c : D} : Fit [a, b, c] = True := eq_true (fit_le (by simp))
theorem fit4 {a b c d : D} : Fit [a, b, c, d] = True := eq_true (fit_le (by simp))
theorem fit5 {a b c d e : D} : Fit [a, b, c, d, e] = True := eq_true (fit_le (by simp))
theorem fit6 {a b c d e f : D} : Fit [a, b, c, d, e, f] = True := eq_true (fit_le (by simp))
theorem fit7 {a b c d e f g : D} : Fit [a, b, c, d, e, f, g] = True := eq_true (fit_le (by simp))
theorem fit8 {a b c d e f g h : D} : Fit [a, b, c, d, e, f, g, h] = True := eq_true (fit_le (by simp))
theorem len0 : Len [] 0 = True := eq_true rfl
theorem len1 {a : D} : Len [a] 1 = True := eq_true rfl
theorem len2 {a b : D} : Len [a, b] 2 = True := eq_true rfl
theorem len3 {a b c : D} : Len [a, b, c] 3 = True := eq_true rfl
theorem len4 {a b c d : D} : Len [a, b, c, d] 4 = True := eq_true rfl
theorem len5 {a b c d e : D} : Len [a, b, c, d, e] 5 = True := eq_true rfl
theorem len6 {a b c d e f : D} : Len [a, b, c, d, e, f] 6 = True := eq_true rfl
section
variable {w : World} {D1 : Ends3} {σ : St3} {G : Gp} {E : XK3} {Q : D → Gp → Prop} {QT : Bool → Gp → Prop} {QA : List D → Gp → Prop} {t u : TS3} {te ta tb tc : TE3} {tt tu : TT3} {tas : TA3} {i n : Nat} {d x y : D} {r : R3}
theorem q_seq : tSeq3 t u D1 σ G = t { D1 with nx := u D1 } σ G := rfl
theorem q_next : tNext3 D1 σ G = D1.nx σ G := rfl
theorem q_break : tBreak3 D1 σ G = D1.bk σ G := rfl
theorem q_cont : tCont3 D1 σ G = D1.ct σ G := rfl
theorem q_ifS : tIfS3 tt t u D1 σ G = tt σ G (fun c fs G => D1.ex c fs σ G) fun k G1 => match k with
  | true => t D1 σ G1
  | false => u D1 σ G1 := rfl
theorem q_drop : tDrop3 te D1 σ G = te σ G (fun c fs G => D1.ex c fs σ G) fun _ G1 => D1.nx σ G1 := rfl
theorem q_ret : tRet3 te D1 σ G = te σ G (fun c fs G => D1.ex c fs σ G) D1.rt := rfl
theorem q_retN : tRetN3 D1 σ G = D1.rt .non G := rfl
theorem q_asg {g : TG3} : tAsg3 te g D1 σ G = te σ G (fun c fs G => D1.ex c fs σ G) fun x G1 => g x σ G1 (fun c fs G => D1.ex c fs σ G) D1.nx := rfl
theorem q_setN : tSetN3 tas i D1 σ G = tas σ G (fun c fs G => D1.ex c fs σ G) fun ds G1 => ∀ a, G1 a = none → D1.nx (σ.set i (some (.ref a))) (gup G1 a (.lst ds)) := rfl
theorem q_setV : tSetV3 tas i D1 σ G = tas σ G (fun c fs G => D1.ex c fs σ G) fun ds G1 => D1.nx (σ.set i (some (.lst ds))) G1 := rfl
theorem q_aug : tAug3 i te r D1 σ G = match σ[i]? with
  | some (some x) => te σ G (fun c fs G => D1.ex c fs σ G) fun y G1 => r x y G1 fun z G2 => D1.nx (σ.set i (some z)) G2
  | _ => False := rfl
theorem q_augS {to ti : TE3} {rg rp : R3} {rs : RSet3} : tAugS3 to ti te rg rp rs D1 σ G = to σ G (fun c fs G => D1.ex c fs σ G) fun o G1 => ti σ G1 (fun c fs G => D1.ex c fs σ G) fun i G2 => rg o i G2 fun x G3 => te σ G3 (fun c fs G => D1.ex c fs σ G) fun y G4 => rp x y G4 fun z G5 => rs o i z G5 fun G6 => D1.nx σ G6 := rfl
theorem q_gName {QS : St3 → Gp → Prop} : gName3 i x σ G E QS = QS (σ.set i (some x)) G := rfl
theorem q_gNil {QS : St3 → Gp → Prop} : gNil3 [] σ G QS = QS σ G := rfl
theorem q_gCons {g : TG3} {gs : TGs3} {xs : List D} {QS : St3 → Gp → Prop} : gCons3 g gs (x :: xs) σ G QS = g x σ G (fun _ _ _ => False) fun σ' G' => gs xs σ' G' QS := rfl
theorem q_gTupT {gs : TGs3} {xs : List D} {QS : St3 → Gp → Prop} : gTup3 n gs (.tup xs) σ G E QS = (Len xs n ∧ gs xs σ G QS) := rfl
theorem q_gTupL {gs : TGs3} {xs : List D} {QS : St3 → Gp → Prop} : gTup3 n gs (.lst xs) σ G E QS = (Len xs n ∧ gs xs σ G QS) := rfl
theorem q_gSub {to ti : TE3} {rs : RSet3} {QS : St3 → Gp → Prop} : gSub3 to ti rs x σ G E QS = to σ G E fun o G1 => ti σ G1 E fun i G2 => rs o i x G2 fun G3 => QS σ G3 := rfl
theorem q_var : tVar3 i σ G E Q = match σ[i]? with
  | some (some d) => Q d G
  | _ => False := rfl
theorem q_c : tC3 d σ G E Q = Q d G := rfl
theorem q_nil : tNil3 σ G E QA = QA [] G := rfl
theorem q_cons : tCons3 te tas σ G E QA = te σ G E fun x G1 => tas σ G1 E fun xs G2 => QA (x :: xs) G2 := rfl
theorem q_tup : tTup3 tas σ G E Q = tas σ G E fun ds G1 => Fit ds ∧ Q (.tup ds) G1 := rfl
theorem q_ls : tLs3 tas σ G E QA = tas σ G E fun ds G1 => Fit ds ∧ QA ds G1 := rfl
theorem q_lv : tLv3 tas σ G E Q = tas σ G E fun ds G1 => Q (.lst ds) G1 := rfl
theorem q_ln : tLn3 tas σ G E Q = tas σ G E fun ds G1 => ∀ a, G1 a = none → Q (.ref a) (gup G1 a (.lst ds)) := rfl
theorem q_op : tOp3 r ta tb σ G E Q = ta σ G E fun x G1 => tb σ G1 E fun y G2 => r x y G2 Q := rfl
theorem q_B : tB3 te σ G E QT = te σ G E fun x G1 => match x with
  | .bl k => QT k G1
  | _ => False := rfl
theorem q_chain {r' : R3} : tChain3 r r' ta tb tc σ G E Q = ta σ G E fun x G1 => tb σ G1 E fun y G2 => r x y G2 fun z G3 => match z with
  | .bl true => tc σ G3 E fun w G4 => r' y w G4 Q
  | .bl false => Q (.bl false) G3
  | _ => False := rfl
theorem q_and : tAnd3 tt tu σ G E QT = tt σ G E fun k G1 => match k with
  | true => tu σ G1 E QT
  | false => QT false G1 := rfl
theorem q_or : tOr3 tt tu σ G E QT = tt σ G E fun k G1 => match k with
  | true => QT true G1
  | false => tu σ G1 E QT := rfl
theorem q_not : tNot3 tt σ G E QT = tt σ G E fun k G1 => QT (!k) G1 := rfl
theorem q_andV : tAndV3 ta tb σ G E Q = ta σ G E fun x G1 => match x with
  | .bl true => tb σ G1 E Q
  | .bl false => Q (.bl false) G1
  | _ => False := rfl
theorem q_orV : tOrV3 ta tb σ G E Q = ta σ G E fun x G1 => match x with
  | .bl true => Q (.bl true) G1
  | .bl false => tb σ G1 E Q
  | _ => False := rfl
theorem q_notV : tNotV3 ta σ G E Q = ta σ G E fun x G1 => match x with
  | .bl k => Q (.bl (!k)) G1
  | _ => False := rfl
theorem q_if : tIf3 tt ta tb σ G E Q = tt σ G E fun k G1 => match k with
  | true => ta σ G1 E Q
  | false => tb σ G1 E Q := rfl
theorem q_un {f : D → Gp → (D → Gp → Prop) → Prop} : tUn3 f ta σ G E Q = ta σ G E fun x G1 => f x G1 Q := rfl
theorem q_call {sp : Sp3} : tCall3 n sp tas σ G E Q = tas σ G E fun ds G1 => Len ds n ∧ sp ds G1 E Q := rfl
theorem q_cb {f : F3} : tCB3 f tas σ G E Q = tas σ G E fun ds G1 => f ds G1 Q := rfl
theorem q_cbl {f : FL3} : tCBL3 f tas σ G E QA = tas σ G E fun ds G1 => f ds G1 QA := rfl
theorem q_opL {f : D → D → Gp → (List D → Gp → Prop) → Prop} : tOpL3 f ta tb σ G E QA = ta σ G E fun x G1 => tb σ G1 E fun y G2 => f x y G2 QA := rfl
theorem q_noP {QO : Option Int → Gp → Prop} : tNoP3 σ G E QO = QO none G := rfl
theorem q_part {QO : Option Int → Gp → Prop} : tPart3 te σ G E QO = te σ G E fun x G1 => match x with
  | .int i => QO (some i) G1
  | _ => False := rfl
theorem q_sl {f : RS3} {tl th : TO3} : tSl3 f te tl th σ G E Q = te σ G E fun x G1 => tl σ G1 E fun l G2 => th σ G2 E fun u G3 => f x l u G3 Q := rfl
theorem q_mt {rm : Mk → Option RM3} : tMt3 rm te tas σ G E Q = te σ G E fun x G1 => match mkOf G1 x with
  | some k => (match rm k with
    | some r => tas σ G1 E fun ds G2 => r x ds G2 Q
    | none => False)
  | none => False := rfl
theorem q_lc {wi : TI3} {tg : Tgt} {vs : List Nat} : tLc3 wi tg tt te vs σ G E QA = wi σ G E fun items guard G1 => lcW tg tt te guard (wipe3 σ vs) items [] G1 QA := rfl
theorem q_yes : tYes3 σ G E QT = QT true G := rfl
theorem q_I {R : RI3} : tI3 te σ G E R = te σ G E fun x G1 => walk3 x G1 R := rfl
theorem q_rg1 {R : RI3} : tRg1 tas σ G E R = tas σ G E fun ds G1 => range1 ds G1 R := rfl
theorem q_rg2 {R : RI3} : tRg2 tas σ G E R = tas σ G E fun ds G1 => range2 ds G1 R := rfl
theorem q_for {wi : TI3} {tg : Tgt} : tFor3 wi tg t D1 σ G = wi σ G (fun c fs G => D1.ex c fs σ G) fun items guard G1 => ∃ τ G2, Wk σ G1 τ G2 ∧ forW tg t guard items D1 τ G2 := rfl
theorem q_rt {E : XK3} : (defEnds E Q).rt = RetQ Q := rfl
theorem q_nx {E : XK3} : (defEnds E Q).nx σ G = RetQ Q .non G := rfl
theorem ret_same (h : Q d G) : RetQ Q d G := ⟨d, G, WkV.refl d G, h⟩
theorem ret_sub {G' : Gp} (s : Sub G' G) (h : Q d G') : RetQ Q d G := ⟨d, G', WkV.sub s, h⟩
theorem v_mt_lst {G : Gp} {a : Addr} {l : List D} (h : G a = some (.lst l)) : mkOf G (.ref a) = some .lst := by simp [mkOf, h]
theorem v_ixT {l : List D} {j : Int} : ixop w (.tup l) (.int j) G Q = seqAt l j G Q := rfl
theorem v_ixL {l : List D} {j : Int} : ixop w (.lst l) (.int j) G Q = seqAt l j G Q := rfl
theorem v_ixR {a : Addr} {l : List D} {j : Int} (h : G a = some (.lst l)) : ixop w (.ref a) (.int j) G Q = seqAt l j G Q := by
  simp only [ixop, rIte, isDn, h, rIx3]
theorem v_at {l : List D} {j : Nat} {d : D} (h : l[j]? = some d) : seqAt l (j : Int) G Q = Q d G := by
  have hl := (List.getElem?_eq_some_iff.mp h).1
  unfold seqAt atI ixN
  have h1 : (0 : Int) ≤ (j : Int) := by omega
  have h2 : (j : Int) < (l.length : Int) := by omega
  rw [if_pos h1, if_pos h2]
  simp [h]
theorem v_at0 {a : D} {l : List D} : seqAt (a :: l) 0 G Q = Q a G := v_at (j := 0) rfl
theorem v_at1 {a b : D} {l : List D} : seqAt (a :: b :: l) 1 G Q = Q b G := v_at (j := 1) rfl
theorem v_at2 {a b c : D} {l : List D} : seqAt (a :: b :: c :: l) 2 G Q = Q c G := v_at (j := 2) rfl
theorem v_at3 {a b c e : D} {l : List D} : seqAt (a :: b :: c :: e :: l) 3 G Q = Q e G := v_at (j := 3) rfl
theorem v_eqS {a b : Str} : cop w .Eq (.str a) (.str b) G Q = Q (.bl (decide (a = b))) G := rfl
theorem v_eqI {a b : Int} : cop w .Eq (.int a) (.int b) G Q = Q (.bl (decide (a = b))) G := rfl
theorem v_eqB {a b : Bool} : cop w .Eq (.bl a) (.bl b) G Q = Q (.bl (decide (a = b))) G := rfl
theorem v_eqNI {b : Int} : cop w .Eq .non (.int b) G Q = Q (.bl false) G := rfl
theorem v_neS {a b : Str} : cop w .NotEq (.str a) (.str b) G Q = Q (.bl (!decide (a = b))) G := rfl
theorem v_neI {a b : Int} : cop w .NotEq (.int a) (.int b) G Q = Q (.bl (!decide (a = b))) G := rfl
theorem v_neB {a b : Bool} : cop w .NotEq (.bl a) (.bl b) G Q = Q (.bl (!decide (a = b))) G := rfl
theorem v_lt {a b : Int} : cop w .Lt (.int a) (.int b) G Q = Q (.bl (decide (a < b))) G := rfl
theorem v_le {a b : Int} : cop w .LtE (.int a) (.int b) G Q = Q (.bl (decide (a ≤ b))) G := rfl
theorem v_gt {a b : Int} : cop w .Gt (.int a) (.int b) G Q = Q (.bl (decide (b < a))) G := rfl
theorem v_ge {a b : Int} : cop w .GtE (.int a) (.int b) G Q = Q (.bl (decide (b ≤ a))) G := rfl
theorem v_is : cop w .Is x .non G Q = Q (.bl (isNon x)) G := rfl
theorem v_isn : cop w .IsNot x .non G Q = Q (.bl (!isNon x)) G := rfl
theorem v_nonN : isNon .non = true := rfl
theorem v_nonI {a : Int} : isNon (.int a) = false := rfl
theorem v_nonT {a : List D} : isNon (.tup a) = false := rfl
theorem v_nonL {a : List D} : isNon (.lst a) = false := rfl
theorem v_inT {l : List D} : cop w .In x (.tup l) G Q = (flatD x = true ∧ l.all flatD = true ∧ Q (.bl (anyD x l)) G) := rfl
theorem v_ninT {l : List D} : cop w .NotIn x (.tup l) G Q = (flatD x = true ∧ l.all flatD = true ∧ Q (.bl (!anyD x l)) G) := rfl
theorem v_flS {a : Str} : flatD (.str a) = true := rfl
theorem v_flI {a : Int} : flatD (.int a) = true := rfl
theorem v_any0 : anyD x [] = false := rfl
theorem v_anyC {l : List D} : anyD x (y :: l) = (deq y x || anyD x l) := rfl
theorem v_deqS {a b : Str} : deq (.str a) (.str b) = (a == b) := by simp [deq]
theorem v_deqI {a b : Int} : deq (.int a) (.int b) = (a == b) := by simp [deq]
theorem v_addI {a b : Int} : bop .Add (.int a) (.int b) G Q = Q (.int (a + b)) G := rfl
theorem v_addT {a b : List D} : bop .Add (.tup a) (.tup b) G Q = (a.length + b.length ≤ sizeLine ∧ Q (.tup (a ++ b)) G) := rfl
theorem v_addL {a b : List D} : bop .Add (.lst a) (.lst b) G Q = (a.length + b.length ≤ sizeLine ∧ Q (.lst (a ++ b)) G) := rfl
theorem v_addR {p : Addr} {a b : List D} (h : G p = some (.lst a)) : bop .Add (.ref p) (.lst b) G Q = (a.length + b.length ≤ sizeLine ∧ Q (.lst (a ++ b)) G) := by
  unfold bop rIte isLs rV rCat3 lstOf
  simp only [vw, h]
  rfl
theorem v_subI {a b : Int} : bop .Sub (.int a) (.int b) G Q = Q (.int (a - b)) G := rfl
theorem v_mulI {a b : Int} : bop .Mult (.int a) (.int b) G Q = (CMulW a b ∧ Q (.int (a * b)) G) := rfl
theorem v_mulL {a : List D} {b : Int} : bop .Mult (.lst a) (.int b) G Q = (-(2 ^ 63) ≤ b ∧ b < 2 ^ 63 ∧ a.length * b.toNat ≤ sizeLine ∧ Q (.lst (List.replicate b.toNat a).flatten) G) := rfl
theorem v_divI {a b : Int} : bop .FloorDiv (.int a) (.int b) G Q = (CDivW a b ∧ Q (.int (a / b)) G) := rfl
theorem v_modI {a b : Int} : bop .Mod (.int a) (.int b) G Q = (0 < b ∧ Q (.int (a % b)) G) := rfl
theorem v_powI {a b : Int} : bop .Pow (.int a) (.int b) G Q = (CPow a b ∧ Q (.int (a ^ b.toNat)) G) := rfl
theorem v_iaddI {a b : Int} : iop .Add (.int a) (.int b) G Q = Q (.int (a + b)) G := rfl
theorem v_neg {a : Int} : uNeg3 (.int a) G Q = Q (.int (-a)) G := rfl
theorem v_intB {b : Bool} : rInt3 [.bl b] G Q = Q (.int (if b then 1 else 0)) G := rfl
theorem v_intI {b : Int} : rInt3 [.int b] G Q = Q (.int b) G := rfl
theorem v_lenT {l : List D} : rLen3 [.tup l] G Q = Q (.int l.length) G := rfl
theorem v_lenL {l : List D} : rLen3 [.lst l] G Q = Q (.int l.length) G := rfl
theorem v_tupL {l : List D} : rTup3 [.lst l] G Q = Q (.tup l) G := rfl
theorem v_tupT {l : List D} : rTup3 [.tup l] G Q = Q (.tup l) G := rfl
theorem v_tupR {p : Addr} {l : List D} (h : G p = some (.lst l)) : rTup3 [.ref p] G Q = Q (.tup l) G := by
  simp only [rTup3, lstOf, vw, h]
theorem v_any {l : List D} {bs : List Bool} (h : blsOf l = some bs) : rAny3 [.lst l] G Q = Q (.bl (bs.any id)) G := by
  simp only [rAny3, rBls3, lstOf, vw, h]
theorem v_all {l : List D} {bs : List Bool} (h : blsOf l = some bs) : rAll3 [.lst l] G Q = Q (.bl (bs.all id)) G := by
  simp only [rAll3, rBls3, lstOf, vw, h]
theorem v_min {l : List Int} (h : l ≠ []) : rMin3 [.lst (l.map D.int)] G Q = Q (.int (minI l)) G := by
  simp only [rMin3, rInts3, lstOf, vw, intsOf_map]
  cases l with
  | nil => exact absurd rfl h
  | cons _ _ => simp
theorem v_walkT {l : List D} {R : RI3} : walk3 (.tup l) G R = R l yes3 G := rfl
theorem v_walkL {l : List D} {R : RI3} : walk3 (.lst l) G R = R l yes3 G := rfl
theorem v_rg1 {j : Int} {R : RI3} : range1 [.int j] G R = (-(2 ^ 62) ≤ j ∧ j ≤ sizeLine ∧ R (rng 0 j.toNat) yes3 G) := rfl
theorem v_bindN : bind3 (.nm i) d σ = some (σ.set i (some d)) := rfl
theorem v_slL {l : List D} {lo hi : Option Int} : slop (.lst l) lo hi G Q = Q (.lst (cutD l lo hi)) G := rfl
end
theorem ofString_inj {a b : String} (h : Str.ofString a = Str.ofString b) : a = b := by
  rw [Str.ofString_eq_toList, Str.ofString_eq_toList] at h
  have h1 : a.toList.map Char.toNat = b.toList.map Char.toNat := by
    have := congrArg (fun s : Str => s.cps.toList) h
    simpa using this
  have h2 : a.toList = b.toList := (List.map_inj_right (f := Char.toNat) fun x y e => Char.ext (UInt32.toNat_inj.mp e)).mp h1
  exact String.toList_injective h2
theorem ofString_eq {a b : String} : (Str.ofString a = Str.ofString b) = (a = b) := propext ⟨ofString_inj, fun h => by rw [h]⟩
theorem ofString_beq {a b : String} : (Str.ofString a == Str.ofString b) = (a == b) := by
  rw [Bool.eq_iff_iff, beq_iff_eq, beq_iff_eq, ofString_eq]
end L3
namespace L3
open PySem PySem.Spec PyProof.Rows L2
local macro_rules | `(tactic| walk_at "rd") => `(tactic| (repeat (first | dsimp only [q_seq, q_next, q_break, q_cont, q_ifS, q_drop, q_ret, q_retN, q_asg, q_setN, q_setV, q_aug, q_augS, q_gName, q_gNil, q_gCons, q_gTupT, q_gTupL, q_gSub, q_var, q_c, q_nil, q_cons, q_tup, q_ls, q_lv, q_ln, q_op, q_B, q_chain, q_and, q_or, q_not, q_andV, q_orV, q_notV, q_if, q_un, q_call, q_cb, q_cbl, q_opL, q_noP, q_part, q_sl, q_lc, q_yes, q_I, q_rg1, q_rg2, q_for, q_rt, q_nx, v_ixT, v_ixL, v_eqS, v_eqI, v_eqB, v_eqNI, v_neS, v_neI, v_neB, v_lt, v_le, v_gt, v_ge, v_is, v_isn, v_nonN, v_nonI, v_nonT, v_nonL, v_inT, v_ninT, v_flS, v_flI, v_any0, v_anyC, v_addI, v_addT, v_addL, v_subI, v_mulI, v_mulL, v_divI, v_modI, v_powI, v_iaddI, v_neg, v_intB, v_intI, v_lenT, v_lenL, v_tupL, v_tupT, v_walkT, v_walkL, v_rg1, v_bindN, v_slL, List.getElem?_cons_zero, List.getElem?_cons_succ, List.set_cons_zero, List.set_cons_succ, wipe3] | simp only [fit0, fit1, fit2, fit3, fit4, fit5, fit6, fit7, fit8, len0, len1, len2, len3, len4, len5, len6, v_at0, v_at1, v_at2, v_at3, v_deqS, v_deqI, ofString_eq, ofString_beq, true_and, and_true, decide_true, decide_false, Bool.not_true, Bool.not_false, Bool.true_and, Bool.false_and, Bool.and_true, Bool.and_false, Bool.or_false, Bool.or_true, Bool.true_or, Bool.false_or, if_true, if_false, reduceIte, List.all_cons, List.all_nil, beq_self_eq_true])))
def tNexts (w : World) : TS3 :=
  (tSeq3 (tIfS3 (tB3 (tOp3 (cop w .Eq) (tOp3 (ixop w) (tVar3 0) (tC3 (.int 0))) (tC3 (.str "go")))) (tSeq3 (tRet3 (tLv3 (tLs3 (tCons3 (tOp3 (ixop w) (tVar3 0) (tC3 (.int 1))) tNil3))))
   tNext3) tNext3)
  (tSeq3 (tIfS3 (tB3 (tOp3 (cop w .Eq) (tOp3 (ixop w) (tVar3 0) (tC3 (.int 0))) (tC3 (.str "test")))) (tSeq3 (tRet3 (tLv3 (tLs3 (tCons3 (tOp3 (ixop w) (tVar3 0) (tC3 (.int 2))) (tCons3 (tOp3 (ixop w) (tVar3 0) (tC3 (.int 3))) tNil3)))))
   tNext3) tNext3)
  (tSeq3 (tRet3 (tLv3 (tLs3 tNil3)))
  tNext3)))
theorem small_le {n : Nat} (h : n ≤ 1000000) : n ≤ sizeLine := by
  have : sizeLine = 16777216 := sizeLine_eq
  omega
theorem h_nexts (w : World) : ∀ ds G E Q, ds.length = 1 → spNexts ds G E Q → tNexts w (defEnds E Q) (start3 ["further"] ds) G := by
  intro ds G E Q _ ⟨f, e, q⟩
  subst e
  show tNexts w (defEnds E Q) [some f.d] G
  unfold tNexts
  cases f with
  | go n =>
    simp only [Fu.d]
    walk_at "rd"
    exact ret_same q
  | test p a b =>
    simp only [Fu.d]
    walk_at "rd"
    exact ret_same q
  | fin =>
    simp only [Fu.d]
    walk_at "rd"
    exact ret_same q
def tMayTrap (w : World) : TS3 :=
  (tSeq3 (tRet3 (tCB3 rAny3 (tCons3 (tLv3 (tLc3 (tI3 (tVar3 0)) (.nm 1) tYes3 (tOp3 (cop w .In) (tOp3 (ixop w) (tVar3 1) (tC3 (.int 0))) (tTup3 (tCons3 (tC3 (.str "load")) (tCons3 (tC3 (.str "store")) tNil3)))) [1])) tNil3)))
  tNext3)
theorem h_mayTrap (w : World) : ∀ ds G E Q, ds.length = 1 → spMayTrap ds G E Q → tMayTrap w (defEnds E Q) (start3 ["orders", "order"] ds) G := by
  intro ds G E Q _ ⟨os, e, q⟩
  subst e
  show tMayTrap w (defEnds E Q) [some (.tup (os.map Ord.d)), none] G
  unfold tMayTrap
  walk_at "rd"
  refine lcW_mapA Ord.d (fun o => .bl o.traps) (fun _ => true) trivial (fun o _ => ⟨_, rfl, fun Q h => h, fun _ Q h => ?_⟩) ?_
  · cases o <;> (simp only [Ord.traps] at h; simp only [Ord.d]; walk_at "rd"; simpa using h)
  · rw [List.nil_append, List.filter_eq_self.mpr (fun _ _ => rfl)]
    rw [v_any (bs := os.map Ord.traps) (blsOf_map _ Ord.traps (fun o => rfl) os)]
    rw [List.any_map]
    exact ret_same q
def tIsSeen (w : World) : TS3 :=
  (tSeq3 (tRet3 (tCB3 rAny3 (tCons3 (tLv3 (tLc3 (tI3 (tVar3 0)) (.nm 1) tYes3 (tOrV3 (tOp3 (cop w .Eq) (tOp3 (ixop w) (tVar3 1) (tC3 (.int 0))) (tC3 (.str "store"))) (tOp3 (cop w .Eq) (tOp3 (ixop w) (tOp3 (ixop w) (tVar3 1) (tOp3 (bop .Add) (tC3 (.int 1)) (tCB3 rInt3 (tCons3 (tOp3 (cop w .Eq) (tOp3 (ixop w) (tVar3 1) (tC3 (.int 0))) (tC3 (.str "alu"))) tNil3)))) (tC3 (.int 0))) (tC3 (.str "reg")))) [1])) tNil3)))
  tNext3)
theorem h_isSeen (w : World) : ∀ ds G E Q, ds.length = 1 → spIsSeen ds G E Q → tIsSeen w (defEnds E Q) (start3 ["orders", "order"] ds) G := by
  intro ds G E Q _ ⟨os, e, q⟩
  subst e
  show tIsSeen w (defEnds E Q) [some (.tup (os.map Ord.d)), none] G
  unfold tIsSeen
  walk_at "rd"
  refine lcW_mapA Ord.d (fun o => .bl o.seen) (fun _ => true) trivial (fun o _ => ⟨_, rfl, fun Q h => h, fun _ Q h => ?_⟩) ?_
  · cases o with
    | put p v => cases p <;> (simp only [Ord.seen, Pl.isReg] at h; simp only [Ord.d, Pl.d]; walk_at "rd"; exact h)
    | move p v => cases p <;> (simp only [Ord.seen, Pl.isReg] at h; simp only [Ord.d, Pl.d]; walk_at "rd"; exact h)
    | alu o p v r => cases p <;> (simp only [Ord.seen, Pl.isReg] at h; simp only [Ord.d, Pl.d]; walk_at "rd"; exact h)
    | load p v => cases p <;> (simp only [Ord.seen, Pl.isReg] at h; simp only [Ord.d, Pl.d]; walk_at "rd"; exact h)
    | store p v => simp only [Ord.seen] at h; simp only [Ord.d, Pl.d]; walk_at "rd"; exact h
  · rw [List.nil_append, List.filter_eq_self.mpr (fun _ _ => rfl)]
    rw [v_any (bs := os.map Ord.seen) (blsOf_map _ Ord.seen (fun o => rfl) os)]
    rw [List.any_map]
    exact ret_same q
end L3
namespace L3
open PySem PySem.Spec PyProof.Rows L2
abbrev Stt := Int × Bool
def stD (s : Stt) : D := .tup [.int s.1, .bl s.2]
def rowAt (P : List Row) (i : Int) : Option Row := if 0 ≤ i then P[i.toNat]? else none
def hitS (P : List Row) (s : Stt) : Bool := s.2 && (match rowAt P s.1 with
  | some r => r.1.any Ord.traps
  | none => false)
def nextS (P : List Row) (s : Stt) : List Stt := match rowAt P s.1 with
  | some r => r.2.nexts.map fun m => (m, s.2 || r.1.any Ord.seen)
  | none => []
inductive Reach (P : List Row) : Stt → Prop
  | hit {s : Stt} (h : hitS P s = true) : Reach P s
  | step {s u : Stt} (h : u ∈ nextS P s) (r : Reach P u) : Reach P s
def Wf (P : List Row) : Prop := ∀ r ∈ P, ∀ m ∈ r.2.nexts, 0 ≤ m ∧ m < P.length
def InP (P : List Row) (s : Stt) : Prop := 0 ≤ s.1 ∧ s.1 < P.length
def spShows : Sp3 := fun ds G _ Q => ∃ (P : List Row) (n : Int) (s : Bool), ds = [progD P, .int n, .bl s] ∧ Wf P ∧ InP P (n, s) ∧ P.length ≤ 1000000 ∧ ∀ b : Bool, (b = true ↔ Reach P (n, s)) → Q (.bl b) G
def allS (P : List Row) : List Stt := (List.range P.length).flatMap fun i : Nat => [(((i : Nat) : Int), true), (((i : Nat) : Int), false)]
theorem allS_mem {P : List Row} {s : Stt} (h : InP P s) : s ∈ allS P := by
  obtain ⟨i, b⟩ := s
  obtain ⟨h1, h2⟩ := h
  simp only at h1 h2
  unfold allS
  rw [List.mem_flatMap]
  refine ⟨i.toNat, by rw [List.mem_range]; omega, ?_⟩
  have e : ((i.toNat : Nat) : Int) = i := by omega
  rw [e]
  cases b <;> simp
theorem allS_len (P : List Row) : (allS P).length = 2 * P.length := by
  unfold allS
  generalize P.length = n
  induction n with
  | zero => rfl
  | succ n ih => rw [List.range_succ, List.flatMap_append, List.length_append, ih]; simp; omega
/-- those not visited -/
def unvL {α : Type} [DecidableEq α] (l vis : List α) : Nat := (l.filter fun s => decide (s ∉ vis)).length
def unv (P : List Row) (vis : List Stt) : Nat := unvL (allS P) vis
theorem filter_le {α : Type} [DecidableEq α] {x : α} {vis : List α} (l : List α) : (l.filter fun s => decide (s ∉ vis ++ [x])).length ≤ (l.filter fun s => decide (s ∉ vis)).length := by
  induction l with
  | nil => exact Nat.le_refl _
  | cons b l ih =>
    by_cases hb : b ∈ vis
    · rw [List.filter_cons_of_neg (p := fun s => decide (s ∉ vis)) (by simp [hb]), List.filter_cons_of_neg (by simp [hb])]
      exact ih
    · rw [List.filter_cons_of_pos (p := fun s => decide (s ∉ vis)) (by simp [hb])]
      by_cases hb2 : b = x
      · rw [List.filter_cons_of_neg (by simp [hb2])]
        exact Nat.le_succ_of_le ih
      · rw [List.filter_cons_of_pos (by simp [hb2, hb])]
        exact Nat.succ_le_succ ih
theorem filter_lt {α : Type} [DecidableEq α] {x : α} {vis : List α} : ∀ {l : List α}, x ∈ l → x ∉ vis → (l.filter fun s => decide (s ∉ vis ++ [x])).length < (l.filter fun s => decide (s ∉ vis)).length
  | a :: l, hm, hn => by
    by_cases ha : a = x
    · subst ha
      rw [List.filter_cons_of_pos (p := fun s => decide (s ∉ vis)) (by simp [hn]), List.filter_cons_of_neg (by simp)]
      exact Nat.lt_succ_of_le (filter_le l)
    · have hm' : x ∈ l := by
        rcases List.mem_cons.mp hm with z | z
        · exact absurd z.symm ha
        · exact z
      have ih := filter_lt hm' hn
      by_cases hb : a ∈ vis
      · rw [List.filter_cons_of_neg (p := fun s => decide (s ∉ vis)) (by simp [hb]), List.filter_cons_of_neg (by simp [hb])]
        exact ih
      · rw [List.filter_cons_of_pos (p := fun s => decide (s ∉ vis)) (by simp [hb]), List.filter_cons_of_pos (by simp [ha, hb])]
        exact Nat.succ_lt_succ ih
theorem unv_lt {P : List Row} {vis : List Stt} {s : Stt} (h : InP P s) (hn : s ∉ vis) : unv P (vis ++ [s]) < unv P vis := filter_lt (allS_mem h) hn
def stKey (s : Stt) : NestedKey := .tup [.num s.1, .num (if s.2 then 1 else 0)]
theorem nkey_st (s : Stt) : nkey (stD s) = some (stKey s) := by
  simp [stD, nkey, nkeys, stKey]
theorem stKey_inj {s u : Stt} (h : stKey s = stKey u) : s = u := by
  obtain ⟨a, b⟩ := s
  obtain ⟨c, d⟩ := u
  simp only [stKey, NestedKey.tup.injEq, List.cons.injEq, NestedKey.num.injEq, and_true] at h
  obtain ⟨h1, h2⟩ := h
  subst h1
  cases b <;> cases d <;> simp at h2 ⊢
theorem stKey_depth (s : Stt) : (stKey s).depth ≤ 8 := by
  simp [stKey, NestedKey.depth, NestedKey.depthAll]
def visD (vis : List Stt) : List (D × D) := vis.map fun s => (stD s, .bl true)
theorem visD_val (s : Stt) : ∀ vis : List Stt, (dnVal (visD vis) (stKey s)).isSome = decide (s ∈ vis)
  | [] => by simp [visD, dnVal]
  | u :: vis => by
    have ih := visD_val s vis
    unfold dnVal visD at ih ⊢
    rw [List.map_cons, List.find?_cons]
    by_cases h : u = s
    · subst h
      simp [nkey_st]
    · have h2 : stKey u ≠ stKey s := fun z => h (stKey_inj z)
      have h3 : decide (nkey (stD u) = some (stKey s)) = false := by rw [nkey_st]; simpa using h2
      simp only [h3]
      rw [ih]
      have : (s = u) = False := by simp; exact fun z => h z.symm
      simp [this]
theorem visD_put {s : Stt} {vis : List Stt} (h : s ∉ vis) : dnPut (visD vis) (stD s) (stKey s) (.bl true) = visD (vis ++ [s]) := by
  unfold dnPut
  rw [visD_val, decide_eq_false h]
  simp [visD]
def G2 (w : World) (G : Gp) (a : Addr) (l : List D) (b : Addr) (k : List (D × D)) : Gp := gup (gup G a (.lst l)) b (.dn w k)
section
variable {w : World} {G : Gp} {a b : Addr} {l l' : List D} {k k' : List (D × D)}
theorem G2_a (h : a ≠ b) : G2 w G a l b k a = some (.lst l) := by unfold G2; rw [gup_ne h, gup_same]
theorem G2_b : G2 w G a l b k b = some (.dn w k) := gup_same
theorem G2_setA (h : a ≠ b) : gup (G2 w G a l b k) a (.lst l') = G2 w G a l' b k := by
  funext c
  unfold G2 gup
  by_cases h1 : c = a
  · subst h1; simp [h]
  · by_cases h2 : c = b
    · subst h2; simp [h1]
    · simp [h1, h2]
theorem G2_setB : gup (G2 w G a l b k) b (.dn w k') = G2 w G a l b k' := gup_gup
theorem G2_sub (ha : G a = none) (hb : G b = none) (h : a ≠ b) : Sub G (G2 w G a l b k) := (Sub.gup ha).trans (Sub.gup (by rw [gup_ne (Ne.symm h)]; exact hb))
end
section
variable {w : World} {G : Gp} {Q : D → Gp → Prop} {p : Addr} {l : List D}
theorem v_neR (h : G p = some (.lst l)) (h1 : oks3 59 l = true) (q : Q (.bl (!l.isEmpty)) G) : cop w .NotEq (.ref p) (.lst []) G Q := by
  show rNe3 (.ref p) (.lst []) G Q
  unfold rNe3
  simp only [scalD, vw, h, ok3, oks3]
  refine ⟨h1, trivial, ?_⟩
  have e : deq (.lst l) (.lst []) = l.isEmpty := by cases l <;> simp [deq, deqs]
  rw [e]
  exact q
theorem v_inDn {kvs : List (D × D)} {l : List D} {k : NestedKey} (h : G p = some (.dn w kvs)) (hk : nkey (.tup l) = some k) (hd : k.depth ≤ 8) (q : Q (.bl (dnVal kvs k).isSome) G) : cop w .In (.tup l) (.ref p) G Q := by
  show rIte (fun _ y G => isDn y G) (rInN w false) (rIn3 false) (.tup l) (.ref p) G Q
  unfold rIte
  simp only [isDn, h]
  show rInN w false (.tup l) (.ref p) G Q
  unfold rInN atDn
  simp only [h, hk]
  exact ⟨trivial, hd, q⟩
theorem v_setDn {kvs : List (D × D)} {l : List D} {k : NestedKey} {v : D} {Q : Gp → Prop} (h : G p = some (.dn w kvs)) (hk : nkey (.tup l) = some k) (hd : k.depth ≤ 8) (hl : kvs.length < sizeLine) (q : Q (gup G p (.dn w (dnPut kvs (.tup l) k v)))) : setop w (.ref p) (.tup l) v G Q := by
  show sIte isDn (rSetN w) rSet3 (.ref p) (.tup l) v G Q
  unfold sIte
  simp only [isDn, h]
  show rSetN w (.ref p) (.tup l) v G Q
  unfold rSetN atDn
  simp only [h, hk]
  exact ⟨trivial, hd, hl, q⟩
theorem v_atI {l : List D} {i : Int} {d : D} (h0 : 0 ≤ i) (h : l[i.toNat]? = some d) : seqAt l i G Q = Q d G := by
  have q := v_at (G := G) (Q := Q) h
  rwa [Int.toNat_of_nonneg h0] at q
end
theorem mtab_extend : mtab "extend" .lst = some mExtend := by simp [mtab, ofString_eq]
theorem mtab_append : mtab "append" .lst = some mAppend := by simp [mtab, ofString_eq]
theorem mtab_pop : mtab "pop" .lst = some mPop := by simp [mtab, ofString_eq]
theorem stD_ok (l : List Stt) : oks3 59 (l.map stD) = true := by
  induction l with
  | nil => rfl
  | cons a l ih =>
    rw [List.map_cons]
    simp only [oks3, ih, Bool.and_true]
    simp [stD, ok3, oks3]
theorem v_pop {G : Gp} {Q : D → Gp → Prop} {p : Addr} {l : List D} {x : D} (h : G p = some (.lst (l ++ [x]))) : mPop (.ref p) [] G Q = Q x (gup G p (.lst l)) := by
  unfold mPop mLst
  simp only [h]
  simp
theorem v_ext {G : Gp} {Q : D → Gp → Prop} {p : Addr} {l m : List D} (h : G p = some (.lst l)) : mExtend (.ref p) [.lst m] G Q = (l.length + m.length ≤ sizeLine ∧ Q .non (gup G p (.lst (l ++ m)))) := by
  unfold mExtend mLst
  simp only [h]
  rfl
theorem v_app {G : Gp} {Q : D → Gp → Prop} {p : Addr} {l : List D} {x : D} (h : G p = some (.lst l)) : mAppend (.ref p) [x] G Q = (l.length < sizeLine ∧ Q .non (gup G p (.lst (l ++ [x])))) := by
  unfold mAppend mLst
  simp only [h]
theorem q_mtV {i : Nat} {tas : TA3} {σ : St3} {G : Gp} {E : XK3} {Q : D → Gp → Prop} {rm : Mk → Option RM3} {x : D} {k : Mk} {r : RM3} (hs : σ[i]? = some (some x)) (h : mkOf G x = some k) (hr : rm k = some r) (hq : tas σ G E fun ds G2 => r x ds G2 Q) : tMt3 rm (tVar3 i) tas σ G E Q := by
  unfold tMt3 tVar3
  rw [hs]
  simp only [h, hr]
  exact hq
end L3
namespace L3
open PySem PySem.Spec PyProof.Rows L2
local macro_rules | `(tactic| walk_at "rd") => `(tactic| (repeat (first | dsimp only [q_seq, q_next, q_break, q_cont, q_ifS, q_drop, q_ret, q_retN, q_asg, q_setN, q_setV, q_aug, q_augS, q_gName, q_gNil, q_gCons, q_gTupT, q_gTupL, q_gSub, q_var, q_c, q_nil, q_cons, q_tup, q_ls, q_lv, q_ln, q_op, q_B, q_chain, q_and, q_or, q_not, q_andV, q_orV, q_notV, q_if, q_un, q_call, q_cb, q_cbl, q_opL, q_noP, q_part, q_sl, q_lc, q_yes, q_I, q_rg1, q_rg2, q_for, q_rt, q_nx, v_ixT, v_ixL, v_eqS, v_eqI, v_eqB, v_eqNI, v_neS, v_neI, v_neB, v_lt, v_le, v_gt, v_ge, v_is, v_isn, v_nonN, v_nonI, v_nonT, v_nonL, v_inT, v_ninT, v_flS, v_flI, v_any0, v_anyC, v_addI, v_addT, v_addL, v_subI, v_mulI, v_mulL, v_divI, v_modI, v_powI, v_iaddI, v_neg, v_intB, v_intI, v_lenT, v_lenL, v_tupL, v_tupT, v_walkT, v_walkL, v_rg1, v_bindN, v_slL, List.getElem?_cons_zero, List.getElem?_cons_succ, List.set_cons_zero, List.set_cons_succ, wipe3] | simp only [fit0, fit1, fit2, fit3, fit4, fit5, fit6, fit7, fit8, len0, len1, len2, len3, len4, len5, len6, v_at0, v_at1, v_at2, v_at3, v_deqS, v_deqI, ofString_eq, ofString_beq, true_and, and_true, decide_true, decide_false, Bool.not_true, Bool.not_false, Bool.true_and, Bool.false_and, Bool.and_true, Bool.and_false, Bool.or_false, Bool.or_true, Bool.true_or, Bool.false_or, if_true, if_false, reduceIte, List.all_cons, List.all_nil, beq_self_eq_true])))
abbrev N_shows : List Str := ["program", "number", "seen", "left", "known", "at", "some", "orders", "further", "one"]
def tShowsB (w : World) : TS3 :=
   (tSeq3 (tAsg3 (tMt3 (mtab "pop") (tVar3 3) tNil3) (gTup3 2 (gCons3 (gName3 5) (gCons3 (gName3 6) gNil3))))
   (tSeq3 (tIfS3 (tB3 (tOp3 (cop w .In) (tTup3 (tCons3 (tVar3 5) (tCons3 (tVar3 6) tNil3))) (tVar3 4))) (tSeq3 tCont3
    tNext3) tNext3)
   (tSeq3 (tAsg3 (tC3 (.bl true)) (gSub3 (tVar3 4) (tTup3 (tCons3 (tVar3 5) (tCons3 (tVar3 6) tNil3))) (setop w)))
   (tSeq3 (tAsg3 (tOp3 (ixop w) (tVar3 0) (tVar3 5)) (gTup3 2 (gCons3 (gName3 7) (gCons3 (gName3 8) gNil3))))
   (tSeq3 (tIfS3 (tAnd3 (tB3 (tVar3 6)) (tB3 (tCall3 1 spMayTrap (tCons3 (tVar3 7) tNil3)))) (tSeq3 (tRet3 (tC3 (.bl true)))
    tNext3) tNext3)
   (tSeq3 (tDrop3 (tMt3 (mtab "extend") (tVar3 3) (tCons3 (tLv3 (tLc3 (tI3 (tCall3 1 spNexts (tCons3 (tVar3 8) tNil3))) (.nm 9) tYes3 (tTup3 (tCons3 (tVar3 9) (tCons3 (tOrV3 (tVar3 6) (tCall3 1 spIsSeen (tCons3 (tVar3 7) tNil3))) tNil3))) [9])) tNil3)))
   tNext3))))))
def tShows (w : World) : TS3 :=
  (tSeq3 (tSetN3 (tLs3 (tCons3 (tTup3 (tCons3 (tVar3 1) (tCons3 (tVar3 2) tNil3))) tNil3)) 3)
  (tSeq3 (tAsg3 (tDn3 w) (gName3 4))
  (tSeq3 (tWhile3 (tB3 (tOp3 (cop w .NotEq) (tVar3 3) (tLv3 (tLs3 tNil3)))) (tShowsB w))
  (tSeq3 (tRet3 (tC3 (.bl false)))
  tNext3))))
structure ShI (P : List Row) (st : Stt) (left vis : List Stt) : Prop where
  inl : ∀ s ∈ left, InP P s
  from_ : ∀ s ∈ left, Reach P s → Reach P st
  nohit : ∀ s ∈ vis, hitS P s = false
  closed : ∀ s ∈ vis, ∀ u ∈ nextS P s, u ∈ vis ∨ u ∈ left
  start : st ∈ vis ∨ st ∈ left
  size : vis.length + unv P vis ≤ 2 * P.length
theorem ShI.no {P : List Row} {st : Stt} {vis : List Stt} (h : ShI P st [] vis) : ¬ Reach P st := by
  have key : ∀ s, Reach P s → s ∉ vis := by
    intro s r
    induction r with
    | hit h1 => intro hm; rw [h.nohit _ hm] at h1; cases h1
    | step h1 _ ih =>
      intro hm
      rcases h.closed _ hm _ h1 with z | z
      · exact ih z
      · cases z
  intro r
  rcases h.start with z | z
  · exact key _ r z
  · cases z
theorem rowAt_some {P : List Row} {s : Stt} (h : InP P s) : ∃ r, rowAt P s.1 = some r ∧ P[s.1.toNat]? = some r ∧ r ∈ P := by
  obtain ⟨h1, h2⟩ := h
  have h3 : s.1.toNat < P.length := by omega
  refine ⟨P[s.1.toNat], ?_, List.getElem?_eq_getElem h3, List.getElem_mem h3⟩
  unfold rowAt
  rw [if_pos h1, List.getElem?_eq_getElem h3]
theorem nextS_in {P : List Row} (wf : Wf P) {s u : Stt} (h : u ∈ nextS P s) : InP P u := by
  unfold nextS at h
  split at h
  · rename_i r hr
    obtain ⟨m, hm, e⟩ := List.mem_map.mp h
    subst e
    have hr' : r ∈ P := by
      unfold rowAt at hr
      split at hr
      · exact List.mem_of_getElem? hr
      · cases hr
    exact wf r hr' m hm
  · cases h
theorem nextS_len {P : List Row} (s : Stt) : (nextS P s).length ≤ 2 := by
  unfold nextS
  split
  · rename_i r hr
    rw [List.length_map]
    cases r.2 <;> simp [Fu.nexts]
  · simp
theorem ShI.skip {P : List Row} {st u : Stt} {lf vis : List Stt} (I : ShI P st (lf ++ [u]) vis) (h : u ∈ vis) : ShI P st lf vis := by
  refine ⟨fun x hx => I.inl x (by simp [hx]), fun x hx => I.from_ x (by simp [hx]), I.nohit, fun x hx v hv => ?_, ?_, I.size⟩
  · rcases I.closed x hx v hv with z | z
    · exact .inl z
    · rcases List.mem_append.mp z with z | z
      · exact .inr z
      · simp at z; subst z; exact .inl h
  · rcases I.start with z | z
    · exact .inl z
    · rcases List.mem_append.mp z with z | z
      · exact .inr z
      · simp at z; subst z; exact .inl h
theorem ShI.add {P : List Row} (wf : Wf P) {st u : Stt} {lf vis : List Stt} (I : ShI P st (lf ++ [u]) vis) (h : u ∉ vis) (hh : hitS P u = false) : ShI P st (lf ++ nextS P u) (vis ++ [u]) := by
  have hu : InP P u := I.inl u (by simp)
  refine ⟨fun x hx => ?_, fun x hx r => ?_, fun x hx => ?_, fun x hx v hv => ?_, ?_, ?_⟩
  · rcases List.mem_append.mp hx with z | z
    · exact I.inl x (by simp [z])
    · exact nextS_in wf z
  · rcases List.mem_append.mp hx with z | z
    · exact I.from_ x (by simp [z]) r
    · exact I.from_ u (by simp) (.step z r)
  · rcases List.mem_append.mp hx with z | z
    · exact I.nohit x z
    · simp at z; subst z; exact hh
  · rcases List.mem_append.mp hx with z | z
    · rcases I.closed x z v hv with y | y
      · exact .inl (by simp [y])
      · rcases List.mem_append.mp y with y | y
        · exact .inr (by simp [y])
        · simp at y; subst y; exact .inl (by simp)
    · simp at z; subst z; exact .inr (by simp [hv])
  · rcases I.start with z | z
    · exact .inl (by simp [z])
    · rcases List.mem_append.mp z with z | z
      · exact .inr (by simp [z])
      · simp at z; subst z; exact .inl (by simp)
  · have := unv_lt (P := P) hu h
    have := I.size
    simp
    omega
theorem h_showsB (w : World) {P : List Row} {n : Int} {s : Bool} {G : Gp} {a b : Addr} {E : XK3} {Q : D → Gp → Prop} {A : St3 → Gp → Prop} {bk : St3 → Gp → Prop} {ex : Value → List (Str × D) → St3 → Gp → Prop} {lf vis : List Stt} {u : Stt} {o5 o6 o7 o8 o9 : Option D}
    (wf : Wf P) (hP : P.length ≤ 1000000) (ha : G a = none) (hb : G b = none) (hab : a ≠ b) (q : ∀ b : Bool, (b = true ↔ Reach P (n, s)) → Q (.bl b) G)
    (I : ShI P (n, s) (lf ++ [u]) vis) (hm : 3 * unv P vis + (lf ++ [u]).length ≤ 6 * P.length + 1)
    (hA : ∀ lf' vis' o5 o6 o7 o8 o9, ShI P (n, s) lf' vis' → 3 * unv P vis' + lf'.length < 3 * unv P vis + (lf ++ [u]).length → A [some (progD P), some (.int n), some (.bl s), some (.ref a), some (.ref b), o5, o6, o7, o8, o9] (G2 w G a (lf'.map stD) b (visD vis'))) :
    tShowsB w ⟨A, RetQ Q, bk, A, ex⟩ [some (progD P), some (.int n), some (.bl s), some (.ref a), some (.ref b), o5, o6, o7, o8, o9] (G2 w G a ((lf ++ [u]).map stD) b (visD vis)) := by
  have hu : InP P u := I.inl u (by simp)
  obtain ⟨r, hr1, hr2, hr3⟩ := rowAt_some hu
  have hw : vis.length ≤ 2 * P.length := by have := I.size; omega
  have hz : sizeLine = 16777216 := sizeLine_eq
  unfold tShowsB
  walk_at "rd"
  refine q_mtV rfl (v_mt_lst (G2_a hab)) mtab_pop ?_
  show mPop _ [] _ _
  rw [v_pop (l := lf.map stD) (x := stD u) (by rw [G2_a hab, List.map_append]; rfl), G2_setA hab]
  obtain ⟨ui, ub⟩ := u
  simp only [stD]
  walk_at "rd"
  refine v_inDn G2_b (nkey_st (ui, ub)) (stKey_depth _) ?_
  rw [visD_val]
  by_cases hv : (ui, ub) ∈ vis
  · rw [decide_eq_true hv]
    exact hA lf vis _ _ _ _ _ (I.skip hv) (by rw [List.length_append]; exact Nat.lt_succ_self _)
  · rw [decide_eq_false hv]
    walk_at "rd"
    refine v_setDn G2_b (nkey_st (ui, ub)) (stKey_depth _) (by unfold visD; rw [List.length_map]; omega) ?_
    rw [show dnPut (visD vis) (.tup [.int ui, .bl ub]) (stKey (ui, ub)) (.bl true) = visD (vis ++ [(ui, ub)]) from visD_put hv, G2_setB]
    unfold progD
    rw [v_ixT, v_atI hu.1 (d := rowD r) (by rw [List.getElem?_map, hr2]; rfl)]
    simp only [rowD]
    walk_at "rd"
    have ext : tMt3 (mtab "extend") (tVar3 3) (tCons3 (tLv3 (tLc3 (tI3 (tCall3 1 spNexts (tCons3 (tVar3 8) tNil3))) (.nm 9) tYes3 (tTup3 (tCons3 (tVar3 9) (tCons3 (tOrV3 (tVar3 6) (tCall3 1 spIsSeen (tCons3 (tVar3 7) tNil3))) tNil3))) [9])) tNil3)
        [some (.tup (P.map rowD)), some (.int n), some (.bl s), some (.ref a), some (.ref b), some (.int ui), some (.bl ub), some (.tup (r.1.map Ord.d)), some r.2.d, o9] (G2 w G a (lf.map stD) b (visD (vis ++ [(ui, ub)])))
        (fun c fs G => ex c fs [some (.tup (P.map rowD)), some (.int n), some (.bl s), some (.ref a), some (.ref b), some (.int ui), some (.bl ub), some (.tup (r.1.map Ord.d)), some r.2.d, o9] G)
        (fun _ G1 => A [some (.tup (P.map rowD)), some (.int n), some (.bl s), some (.ref a), some (.ref b), some (.int ui), some (.bl ub), some (.tup (r.1.map Ord.d)), some r.2.d, o9] G1) ∨ hitS P (ui, ub) = true := by
      by_cases hh : hitS P (ui, ub) = true
      · exact .inr hh
      · refine .inl (q_mtV rfl (v_mt_lst (G2_a hab)) mtab_extend ?_)
        walk_at "rd"
        refine ⟨r.2, rfl, ?_⟩
        walk_at "rd"
        refine lcW_mapA D.int (fun m => stD (m, ub || r.1.any Ord.seen)) (fun _ => true) trivial (fun m _ => ⟨_, rfl, fun Q h => h, fun _ Q h => ?_⟩) ?_
        · walk_at "rd"
          cases ub with
          | true => walk_at "rd"; exact h
          | false => walk_at "rd"; refine ⟨r.1, rfl, ?_⟩; walk_at "rd"; exact h
        · rw [List.nil_append, List.filter_eq_self.mpr (fun _ _ => rfl)]
          rw [v_ext (G2_a hab), G2_setA hab]
          have en : r.2.nexts.map (fun m => stD (m, ub || r.1.any Ord.seen)) = (nextS P (ui, ub)).map stD := by
            unfold nextS
            rw [hr1]
            simp
          have h2 := nextS_len (P := P) (ui, ub)
          have h3 := unv_lt (P := P) hu hv
          have h4 : (lf ++ [(ui, ub)]).length = lf.length + 1 := by simp
          rw [en]
          refine ⟨by simp only [List.length_map]; omega, ?_⟩
          rw [← List.map_append]
          exact hA _ _ _ _ _ _ _ (I.add wf hv (by simpa using hh)) (by rw [List.length_append, h4]; omega)
    rcases ext with ext | hit
    · cases ub with
      | true =>
        walk_at "rd"
        refine ⟨r.1, rfl, ?_⟩
        walk_at "rd"
        cases ht : r.1.any Ord.traps with
        | true =>
          walk_at "rd"
          exact ret_sub (G2_sub ha hb hab) (q true ⟨fun _ => I.from_ (ui, true) (by simp) (.hit (by simp only [hitS, hr1, ht]; rfl)), fun _ => rfl⟩)
        | false =>
          walk_at "rd"
          exact ext
      | false =>
        walk_at "rd"
        exact ext
    · have hit' := hit
      simp only [hitS, hr1, Bool.and_eq_true] at hit'
      obtain ⟨h1, h2⟩ := hit'
      subst h1
      walk_at "rd"
      refine ⟨r.1, rfl, ?_⟩
      walk_at "rd"
      rw [h2]
      walk_at "rd"
      exact ret_sub (G2_sub ha hb hab) (q true ⟨fun _ => I.from_ (ui, true) (by simp) (.hit hit), fun _ => rfl⟩)
/-- the invariant of the search -/
def ShW (w : World) (P : List Row) (n : Int) (s : Bool) (G : Gp) (a b : Addr) (m : Nat) (σ : St3) (G1 : Gp) : Prop := ∃ left vis o5 o6 o7 o8 o9, σ = [some (progD P), some (.int n), some (.bl s), some (.ref a), some (.ref b), o5, o6, o7, o8, o9] ∧ G1 = G2 w G a (left.map stD) b (visD vis) ∧ ShI P (n, s) left vis ∧ m = 3 * unv P vis + left.length ∧ m ≤ 6 * P.length + 1
theorem h_shows (w : World) : ∀ ds G E Q, ds.length = 3 → spShows ds G E Q → tShows w (defEnds E Q) (start3 N_shows ds) G := by
  intro ds G E Q _ ⟨P, n, s, e, wf, hin, hP, q⟩
  subst e
  show tShows w (defEnds E Q) [some (progD P), some (.int n), some (.bl s), none, none, none, none, none, none, none] G
  have hu0 : unv P [] ≤ 2 * P.length := by
    have : unv P [] ≤ (allS P).length := List.length_filter_le _ _
    rw [allS_len] at this
    exact this
  unfold tShows
  walk_at "rd"
  intro a ha b hb
  have hab : a ≠ b := fun z => by rw [z, gup_same] at hb; cases hb
  have hb' : G b = none := by rw [gup_ne (Ne.symm hab)] at hb; exact hb
  refine ⟨ShW w P n s G a b, ⟨_, _, _, Wk.refl _ _, [(n, s)], [], none, none, none, none, none, rfl, rfl, ⟨?_, ?_, ?_, ?_, ?_, ?_⟩, rfl, ?_⟩, ?_⟩
  · intro u hu; simp at hu; subst hu; exact hin
  · intro u hu; simp at hu; subst hu; exact id
  · intro u hu; cases hu
  · intro u hu; cases hu
  · exact .inr (by simp)
  · simpa using hu0
  · simp only [List.length_singleton]
    omega
  · rintro m σ G1 ⟨left, vis, o5, o6, o7, o8, o9, rfl, rfl, I, rfl, hm⟩
    walk_at "rd"
    refine v_neR (G2_a hab) (stD_ok left) ?_
    rcases List.eq_nil_or_concat left with hl | ⟨lf, u, hl⟩
    · subst hl
      show RetQ Q (.bl false) _
      exact ret_sub (G2_sub ha hb' hab) (q false ⟨fun z => (nomatch z), fun z => (I.no z).elim⟩)
    · rw [List.concat_eq_append] at hl
      subst hl
      have e : (!((lf ++ [u]).map stD).isEmpty) = true := by simp
      rw [e]
      walk_at "rd"
      refine h_showsB (E := E) w wf hP ha hb' hab q I hm fun lf' vis' o5 o6 o7 o8 o9 I' h' => ?_
      exact ⟨_, _, _, h', Wk.refl _ _, lf', vis', o5, o6, o7, o8, o9, rfl, rfl, I', rfl, by omega⟩
end L3
namespace L3
open PySem PySem.Spec PyProof.Rows L2
local macro_rules | `(tactic| walk_at "rd") => `(tactic| (repeat (first | dsimp only [q_seq, q_next, q_break, q_cont, q_ifS, q_drop, q_ret, q_retN, q_asg, q_setN, q_setV, q_aug, q_augS, q_gName, q_gNil, q_gCons, q_gTupT, q_gTupL, q_gSub, q_var, q_c, q_nil, q_cons, q_tup, q_ls, q_lv, q_ln, q_op, q_B, q_chain, q_and, q_or, q_not, q_andV, q_orV, q_notV, q_if, q_un, q_call, q_cb, q_cbl, q_opL, q_noP, q_part, q_sl, q_lc, q_yes, q_I, q_rg1, q_rg2, q_for, q_rt, q_nx, v_ixT, v_ixL, v_eqS, v_eqI, v_eqB, v_eqNI, v_neS, v_neI, v_neB, v_lt, v_le, v_gt, v_ge, v_is, v_isn, v_nonN, v_nonI, v_nonT, v_nonL, v_inT, v_ninT, v_flS, v_flI, v_any0, v_anyC, v_addI, v_addT, v_addL, v_subI, v_mulI, v_mulL, v_divI, v_modI, v_powI, v_iaddI, v_neg, v_intB, v_intI, v_lenT, v_lenL, v_tupL, v_tupT, v_walkT, v_walkL, v_rg1, v_bindN, v_slL, List.getElem?_cons_zero, List.getElem?_cons_succ, List.set_cons_zero, List.set_cons_succ, wipe3] | simp only [fit0, fit1, fit2, fit3, fit4, fit5, fit6, fit7, fit8, len0, len1, len2, len3, len4, len5, len6, v_at0, v_at1, v_at2, v_at3, v_deqS, v_deqI, ofString_eq, ofString_beq, true_and, and_true, decide_true, decide_false, Bool.not_true, Bool.not_false, Bool.true_and, Bool.false_and, Bool.and_true, Bool.and_false, Bool.or_false, Bool.or_true, Bool.true_or, Bool.false_or, if_true, if_false, reduceIte, List.all_cons, List.all_nil, beq_self_eq_true])))
abbrev N_unsafe : List Str := ["machine", "program", "way", "number", "seen", "orders", "further", "one"]
inductive Way (P : List Row) : Int → Bool → List Int → Prop
  | stop {n : Int} {s : Bool} {r : Row} (hr : rowAt P n = some r) (h : (s && r.1.any Ord.traps) = true) : Way P n s [n]
  | step {n m : Int} {s : Bool} {r : Row} {rest : List Int} (pb : Int → Bool) (hr : rowAt P n = some r) (h : (s && r.1.any Ord.traps) = false)
      (hp : ∀ x ∈ r.2.nexts, (pb x = true ↔ Reach P (x, s || r.1.any Ord.seen))) (ne : r.2.nexts.filter pb ≠ []) (hm : minI (r.2.nexts.filter pb) = m) (w : Way P m (s || r.1.any Ord.seen) rest) : Way P n s (n :: rest)
theorem Way.pos {P : List Row} {n : Int} {s : Bool} {l : List Int} (h : Way P n s l) : 0 < l.length := by cases h <;> simp
def spUnsafe : Sp3 := fun ds G _ Q => ∃ (m : D) (P : List Row), ds = [m, progD P] ∧ Wf P ∧ InP P (0, false) ∧ P.length ≤ 1000000 ∧ ((¬ Reach P (0, false) ∧ Q .non G) ∨ (Reach P (0, false) ∧ ∃ way, Way P 0 false way ∧ way.length ≤ 1000000 ∧ Q (.tup (way.map D.int)) G))
def tUnsafeB (w : World) : TS3 :=
   (tSeq3 (tAsg3 (tOp3 (bop .Add) (tVar3 2) (tTup3 (tCons3 (tVar3 3) tNil3))) (gName3 2))
   (tSeq3 (tAsg3 (tOp3 (ixop w) (tVar3 1) (tVar3 3)) (gTup3 2 (gCons3 (gName3 5) (gCons3 (gName3 6) gNil3))))
   (tSeq3 (tIfS3 (tAnd3 (tB3 (tVar3 4)) (tB3 (tCall3 1 spMayTrap (tCons3 (tVar3 5) tNil3)))) (tSeq3 (tRet3 (tVar3 2))
    tNext3) tNext3)
   (tSeq3 (tAsg3 (tOrV3 (tVar3 4) (tCall3 1 spIsSeen (tCons3 (tVar3 5) tNil3))) (gName3 4))
   (tSeq3 (tAsg3 (tCB3 rMin3 (tCons3 (tLv3 (tLc3 (tI3 (tCall3 1 spNexts (tCons3 (tVar3 6) tNil3))) (.nm 7) (tB3 (tCall3 3 spShows (tCons3 (tVar3 1) (tCons3 (tVar3 7) (tCons3 (tVar3 4) tNil3))))) (tVar3 7) [7])) tNil3)) (gName3 3))
   tNext3)))))
def tUnsafe (w : World) : TS3 :=
  (tSeq3 (tIfS3 (tNot3 (tB3 (tCall3 3 spShows (tCons3 (tVar3 1) (tCons3 (tC3 (.int 0)) (tCons3 (tC3 (.bl false)) tNil3)))))) (tSeq3 (tRet3 (tC3 .non))
   tNext3) tNext3)
  (tSeq3 (tAsg3 (tTup3 tNil3) (gName3 2))
  (tSeq3 (tAsg3 (tC3 (.int 0)) (gName3 3))
  (tSeq3 (tAsg3 (tC3 (.bl false)) (gName3 4))
  (tSeq3 (tWhile3 (tB3 (tC3 (.bl true))) (tUnsafeB w))
  tNext3)))))
theorem minI_mem : ∀ {l : List Int}, l ≠ [] → minI l ∈ l
  | [], h => absurd rfl h
  | [x], _ => by simp [minI]
  | x :: y :: r, _ => by
    have ih := minI_mem (l := y :: r) (by simp)
    show min x (minI (y :: r)) ∈ x :: y :: r
    by_cases hx : x ≤ minI (y :: r)
    · rw [Int.min_eq_left hx]; simp
    · rw [Int.min_eq_right (by omega)]; exact List.mem_cons_of_mem _ ih
theorem h_unsafeB (w : World) {P : List Row} {G : Gp} {E : XK3} {Q : D → Gp → Prop} {A : St3 → Gp → Prop} {bk : St3 → Gp → Prop} {ex : Value → List (Str × D) → St3 → Gp → Prop} {mach : D} {pre rest : List Int} {n : Int} {s : Bool} {o5 o6 o7 : Option D}
    (wf : Wf P) (hP : P.length ≤ 1000000) (hin : InP P (n, s)) (hw : Way P n s rest) (hl : (pre ++ rest).length ≤ 1000000) (q : Q (.tup ((pre ++ rest).map D.int)) G)
    (hA : ∀ m s' rest' o5 o6 o7, InP P (m, s') → Way P m s' rest' → rest = n :: rest' → A [some mach, some (progD P), some (.tup ((pre ++ [n]).map D.int)), some (.int m), some (.bl s'), o5, o6, o7] G) :
    tUnsafeB w ⟨A, RetQ Q, bk, A, ex⟩ [some mach, some (progD P), some (.tup (pre.map D.int)), some (.int n), some (.bl s), o5, o6, o7] G := by
  obtain ⟨r, hr1, hr2, hr3⟩ := rowAt_some hin
  unfold tUnsafeB
  walk_at "rd"
  have hz : sizeLine = 16777216 := sizeLine_eq
  have hl0 := hw.pos
  rw [List.length_append] at hl
  refine ⟨by simp only [List.length_map, List.length_singleton]; omega, ?_⟩
  unfold progD
  rw [v_ixT, v_atI hin.1 (d := rowD r) (by rw [List.getElem?_map, hr2]; rfl)]
  simp only [rowD]
  walk_at "rd"
  have em : pre.map D.int ++ [.int n] = (pre ++ [n]).map D.int := by simp
  rw [em]
  -- what comes if it is not the end
  have go : ∀ b : Bool, b = (s || r.1.any Ord.seen) → (s && r.1.any Ord.traps) = false →
      tAsg3 (tCB3 rMin3 (tCons3 (tLv3 (tLc3 (tI3 (tCall3 1 spNexts (tCons3 (tVar3 6) tNil3))) (.nm 7) (tB3 (tCall3 3 spShows (tCons3 (tVar3 1) (tCons3 (tVar3 7) (tCons3 (tVar3 4) tNil3))))) (tVar3 7) [7])) tNil3)) (gName3 3) ⟨A, RetQ Q, bk, A, ex⟩
        [some mach, some (.tup (P.map rowD)), some (.tup ((pre ++ [n]).map D.int)), some (.int n), some (.bl b), some (.tup (r.1.map Ord.d)), some r.2.d, o7] G := by
    intro b hb ht
    subst hb
    cases hw with
    | stop hr h =>
      rw [hr] at hr1; cases hr1
      rw [h] at ht; cases ht
    | step pb hr h hp ne hm w' =>
      rw [hr] at hr1
      cases hr1
      walk_at "rd"
      refine ⟨r.2, rfl, ?_⟩
      walk_at "rd"
      refine lcW_mapA D.int D.int pb trivial (fun x hx => ⟨_, rfl, fun Q' h' => ?_, fun _ Q' h' => ?_⟩) ?_
      · walk_at "rd"
        refine ⟨P, x, s || r.1.any Ord.seen, rfl, wf, wf r hr3 x hx, hP, fun b hb => ?_⟩
        have e : b = pb x := by
          rw [Bool.eq_iff_iff]
          exact hb.trans (hp x hx).symm
        rw [e]
        exact h'
      · walk_at "rd"; exact h'
      · rw [List.nil_append, v_min ne, hm]
        walk_at "rd"
        refine hA _ _ _ _ _ _ (nextS_in wf (s := (n, s)) (u := (_, s || r.1.any Ord.seen)) ?_) w' rfl
        unfold nextS
        rw [hr]
        refine List.mem_map.mpr ⟨_, ?_, rfl⟩
        have := minI_mem ne
        rw [hm] at this
        exact (List.mem_filter.mp this).1
  cases s with
  | true =>
    walk_at "rd"
    refine ⟨r.1, rfl, ?_⟩
    walk_at "rd"
    cases ht : r.1.any Ord.traps with
    | true =>
      walk_at "rd"
      cases hw with
      | stop hr h => exact ret_same q
      | step pb hr h hp ne hm w' =>
        rw [hr] at hr1; cases hr1
        rw [ht] at h; cases h
    | false =>
      have g := go true rfl (by rw [ht]; rfl)
      revert g
      walk_at "rd"
      exact id
  | false =>
    walk_at "rd"
    refine ⟨r.1, rfl, ?_⟩
    have g := go (r.1.any Ord.seen) (by simp) rfl
    revert g
    walk_at "rd"
    exact id
def UnW (P : List Row) (mach : D) (way : List Int) (G : Gp) (m : Nat) (σ : St3) (G1 : Gp) : Prop := ∃ pre rest n s o5 o6 o7, σ = [some mach, some (progD P), some (.tup (pre.map D.int)), some (.int n), some (.bl s), o5, o6, o7] ∧ G1 = G ∧ InP P (n, s) ∧ Way P n s rest ∧ pre ++ rest = way ∧ m = rest.length
theorem h_unsafe (w : World) : ∀ ds G E Q, ds.length = 2 → spUnsafe ds G E Q → tUnsafe w (defEnds E Q) (start3 N_unsafe ds) G := by
  intro ds G E Q _ ⟨mach, P, e, wf, hin, hP, q⟩
  subst e
  show tUnsafe w (defEnds E Q) [some mach, some (progD P), none, none, none, none, none, none] G
  unfold tUnsafe
  walk_at "rd"
  refine ⟨P, 0, false, rfl, wf, hin, hP, fun b hb => ?_⟩
  rcases q with ⟨hn, q⟩ | ⟨hr, way, hw, hl, q⟩
  · cases b with
    | true => exact (hn (hb.mp rfl)).elim
    | false => walk_at "rd"; exact ret_same q
  · cases b with
    | false => cases hb.mpr hr
    | true =>
      walk_at "rd"
      refine ⟨UnW P mach way G, ⟨_, _, _, Wk.refl _ _, [], way, 0, false, none, none, none, rfl, rfl, hin, hw, rfl, rfl⟩, ?_⟩
      rintro m σ G1 ⟨pre, rest, n, s, o5, o6, o7, rfl, rfl, hi, hw', e, rfl⟩
      walk_at "rd"
      refine h_unsafeB (E := E) w wf hP hi hw' (by rw [e]; exact hl) (by rw [e]; exact q) fun m' s' rest' o5 o6 o7 hi' hw'' er => ?_
      subst er
      exact ⟨_, _, _, Nat.lt_succ_self _, Wk.refl _ _, pre ++ [n], rest', m', s', o5, o6, o7, rfl, rfl, hi', hw'', by rw [← e]; simp, rfl⟩
end L3
namespace L3
open PySem PySem.Spec PyProof.Rows L2
theorem log2_small {n : Nat} (h : n < 2 ^ 64) : n.log2 < 64 := by
  by_cases z : n = 0
  · subst z; decide
  · exact (Nat.log2_lt z).mpr h
theorem cmul_small {i j : Int} (h1 : -(2 ^ 64) < i) (h2 : i < 2 ^ 64) (h3 : -(2 ^ 64) < j) (h4 : j < 2 ^ 64) : CMulW i j := by
  have e1 := log2_small (n := i.natAbs) (by omega)
  have e2 := log2_small (n := j.natAbs) (by omega)
  unfold CMulW
  omega
theorem cdiv_small {i j : Int} (h1 : 0 < j) (h2 : j < 2 ^ 64) : CDivW i j := by
  have e1 := log2_small (n := j.natAbs) (by omega)
  exact ⟨h1, by omega⟩
section
variable {w : World} {G : Gp} {Q : D → Gp → Prop} {a : Addr} {x y v : D} {l : List D} {j : Int}
theorem v_getR (h : G a = some (.lst l)) : rGet3 (.ref a) (.int j) G Q = seqAt l j G Q := by
  simp only [rGet3, h]
theorem v_ixG : ixop w (.ref a) (.int j) (gup G a (.lst l)) Q = seqAt l j (gup G a (.lst l)) Q := v_ixR gup_same
theorem v_set1 {QG : Gp → Prop} (h : G a = some (.lst [x, y])) : setop w (.ref a) (.int 1) v G QG = QG (gup G a (.lst [x, v])) := by
  simp only [setop, sIte, isDn, h, rSet3]
  rfl
theorem v_set0 {QG : Gp → Prop} (h : G a = some (.lst [x, y])) : setop w (.ref a) (.int 0) v G QG = QG (gup G a (.lst [v, y])) := by
  simp only [setop, sIte, isDn, h, rSet3]
  rfl
theorem v_setG0 {QG : Gp → Prop} : setop w (.ref a) (.int 0) v (gup G a (.lst [x, y])) QG = QG (gup (gup G a (.lst [x, y])) a (.lst [v, y])) := v_set0 gup_same
theorem v_setG1 {QG : Gp → Prop} : setop w (.ref a) (.int 1) v (gup G a (.lst [x, y])) QG = QG (gup (gup G a (.lst [x, y])) a (.lst [x, v])) := v_set1 gup_same
end
local macro_rules | `(tactic| walk_at "rd") => `(tactic| (repeat (first | dsimp only [q_seq, q_next, q_break, q_cont, q_ifS, q_drop, q_ret, q_retN, q_asg, q_setN, q_setV, q_aug, q_augS, q_gName, q_gNil, q_gCons, q_gTupT, q_gTupL, q_gSub, q_var, q_c, q_nil, q_cons, q_tup, q_ls, q_lv, q_ln, q_op, q_B, q_chain, q_and, q_or, q_not, q_andV, q_orV, q_notV, q_if, q_un, q_call, q_cb, q_cbl, q_opL, q_noP, q_part, q_sl, q_lc, q_yes, q_I, q_rg1, q_rg2, q_for, q_rt, q_nx, v_ixT, v_ixL, v_eqS, v_eqI, v_eqB, v_eqNI, v_neS, v_neI, v_neB, v_lt, v_le, v_gt, v_ge, v_is, v_isn, v_nonN, v_nonI, v_nonT, v_nonL, v_inT, v_ninT, v_flS, v_flI, v_any0, v_anyC, v_addI, v_addT, v_addL, v_subI, v_mulI, v_mulL, v_divI, v_modI, v_powI, v_iaddI, v_neg, v_intB, v_intI, v_lenT, v_lenL, v_tupL, v_tupT, v_walkT, v_walkL, v_rg1, v_bindN, v_slL, List.getElem?_cons_zero, List.getElem?_cons_succ, List.set_cons_zero, List.set_cons_succ, wipe3] | simp only [gup_gup, v_ixG, v_setG0, v_setG1, fit0, fit1, fit2, fit3, fit4, fit5, fit6, fit7, fit8, len0, len1, len2, len3, len4, len5, len6, v_at0, v_at1, v_at2, v_at3, v_deqS, v_deqI, ofString_eq, ofString_beq, true_and, and_true, decide_true, decide_false, Bool.not_true, Bool.not_false, Bool.true_and, Bool.false_and, Bool.and_true, Bool.and_false, Bool.or_false, Bool.or_true, Bool.true_or, Bool.false_or, if_true, if_false, reduceIte, List.all_cons, List.all_nil, beq_self_eq_true])))
def spBag : Sp3 := fun ds G _ Q => ∃ c k : Int, ds = [.int c, .int k] ∧ 0 ≤ k ∧ k ≤ 100 ∧ ∀ a b0 b1, G a = none → 0 ≤ b0 → 0 ≤ b1 → b1 ≤ 10000 → Q (.ref a) (gup G a (.lst [.int b0, .int b1]))
def tBag (w : World) : TS3 :=
  (tSeq3 (tIfS3 (tB3 (tOp3 (cop w .Lt) (tVar3 0) (tC3 (.int 0)))) (tSeq3 (tRet3 (tLn3 (tLs3 (tCons3 (tUn3 uNeg3 (tVar3 0)) (tCons3 (tOp3 (bop .Add) (tOp3 (bop .Mult) (tC3 (.int 37)) (tVar3 1)) (tC3 (.int 18))) tNil3)))))
   tNext3) tNext3)
  (tSeq3 (tRet3 (tLn3 (tLs3 (tCons3 (tVar3 0) (tCons3 (tOp3 (bop .Mult) (tC3 (.int 37)) (tVar3 1)) tNil3)))))
  tNext3))
theorem h_bag (w : World) : ∀ ds G E Q, ds.length = 2 → spBag ds G E Q → tBag w (defEnds E Q) (start3 ["cell", "k"] ds) G := by
  intro ds G E Q _ ⟨c, k, e, hk, hk2, q⟩
  subst e
  show tBag w (defEnds E Q) [some (.int c), some (.int k)] G
  unfold tBag
  walk_at "rd"
  by_cases h : c < 0
  · rw [decide_eq_true h]
    walk_at "rd"
    exact ⟨cmul_small (by decide) (by decide) (by omega) (by omega), fun a ha => ret_same (q a _ _ ha (by omega) (by omega) (by omega))⟩
  · rw [decide_eq_false h]
    walk_at "rd"
    exact ⟨cmul_small (by decide) (by decide) (by omega) (by omega), fun a ha => ret_same (q a _ _ ha (by omega) (by omega) (by omega))⟩
def spDraw : Sp3 := fun ds G _ Q => ∃ (a : Addr) (b0 b1 many : Int), ds = [.ref a, .int many] ∧ G a = some (.lst [.int b0, .int b1]) ∧ 0 ≤ b0 ∧ 0 ≤ b1 ∧ b1 ≤ 1000000 ∧ 1 ≤ many ∧ many < 2 ^ 40 ∧
  ∀ d b0' : Int, 0 ≤ d → d < many → 0 ≤ b0' → Q (.int d) (gup G a (.lst [.int b0', .int (b1 + 1)]))
def tDraw (w : World) : TS3 :=
  (tSeq3 (tAugS3 (tVar3 0) (tC3 (.int 1)) (tC3 (.int 1)) rGet3 (iop .Add) (setop w))
  (tSeq3 (tIfS3 (tB3 (tOp3 (cop w .GtE) (tOp3 (ixop w) (tVar3 0) (tC3 (.int 0))) (tOp3 (bop .Pow) (tC3 (.int 10)) (tC3 (.int 18))))) (tSeq3 (tAsg3 (tOp3 (bop .Mod) (tOp3 (ixop w) (tVar3 0) (tC3 (.int 0))) (tVar3 1)) (gName3 2))
   (tSeq3 (tAsg3 (tOp3 (bop .FloorDiv) (tOp3 (ixop w) (tVar3 0) (tC3 (.int 0))) (tVar3 1)) (gSub3 (tVar3 0) (tC3 (.int 0)) (setop w)))
   (tSeq3 (tRet3 (tVar3 2))
   tNext3))) tNext3)
  (tSeq3 (tAsg3 (tOp3 (bop .Mod) (tOp3 (bop .Add) (tOp3 (bop .Add) (tOp3 (bop .Mod) (tOp3 (ixop w) (tVar3 0) (tC3 (.int 0))) (tC3 (.int 2147483629))) (tOp3 (bop .Mult) (tC3 (.int 104729)) (tOp3 (ixop w) (tVar3 0) (tC3 (.int 1))))) (tC3 (.int 1))) (tC3 (.int 2147483587))) (gName3 3))
  (tSeq3 (tAsg3 (tOp3 (bop .Mod) (tOp3 (bop .Mult) (tVar3 3) (tVar3 3)) (tC3 (.int 2147483587))) (gName3 3))
  (tSeq3 (tAsg3 (tOp3 (bop .Mod) (tOp3 (bop .Add) (tVar3 3) (tOp3 (bop .Mult) (tC3 (.int 40692)) (tOp3 (ixop w) (tVar3 0) (tC3 (.int 1))))) (tC3 (.int 2147483563))) (gName3 3))
  (tSeq3 (tAsg3 (tOp3 (bop .Mod) (tOp3 (bop .Mult) (tVar3 3) (tVar3 3)) (tC3 (.int 2147483563))) (gName3 3))
  (tSeq3 (tRet3 (tOp3 (bop .Mod) (tOp3 (bop .FloorDiv) (tVar3 3) (tC3 (.int 8))) (tVar3 1)))
  tNext3)))))))
theorem mod_range (x : Int) {m : Int} (h : 0 < m) : 0 ≤ x % m ∧ x % m < m := ⟨Int.emod_nonneg x (by omega), Int.emod_lt_of_pos x h⟩
theorem h_draw (w : World) : ∀ ds G E Q, ds.length = 2 → spDraw ds G E Q → tDraw w (defEnds E Q) (start3 ["bag", "many", "digit", "one"] ds) G := by
  intro ds G E Q _ ⟨a, b0, b1, many, e, hG, h0, h1, h2, m1, m2, q⟩
  subst e
  show tDraw w (defEnds E Q) [some (.ref a), some (.int many), none, none] G
  unfold tDraw
  walk_at "rd"
  rw [v_getR hG]
  walk_at "rd"
  rw [v_set1 hG]
  walk_at "rd"
  refine ⟨⟨by decide, by decide, by decide⟩, ?_⟩
  generalize hp : (10 : Int) ^ (18 : Int).toNat = T
  by_cases h : T ≤ b0
  · rw [decide_eq_true h]
    walk_at "rd"
    have d1 := mod_range b0 (m := many) (by omega)
    exact ⟨by omega, cdiv_small (by omega) (by omega), ret_same (q _ _ d1.1 d1.2 (Int.ediv_nonneg h0 (by omega)))⟩
  · rw [decide_eq_false h]
    walk_at "rd"
    have r1 := mod_range b0 (m := 2147483629) (by decide)
    refine ⟨by decide, cmul_small (by decide) (by decide) (by omega) (by omega), by decide, ?_⟩
    generalize b0 % 2147483629 + 104729 * (b1 + 1) + 1 = u1
    have r2 := mod_range u1 (m := 2147483587) (by decide)
    generalize u1 % 2147483587 = u2 at r2 ⊢
    refine ⟨cmul_small (by omega) (by omega) (by omega) (by omega), by decide, ?_⟩
    generalize u2 * u2 = u3
    refine ⟨cmul_small (by decide) (by decide) (by omega) (by omega), by decide, ?_⟩
    generalize u3 % 2147483587 + 40692 * (b1 + 1) = u4
    have r3 := mod_range u4 (m := 2147483563) (by decide)
    generalize u4 % 2147483563 = u5 at r3 ⊢
    refine ⟨cmul_small (by omega) (by omega) (by omega) (by omega), by decide, cdiv_small (by decide) (by decide), by omega, ?_⟩
    have r4 := mod_range (u5 * u5 % 2147483563 / 8) (m := many) (by omega)
    exact ret_same (q _ _ r4.1 r4.2 h0)
end L3
namespace L3
open PySem PySem.Spec PyProof.Rows L2
section
variable {G : Gp} {Q : D → Gp → Prop}
theorem v_iN_int : rIsi3 [.non, .ty "int"] G Q = Q (.bl false) G := by simp [rIsi3, ty3Of, ty3N, isT3] <;> exact Iff.rfl
theorem v_iN_str : rIsi3 [.non, .ty "str"] G Q = Q (.bl false) G := by simp [rIsi3, ty3Of, ty3N, isT3] <;> exact Iff.rfl
theorem v_iN_bool : rIsi3 [.non, .ty "bool"] G Q = Q (.bl false) G := by simp [rIsi3, ty3Of, ty3N, isT3] <;> exact Iff.rfl
theorem v_iN_tuple : rIsi3 [.non, .ty "tuple"] G Q = Q (.bl false) G := by simp [rIsi3, ty3Of, ty3N, isT3] <;> exact Iff.rfl
theorem v_iN_list : rIsi3 [.non, .ty "list"] G Q = Q (.bl false) G := by simp [rIsi3, ty3Of, ty3N, isT3] <;> exact Iff.rfl
theorem v_iN_dict : rIsi3 [.non, .ty "dict"] G Q = Q (.bl false) G := by simp [rIsi3, ty3Of, ty3N, isT3] <;> exact Iff.rfl
theorem v_iB_int {b : Bool} : rIsi3 [.bl b, .ty "int"] G Q = Q (.bl true) G := by simp [rIsi3, ty3Of, ty3N, isT3] <;> exact Iff.rfl
theorem v_iB_str {b : Bool} : rIsi3 [.bl b, .ty "str"] G Q = Q (.bl false) G := by simp [rIsi3, ty3Of, ty3N, isT3] <;> exact Iff.rfl
theorem v_iB_bool {b : Bool} : rIsi3 [.bl b, .ty "bool"] G Q = Q (.bl true) G := by simp [rIsi3, ty3Of, ty3N, isT3] <;> exact Iff.rfl
theorem v_iB_tuple {b : Bool} : rIsi3 [.bl b, .ty "tuple"] G Q = Q (.bl false) G := by simp [rIsi3, ty3Of, ty3N, isT3] <;> exact Iff.rfl
theorem v_iB_list {b : Bool} : rIsi3 [.bl b, .ty "list"] G Q = Q (.bl false) G := by simp [rIsi3, ty3Of, ty3N, isT3] <;> exact Iff.rfl
theorem v_iB_dict {b : Bool} : rIsi3 [.bl b, .ty "dict"] G Q = Q (.bl false) G := by simp [rIsi3, ty3Of, ty3N, isT3] <;> exact Iff.rfl
theorem v_iI_int {i : Int} : rIsi3 [.int i, .ty "int"] G Q = Q (.bl true) G := by simp [rIsi3, ty3Of, ty3N, isT3] <;> exact Iff.rfl
theorem v_iI_str {i : Int} : rIsi3 [.int i, .ty "str"] G Q = Q (.bl false) G := by simp [rIsi3, ty3Of, ty3N, isT3] <;> exact Iff.rfl
theorem v_iI_bool {i : Int} : rIsi3 [.int i, .ty "bool"] G Q = Q (.bl false) G := by simp [rIsi3, ty3Of, ty3N, isT3] <;> exact Iff.rfl
theorem v_iI_tuple {i : Int} : rIsi3 [.int i, .ty "tuple"] G Q = Q (.bl false) G := by simp [rIsi3, ty3Of, ty3N, isT3] <;> exact Iff.rfl
theorem v_iI_list {i : Int} : rIsi3 [.int i, .ty "list"] G Q = Q (.bl false) G := by simp [rIsi3, ty3Of, ty3N, isT3] <;> exact Iff.rfl
theorem v_iI_dict {i : Int} : rIsi3 [.int i, .ty "dict"] G Q = Q (.bl false) G := by simp [rIsi3, ty3Of, ty3N, isT3] <;> exact Iff.rfl
theorem v_iS_int {s : Str} : rIsi3 [.str s, .ty "int"] G Q = Q (.bl false) G := by simp [rIsi3, ty3Of, ty3N, isT3] <;> exact Iff.rfl
theorem v_iS_str {s : Str} : rIsi3 [.str s, .ty "str"] G Q = Q (.bl true) G := by simp [rIsi3, ty3Of, ty3N, isT3] <;> exact Iff.rfl
theorem v_iS_bool {s : Str} : rIsi3 [.str s, .ty "bool"] G Q = Q (.bl false) G := by simp [rIsi3, ty3Of, ty3N, isT3] <;> exact Iff.rfl
theorem v_iS_tuple {s : Str} : rIsi3 [.str s, .ty "tuple"] G Q = Q (.bl false) G := by simp [rIsi3, ty3Of, ty3N, isT3] <;> exact Iff.rfl
theorem v_iS_list {s : Str} : rIsi3 [.str s, .ty "list"] G Q = Q (.bl false) G := by simp [rIsi3, ty3Of, ty3N, isT3] <;> exact Iff.rfl
theorem v_iS_dict {s : Str} : rIsi3 [.str s, .ty "dict"] G Q = Q (.bl false) G := by simp [rIsi3, ty3Of, ty3N, isT3] <;> exact Iff.rfl
theorem v_iT_int {l : List D} : rIsi3 [.tup l, .ty "int"] G Q = Q (.bl false) G := by simp [rIsi3, ty3Of, ty3N, isT3] <;> exact Iff.rfl
theorem v_iT_str {l : List D} : rIsi3 [.tup l, .ty "str"] G Q = Q (.bl false) G := by simp [rIsi3, ty3Of, ty3N, isT3] <;> exact Iff.rfl
theorem v_iT_bool {l : List D} : rIsi3 [.tup l, .ty "bool"] G Q = Q (.bl false) G := by simp [rIsi3, ty3Of, ty3N, isT3] <;> exact Iff.rfl
theorem v_iT_tuple {l : List D} : rIsi3 [.tup l, .ty "tuple"] G Q = Q (.bl true) G := by simp [rIsi3, ty3Of, ty3N, isT3] <;> exact Iff.rfl
theorem v_iT_list {l : List D} : rIsi3 [.tup l, .ty "list"] G Q = Q (.bl false) G := by simp [rIsi3, ty3Of, ty3N, isT3] <;> exact Iff.rfl
theorem v_iT_dict {l : List D} : rIsi3 [.tup l, .ty "dict"] G Q = Q (.bl false) G := by simp [rIsi3, ty3Of, ty3N, isT3] <;> exact Iff.rfl
theorem v_iL_int {l : List D} : rIsi3 [.lst l, .ty "int"] G Q = Q (.bl false) G := by simp [rIsi3, ty3Of, ty3N, isT3] <;> exact Iff.rfl
theorem v_iL_str {l : List D} : rIsi3 [.lst l, .ty "str"] G Q = Q (.bl false) G := by simp [rIsi3, ty3Of, ty3N, isT3] <;> exact Iff.rfl
theorem v_iL_bool {l : List D} : rIsi3 [.lst l, .ty "bool"] G Q = Q (.bl false) G := by simp [rIsi3, ty3Of, ty3N, isT3] <;> exact Iff.rfl
theorem v_iL_tuple {l : List D} : rIsi3 [.lst l, .ty "tuple"] G Q = Q (.bl false) G := by simp [rIsi3, ty3Of, ty3N, isT3] <;> exact Iff.rfl
theorem v_iL_list {l : List D} : rIsi3 [.lst l, .ty "list"] G Q = Q (.bl true) G := by simp [rIsi3, ty3Of, ty3N, isT3] <;> exact Iff.rfl
theorem v_iL_dict {l : List D} : rIsi3 [.lst l, .ty "dict"] G Q = Q (.bl false) G := by simp [rIsi3, ty3Of, ty3N, isT3] <;> exact Iff.rfl
theorem q_zip {tas : TA3} {σ : St3} {E : XK3} {R : RI3} : tZip3 tas σ G E R = tas σ G E fun ds G1 => match ds with
  | [x, y] => zip3 x y G1 R
  | _ => False := rfl
theorem v_zipT {a b : List D} {R : RI3} : zip3 (.tup a) (.tup b) G R = R (zipD a b) yes3 G := rfl
theorem v_zipL {a b : List D} {R : RI3} : zip3 (.lst a) (.lst b) G R = R (zipD a b) (fun G' => lsGuard G (.lst a) a G' ∧ lsGuard G (.lst b) b G') G := rfl
end
local macro_rules | `(tactic| walk_at "rd") => `(tactic| (repeat (first | dsimp only [q_zip, v_zipT, v_zipL, q_seq, q_next, q_break, q_cont, q_ifS, q_drop, q_ret, q_retN, q_asg, q_setN, q_setV, q_aug, q_augS, q_gName, q_gNil, q_gCons, q_gTupT, q_gTupL, q_gSub, q_var, q_c, q_nil, q_cons, q_tup, q_ls, q_lv, q_ln, q_op, q_B, q_chain, q_and, q_or, q_not, q_andV, q_orV, q_notV, q_if, q_un, q_call, q_cb, q_cbl, q_opL, q_noP, q_part, q_sl, q_lc, q_yes, q_I, q_rg1, q_rg2, q_for, q_rt, q_nx, v_ixT, v_ixL, v_eqS, v_eqI, v_eqB, v_eqNI, v_neS, v_neI, v_neB, v_lt, v_le, v_gt, v_ge, v_is, v_isn, v_nonN, v_nonI, v_nonT, v_nonL, v_inT, v_ninT, v_flS, v_flI, v_any0, v_anyC, v_addI, v_addT, v_addL, v_subI, v_mulI, v_mulL, v_divI, v_modI, v_powI, v_iaddI, v_neg, v_intB, v_intI, v_lenT, v_lenL, v_tupL, v_tupT, v_walkT, v_walkL, v_rg1, v_bindN, v_slL, List.getElem?_cons_zero, List.getElem?_cons_succ, List.set_cons_zero, List.set_cons_succ, wipe3] | simp only [v_iN_int, v_iN_str, v_iN_bool, v_iN_tuple, v_iN_list, v_iN_dict, v_iB_int, v_iB_str, v_iB_bool, v_iB_tuple, v_iB_list, v_iB_dict, v_iI_int, v_iI_str, v_iI_bool, v_iI_tuple, v_iI_list, v_iI_dict, v_iS_int, v_iS_str, v_iS_bool, v_iS_tuple, v_iS_list, v_iS_dict, v_iT_int, v_iT_str, v_iT_bool, v_iT_tuple, v_iT_list, v_iT_dict, v_iL_int, v_iL_str, v_iL_bool, v_iL_tuple, v_iL_list, v_iL_dict, gup_gup, v_ixG, v_setG0, v_setG1, fit0, fit1, fit2, fit3, fit4, fit5, fit6, fit7, fit8, len0, len1, len2, len3, len4, len5, len6, v_at0, v_at1, v_at2, v_at3, v_deqS, v_deqI, ofString_eq, ofString_beq, true_and, and_true, decide_true, decide_false, Bool.not_true, Bool.not_false, Bool.true_and, Bool.false_and, Bool.and_true, Bool.and_false, Bool.or_false, Bool.or_true, Bool.true_or, Bool.false_or, if_true, if_false, reduceIte, List.all_cons, List.all_nil, beq_self_eq_true])))
theorem FnE.never {B : Bas} {k n : Nat} {x qual : Str} {params : Arguments} {body : List Stmt} {scope : Scope} {f : Addr} {fd : FuncData} {ps : List Str} (F : FunD B.K x qual params body scope [] [] f fd) (hm : B.mg x = some (.ref f)) (hb : Binds B.K fd ps []) : FnE B k x n (fun _ _ _ _ => False) :=
  ⟨f, fd, ps, ⟨fun _ _ _ _ ⟨_, _, _, _, _, _, _, _, z, _⟩ => z.elim, fun _ _ _ _ _ _ _ _ _ _ _ _ _ ⟨_, _, _, _, _, _, _, _, z, _⟩ => z.elim⟩, hm, F.kp, hb⟩
mutual
def plain : Nat → D → Bool
  | _, .non => true
  | _, .int _ => true
  | _, .str _ => true
  | n + 1, .tup l => plains n l
  | n + 1, .lst l => plains n l
  | _, _ => false
def plains : Nat → List D → Bool
  | _, [] => true
  | n, d :: ds => plain n d && plains n ds
end
theorem plains_mem : ∀ {n : Nat} {l : List D}, plains n l = true → ∀ d ∈ l, plain n d = true
  | n, a :: l, h, d, hd => by
    simp only [plains, Bool.and_eq_true] at h
    rcases List.mem_cons.mp hd with e | e
    · rw [e]; exact h.1
    · exact plains_mem h.2 d e
def spSame : Nat → Sp3
  | 0 => fun _ _ _ _ => False
  | n + 1 => fun ds G _ Q => ∃ d, ds = [d, d] ∧ plain n d = true ∧ Q (.bl true) G
def tSame (sp : Sp3) (w : World) : TS3 :=
  (tSeq3 (tIfS3 (tB3 (tOp3 (cop w .Is) (tVar3 1) (tC3 .non))) (tSeq3 (tRet3 (tOp3 (cop w .Is) (tVar3 0) (tC3 .non)))
   tNext3) tNext3)
  (tSeq3 (tIfS3 (tB3 (tCB3 rIsi3 (tCons3 (tVar3 1) (tCons3 (tC3 (.ty "int")) tNil3)))) (tSeq3 (tRet3 (tAndV3 (tCB3 rIsi3 (tCons3 (tVar3 0) (tCons3 (tC3 (.ty "int")) tNil3))) (tAndV3 (tNotV3 (tCB3 rIsi3 (tCons3 (tVar3 0) (tCons3 (tC3 (.ty "bool")) tNil3)))) (tOp3 (cop w .Eq) (tVar3 0) (tVar3 1)))))
   tNext3) tNext3)
  (tSeq3 (tIfS3 (tB3 (tCB3 rIsi3 (tCons3 (tVar3 1) (tCons3 (tC3 (.ty "str")) tNil3)))) (tSeq3 (tRet3 (tAndV3 (tCB3 rIsi3 (tCons3 (tVar3 0) (tCons3 (tC3 (.ty "str")) tNil3))) (tOp3 (cop w .Eq) (tVar3 0) (tVar3 1))))
   tNext3) tNext3)
  (tSeq3 (tIfS3 (tOr3 (tB3 (tOp3 (cop w .NotEq) (tCB3 rIsi3 (tCons3 (tVar3 1) (tCons3 (tC3 (.ty "tuple")) tNil3))) (tCB3 rIsi3 (tCons3 (tVar3 0) (tCons3 (tC3 (.ty "tuple")) tNil3))))) (tB3 (tOp3 (cop w .NotEq) (tCB3 rIsi3 (tCons3 (tVar3 1) (tCons3 (tC3 (.ty "list")) tNil3))) (tCB3 rIsi3 (tCons3 (tVar3 0) (tCons3 (tC3 (.ty "list")) tNil3)))))) (tSeq3 (tRet3 (tC3 (.bl false)))
   tNext3) tNext3)
  (tSeq3 (tRet3 (tAndV3 (tOp3 (cop w .Eq) (tCB3 rLen3 (tCons3 (tVar3 0) tNil3)) (tCB3 rLen3 (tCons3 (tVar3 1) tNil3))) (tCB3 rAll3 (tCons3 (tLv3 (tLc3 (tZip3 (tCons3 (tVar3 0) (tCons3 (tVar3 1) tNil3))) (.tp [2, 3]) tYes3 (tCall3 2 sp (tCons3 (tVar3 2) (tCons3 (tVar3 3) tNil3))) [2, 3])) tNil3))))
  tNext3)))))
theorem zipD_self : ∀ l : List D, zipD l l = l.map fun d => .tup [d, d]
  | [] => rfl
  | d :: l => by simp [zipD, zipD_self l]
theorem all_true {α : Type} : ∀ l : List α, (l.map fun _ => true).all id = true
  | [] => rfl
  | _ :: l => by rw [List.map_cons, List.all_cons, all_true l]; rfl
theorem h_same (n : Nat) (w : World) : ∀ ds G E Q, ds.length = 2 → spSame (n + 1) ds G E Q → tSame (spSame n) w (defEnds E Q) (start3 ["found", "due", "one", "other"] ds) G := by
  intro ds G E Q _ ⟨d, e, hp, q⟩
  subst e
  show tSame (spSame n) w (defEnds E Q) [some d, some d, none, none] G
  unfold tSame
  have seq : ∀ (l : List D) (guard : Gp → Prop), guard G → plains (n - 1) l = true → 0 < n → (k : List D → Gp → Prop) → k (l.map fun _ => .bl true) G →
      lcW (.tp [2, 3]) tYes3 (tCall3 2 (spSame n) (tCons3 (tVar3 2) (tCons3 (tVar3 3) tNil3))) guard [some d, some d, none, none] (zipD l l) [] G k := by
    intro l guard hg hl hn k hk
    rw [zipD_self]
    refine lcW_mapA (fun d => .tup [d, d]) (fun _ => .bl true) (fun _ => true) hg (fun x hx => ⟨_, rfl, fun Q h => h, fun _ Q h => ?_⟩) ?_
    · simp only [setAll]
      walk_at "rd"
      obtain ⟨m, rfl⟩ : ∃ m, n = m + 1 := ⟨n - 1, by omega⟩
      exact ⟨x, rfl, plains_mem hl x hx, h⟩
    · rw [List.nil_append, List.filter_eq_self.mpr (fun _ _ => rfl)]
      exact hk
  cases d with
  | non =>
    walk_at "rd"
    exact ret_same q
  | int i =>
    walk_at "rd"
    exact ret_same q
  | str s =>
    walk_at "rd"
    exact ret_same q
  | tup l =>
    cases n with
    | zero => simp [plain] at hp
    | succ n =>
      simp only [plain] at hp
      walk_at "rd"
      refine seq l _ trivial hp (by omega) _ ?_
      rw [v_all (bs := l.map fun _ => true) (blsOf_map _ (fun _ => true) (fun _ => rfl) l), all_true]
      exact ret_same q
  | lst l =>
    cases n with
    | zero => simp [plain] at hp
    | succ n =>
      simp only [plain] at hp
      walk_at "rd"
      refine seq l _ ⟨trivial, trivial⟩ hp (by omega) _ ?_
      rw [v_all (bs := l.map fun _ => true) (blsOf_map _ (fun _ => true) (fun _ => rfl) l), all_true]
      exact ret_same q
  | _ => cases n <;> simp [plain] at hp
end L3
namespace L3
open PySem PySem.Spec PyProof.Rows L2
/-- a for loop by an invariant -/
theorem forW_of {tg : Tgt} {b : TS3} {guard : Gp → Prop} {D1 : Ends3} (Iv : Nat → St3 → Gp → Prop) {all : List D} (hg : ∀ i σ G, Iv i σ G → guard G)
    (hs : ∀ i d σ G, all[i]? = some d → Iv i σ G → ∃ σ1, bind3 tg d σ = some σ1 ∧ ∀ A : St3 → Gp → Prop, (∀ σ' G', Iv (i + 1) σ' G' → A σ' G') → b { D1 with nx := A, ct := A, bk := D1.nx } σ1 G)
    (hd : ∀ σ G, Iv all.length σ G → D1.nx σ G) : ∀ (items : List D) (i : Nat) (σ : St3) (G : Gp), all.drop i = items → Iv i σ G → i ≤ all.length → forW tg b guard items D1 σ G
  | [], i, σ, G, e, h, hi => by
    have : i = all.length := by
      have := congrArg List.length e
      simp at this
      omega
    subst this
    exact ⟨hg _ _ _ h, hd _ _ h⟩
  | d :: ds, i, σ, G, e, h, hi => by
    have hlt : i < all.length := by
      have := congrArg List.length e
      simp at this
      omega
    have e1 : all[i]? = some d := by
      have := congrArg (fun l => l[0]?) e
      simpa using this
    have e2 : all.drop (i + 1) = ds := by
      have := congrArg List.tail e
      simpa using this
    refine ⟨hg _ _ _ h, ?_⟩
    obtain ⟨σ1, h1, h2⟩ := hs i d σ G e1 h
    rw [h1]
    exact h2 _ fun σ' G' h' => ⟨σ', G', Wk.refl _ _, forW_of Iv hg hs hd ds (i + 1) σ' G' e2 h' hlt⟩
theorem for_inv {tg : Tgt} {b : TS3} {guard : Gp → Prop} {D1 : Ends3} (Iv : Nat → St3 → Gp → Prop) {all : List D} {σ : St3} {G : Gp} (h0 : Iv 0 σ G) (hg : ∀ i σ G, Iv i σ G → guard G)
    (hs : ∀ i d σ G, all[i]? = some d → Iv i σ G → ∃ σ1, bind3 tg d σ = some σ1 ∧ ∀ A : St3 → Gp → Prop, (∀ σ' G', Iv (i + 1) σ' G' → A σ' G') → b { D1 with nx := A, ct := A, bk := D1.nx } σ1 G)
    (hd : ∀ σ G, Iv all.length σ G → D1.nx σ G) : ∃ τ G2, Wk σ G τ G2 ∧ forW tg b guard all D1 τ G2 := ⟨σ, G, Wk.refl _ _, forW_of Iv hg hs hd all 0 σ G rfl h0 (Nat.zero_le _)⟩
theorem rng_at {lo : Int} {n i : Nat} {d : D} (h : (rng lo n)[i]? = some d) : d = .int (lo + (i : Nat)) ∧ i < n := by
  have hi : i < n := by
    have := (List.getElem?_eq_some_iff.mp h).1
    rwa [rng_length] at this
  unfold rng at h
  rw [List.getElem?_map, List.getElem?_range hi] at h
  exact ⟨(Option.some.inj h).symm, hi⟩
def H2 (G : Gp) (a : Addr) (l : List D) (b : Addr) (m : List D) : Gp := gup (gup G a (.lst l)) b (.lst m)
section
variable {w : World} {G : Gp} {Q : D → Gp → Prop} {a b : Addr} {l l' m m' : List D}
theorem H2_a (h : a ≠ b) : H2 G a l b m a = some (.lst l) := by unfold H2; rw [gup_ne h, gup_same]
theorem H2_b : H2 G a l b m b = some (.lst m) := gup_same
theorem H2_setA (h : a ≠ b) : gup (H2 G a l b m) a (.lst l') = H2 G a l' b m := by
  funext c
  unfold H2 gup
  by_cases h1 : c = a
  · subst h1; simp [h]
  · by_cases h2 : c = b
    · subst h2; simp [h1]
    · simp [h1, h2]
theorem H2_setB : gup (H2 G a l b m) b (.lst m') = H2 G a l b m' := gup_gup
theorem v_pick {d : Int} (h0 : 0 ≤ d) (h1 : d < l.length) (h : ∀ x ∈ l, Q x G) : seqAt l d G Q := by
  have h2 : d.toNat < l.length := by omega
  rw [v_atI h0 (List.getElem?_eq_getElem h2)]
  exact h _ (List.getElem_mem h2)
theorem v_setI {QG : Gp → Prop} {i : Int} {v : D} (h : G a = some (.lst l)) (h0 : 0 ≤ i) (h1 : i < l.length) : setop w (.ref a) (.int i) v G QG = QG (gup G a (.lst (l.set i.toNat v))) := by
  have e : ixN l.length i = some i.toNat := by
    unfold ixN
    rw [if_pos h0, if_pos h1]
  simp only [setop, sIte, isDn, h, rSet3, e]
end
local macro_rules | `(tactic| walk_at "rd") => `(tactic| (repeat (first | dsimp only [q_zip, v_zipT, v_zipL, q_seq, q_next, q_break, q_cont, q_ifS, q_drop, q_ret, q_retN, q_asg, q_setN, q_setV, q_aug, q_augS, q_gName, q_gNil, q_gCons, q_gTupT, q_gTupL, q_gSub, q_var, q_c, q_nil, q_cons, q_tup, q_ls, q_lv, q_ln, q_op, q_B, q_chain, q_and, q_or, q_not, q_andV, q_orV, q_notV, q_if, q_un, q_call, q_cb, q_cbl, q_opL, q_noP, q_part, q_sl, q_lc, q_yes, q_I, q_rg1, q_rg2, q_for, q_rt, q_nx, v_ixT, v_ixL, v_eqS, v_eqI, v_eqB, v_eqNI, v_neS, v_neI, v_neB, v_lt, v_le, v_gt, v_ge, v_is, v_isn, v_nonN, v_nonI, v_nonT, v_nonL, v_inT, v_ninT, v_flS, v_flI, v_any0, v_anyC, v_addI, v_addT, v_addL, v_subI, v_mulI, v_mulL, v_divI, v_modI, v_powI, v_iaddI, v_neg, v_intB, v_intI, v_lenT, v_lenL, v_tupL, v_tupT, v_walkT, v_walkL, v_rg1, v_bindN, v_slL, List.getElem?_cons_zero, List.getElem?_cons_succ, List.set_cons_zero, List.set_cons_succ, wipe3] | simp only [v_iN_int, v_iN_str, v_iN_bool, v_iN_tuple, v_iN_list, v_iN_dict, v_iB_int, v_iB_str, v_iB_bool, v_iB_tuple, v_iB_list, v_iB_dict, v_iI_int, v_iI_str, v_iI_bool, v_iI_tuple, v_iI_list, v_iI_dict, v_iS_int, v_iS_str, v_iS_bool, v_iS_tuple, v_iS_list, v_iS_dict, v_iT_int, v_iT_str, v_iT_bool, v_iT_tuple, v_iT_list, v_iT_dict, v_iL_int, v_iL_str, v_iL_bool, v_iL_tuple, v_iL_list, v_iL_dict, gup_gup, v_ixG, v_setG0, v_setG1, fit0, fit1, fit2, fit3, fit4, fit5, fit6, fit7, fit8, len0, len1, len2, len3, len4, len5, len6, v_at0, v_at1, v_at2, v_at3, v_deqS, v_deqI, ofString_eq, ofString_beq, true_and, and_true, decide_true, decide_false, Bool.not_true, Bool.not_false, Bool.true_and, Bool.false_and, Bool.and_true, Bool.and_false, Bool.or_false, Bool.or_true, Bool.true_or, Bool.false_or, if_true, if_false, reduceIte, List.all_cons, List.all_nil, beq_self_eq_true])))
def Ra : Pl := .reg "a"
def base (many : Nat) : List Row := ((List.range many).flatMap fun k : Nat => [([], .test Ra (3 * (k : Int) + 1) (3 * (k : Int) + 2)), ([], .go (3 * (k : Int) + 3)), ([], .go (3 * (k : Int) + 3))]) ++ [([], .fin)]
def setO (P : List Row) (i : Nat) (o : Ord) : List Row := P.set i ([o], (P.getD i ([], .fin)).2)
def prog69 (many at_ : Nat) (o1 : Ord) (wr : Option (Nat × Ord)) : List Row := match wr with
  | none => setO (base many) at_ o1
  | some (i, o2) => setO (setO (base many) at_ o1) i o2
def wrD : Option (Nat × Ord) → D
  | none => .non
  | some (i, _) => .int (i : Int)
structure Ok69 (many at_ : Nat) (o1 : Ord) (wr : Option (Nat × Ord)) : Prop where
  m1 : 1 ≤ many
  m2 : many ≤ 100
  at3 : ∃ j, at_ = 3 * j ∧ j ≤ many
  o1 : o1.traps = true
  wr : ∀ i o, wr = some (i, o) → (∃ j, j < many ∧ (i = 3 * j + 1 ∨ i = 3 * j + 2)) ∧ o.traps = false ∧ o.seen = true
def spProgram : Sp3 := fun ds G _ Q => ∃ (a : Addr) (b0 b1 : Int), ds = [.ref a] ∧ G a = some (.lst [.int b0, .int b1]) ∧ 0 ≤ b0 ∧ 0 ≤ b1 ∧ b1 ≤ 20000 ∧
  ∀ many at_ o1 wr G', Ok69 many at_ o1 wr → Q (.tup [progD (prog69 many at_ o1 wr), wrD wr, .int (at_ : Int)]) G'
def tPForB (w : World) : TS3 := (tSeq3 (tDrop3 (tMt3 (mtab "append") (tVar3 5) (tCons3 (tTup3 (tCons3 (tTup3 tNil3) (tCons3 (tTup3 (tCons3 (tC3 (.str "test")) (tCons3 (tVar3 4) (tCons3 (tOp3 (bop .Add) (tOp3 (bop .Mult) (tC3 (.int 3)) (tVar3 6)) (tC3 (.int 1))) (tCons3 (tOp3 (bop .Add) (tOp3 (bop .Mult) (tC3 (.int 3)) (tVar3 6)) (tC3 (.int 2))) tNil3))))) tNil3))) tNil3)))
   (tSeq3 (tDrop3 (tMt3 (mtab "append") (tVar3 5) (tCons3 (tTup3 (tCons3 (tTup3 tNil3) (tCons3 (tTup3 (tCons3 (tC3 (.str "go")) (tCons3 (tOp3 (bop .Add) (tOp3 (bop .Mult) (tC3 (.int 3)) (tVar3 6)) (tC3 (.int 3))) tNil3))) tNil3))) tNil3)))
   (tSeq3 (tDrop3 (tMt3 (mtab "append") (tVar3 5) (tCons3 (tTup3 (tCons3 (tTup3 tNil3) (tCons3 (tTup3 (tCons3 (tC3 (.str "go")) (tCons3 (tOp3 (bop .Add) (tOp3 (bop .Mult) (tC3 (.int 3)) (tVar3 6)) (tC3 (.int 3))) tNil3))) tNil3))) tNil3)))
   tNext3)))
def tPEnd (w : World) : TS3 :=
  (tSeq3 (tIfS3 (tB3 (tOp3 (cop w .IsNot) (tVar3 2) (tC3 .non))) (tSeq3 (tAsg3 (tOp3 (ixop w) (tLv3 (tLs3 (tCons3 (tTup3 (tCons3 (tC3 (.str "put")) (tCons3 (tVar3 4) (tCons3 (tC3 (.int 1)) tNil3)))) (tCons3 (tTup3 (tCons3 (tC3 (.str "move")) (tCons3 (tVar3 4) (tCons3 (tTup3 (tCons3 (tC3 (.str "hid")) (tCons3 (tC3 (.int 0)) tNil3))) tNil3)))) (tCons3 (tTup3 (tCons3 (tC3 (.str "alu")) (tCons3 (tC3 (.str "add")) (tCons3 (tVar3 4) (tCons3 (tVar3 4) (tCons3 (tVar3 4) tNil3)))))) tNil3))))) (tCall3 2 spDraw (tCons3 (tVar3 0) (tCons3 (tC3 (.int 3)) tNil3)))) (gName3 8))
   (tSeq3 (tAsg3 (tTup3 (tCons3 (tTup3 (tCons3 (tVar3 8) tNil3)) (tCons3 (tOp3 (ixop w) (tOp3 (ixop w) (tVar3 5) (tVar3 2)) (tC3 (.int 1))) tNil3))) (gSub3 (tVar3 5) (tVar3 2) (setop w)))
   tNext3)) tNext3)
  (tSeq3 (tRet3 (tTup3 (tCons3 (tCB3 rTup3 (tCons3 (tVar3 5) tNil3)) (tCons3 (tVar3 2) (tCons3 (tVar3 3) tNil3)))))
  tNext3))
def tPMid (w : World) : TS3 :=
  (tSeq3 (tDrop3 (tMt3 (mtab "append") (tVar3 5) (tCons3 (tTup3 (tCons3 (tTup3 tNil3) (tCons3 (tTup3 (tCons3 (tC3 (.str "end")) tNil3)) tNil3))) tNil3)))
  (tSeq3 (tAsg3 (tOp3 (ixop w) (tLv3 (tLs3 (tCons3 (tTup3 (tCons3 (tC3 (.str "load")) (tCons3 (tTup3 (tCons3 (tC3 (.str "hid")) (tCons3 (tC3 (.int 0)) tNil3))) (tCons3 (tVar3 4) tNil3)))) (tCons3 (tTup3 (tCons3 (tC3 (.str "store")) (tCons3 (tVar3 4) (tCons3 (tVar3 4) tNil3)))) tNil3)))) (tCall3 2 spDraw (tCons3 (tVar3 0) (tCons3 (tC3 (.int 2)) tNil3)))) (gName3 7))
  (tSeq3 (tAsg3 (tTup3 (tCons3 (tTup3 (tCons3 (tVar3 7) tNil3)) (tCons3 (tOp3 (ixop w) (tOp3 (ixop w) (tVar3 5) (tVar3 3)) (tC3 (.int 1))) tNil3))) (gSub3 (tVar3 5) (tVar3 3) (setop w)))
  (tPEnd w))))
def tPRest (w : World) : TS3 :=
  (tSeq3 (tAsg3 (tOp3 (ixop w) (tLv3 (tLs3 (tCons3 (tOp3 (bop .Mult) (tC3 (.int 3)) (tVar3 1)) (tCons3 (tOp3 (bop .Mult) (tC3 (.int 3)) (tCall3 2 spDraw (tCons3 (tVar3 0) (tCons3 (tOp3 (bop .Add) (tVar3 1) (tC3 (.int 1))) tNil3)))) tNil3)))) (tCall3 2 spDraw (tCons3 (tVar3 0) (tCons3 (tC3 (.int 2)) tNil3)))) (gName3 3))
  (tSeq3 (tAsg3 (tTup3 (tCons3 (tC3 (.str "reg")) (tCons3 (tC3 (.str "a")) tNil3))) (gName3 4))
  (tSeq3 (tSetN3 (tLs3 tNil3) 5)
  (tSeq3 (tFor3 (tRg1 (tCons3 (tVar3 1) tNil3)) (.nm 6) (tPForB w))
  (tPMid w)))))
def tProgram (w : World) : TS3 :=
  (tSeq3 (tAsg3 (tOp3 (bop .Add) (tC3 (.int 1)) (tCall3 2 spDraw (tCons3 (tVar3 0) (tCons3 (tOp3 (ixop w) (tLv3 (tLs3 (tCons3 (tC3 (.int 9)) (tCons3 (tC3 (.int 99)) tNil3)))) (tCall3 2 spDraw (tCons3 (tVar3 0) (tCons3 (tC3 (.int 2)) tNil3)))) tNil3)))) (gName3 1))
  (tSeq3 (tAsg3 (tC3 .non) (gName3 2))
  (tSeq3 (tIfS3 (tB3 (tOp3 (cop w .Gt) (tCall3 2 spDraw (tCons3 (tVar3 0) (tCons3 (tC3 (.int 5)) tNil3))) (tC3 (.int 0)))) (tSeq3 (tAsg3 (tOp3 (bop .Add) (tOp3 (bop .Add) (tOp3 (bop .Mult) (tC3 (.int 3)) (tCall3 2 spDraw (tCons3 (tVar3 0) (tCons3 (tVar3 1) tNil3)))) (tC3 (.int 1))) (tCall3 2 spDraw (tCons3 (tVar3 0) (tCons3 (tC3 (.int 2)) tNil3)))) (gName3 2))
   tNext3) tNext3)
  (tPRest w))))
theorem base_succ (m : Nat) : base (m + 1) = (base m).dropLast ++ [([], .test Ra (3 * (m : Int) + 1) (3 * (m : Int) + 2)), ([], .go (3 * (m : Int) + 3)), ([], .go (3 * (m : Int) + 3)), ([], .fin)] := by
  unfold base
  rw [List.range_succ, List.flatMap_append, List.dropLast_concat]
  simp
theorem base_len (m : Nat) : (base m).length = 3 * m + 1 := by
  induction m with
  | zero => rfl
  | succ m ih =>
    rw [base_succ, List.length_append, List.length_dropLast, ih]
    simp
    omega
/-- the rows but the last -/
def bod (m : Nat) : List Row := (base m).dropLast
theorem bod_succ (m : Nat) : bod (m + 1) = bod m ++ [([], .test Ra (3 * (m : Int) + 1) (3 * (m : Int) + 2)), ([], .go (3 * (m : Int) + 3)), ([], .go (3 * (m : Int) + 3))] := by
  unfold bod
  rw [base_succ]
  simp
theorem bod_len (m : Nat) : (bod m).length = 3 * m := by unfold bod; rw [List.length_dropLast, base_len]; omega
theorem base_bod (m : Nat) : base m = bod m ++ [([], .fin)] := by unfold bod base; rw [List.dropLast_concat]
end L3
namespace L3
open PySem PySem.Spec PyProof.Rows L2
local macro_rules | `(tactic| walk_at "rd") => `(tactic| (repeat (first | dsimp only [q_zip, v_zipT, v_zipL, q_seq, q_next, q_break, q_cont, q_ifS, q_drop, q_ret, q_retN, q_asg, q_setN, q_setV, q_aug, q_augS, q_gName, q_gNil, q_gCons, q_gTupT, q_gTupL, q_gSub, q_var, q_c, q_nil, q_cons, q_tup, q_ls, q_lv, q_ln, q_op, q_B, q_chain, q_and, q_or, q_not, q_andV, q_orV, q_notV, q_if, q_un, q_call, q_cb, q_cbl, q_opL, q_noP, q_part, q_sl, q_lc, q_yes, q_I, q_rg1, q_rg2, q_for, q_rt, q_nx, v_ixT, v_ixL, v_eqS, v_eqI, v_eqB, v_eqNI, v_neS, v_neI, v_neB, v_lt, v_le, v_gt, v_ge, v_is, v_isn, v_nonN, v_nonI, v_nonT, v_nonL, v_inT, v_ninT, v_flS, v_flI, v_any0, v_anyC, v_addI, v_addT, v_addL, v_subI, v_mulI, v_mulL, v_divI, v_modI, v_powI, v_iaddI, v_neg, v_intB, v_intI, v_lenT, v_lenL, v_tupL, v_tupT, v_walkT, v_walkL, v_rg1, v_bindN, v_slL, List.getElem?_cons_zero, List.getElem?_cons_succ, List.set_cons_zero, List.set_cons_succ, wipe3] | simp only [v_iN_int, v_iN_str, v_iN_bool, v_iN_tuple, v_iN_list, v_iN_dict, v_iB_int, v_iB_str, v_iB_bool, v_iB_tuple, v_iB_list, v_iB_dict, v_iI_int, v_iI_str, v_iI_bool, v_iI_tuple, v_iI_list, v_iI_dict, v_iS_int, v_iS_str, v_iS_bool, v_iS_tuple, v_iS_list, v_iS_dict, v_iT_int, v_iT_str, v_iT_bool, v_iT_tuple, v_iT_list, v_iT_dict, v_iL_int, v_iL_str, v_iL_bool, v_iL_tuple, v_iL_list, v_iL_dict, gup_gup, v_ixG, v_setG0, v_setG1, fit0, fit1, fit2, fit3, fit4, fit5, fit6, fit7, fit8, len0, len1, len2, len3, len4, len5, len6, v_at0, v_at1, v_at2, v_at3, v_deqS, v_deqI, ofString_eq, ofString_beq, true_and, and_true, decide_true, decide_false, Bool.not_true, Bool.not_false, Bool.true_and, Bool.false_and, Bool.and_true, Bool.and_false, Bool.or_false, Bool.or_true, Bool.true_or, Bool.false_or, if_true, if_false, reduceIte, List.all_cons, List.all_nil, beq_self_eq_true])))
abbrev Xb (b0 b1 : Int) : List D := [.int b0, .int b1]
abbrev HH (G : Gp) (a p : Addr) (b0 b1 : Int) (L : List Row) : Gp := H2 G a (Xb b0 b1) p (L.map rowD)
def wiD : Option Nat → D
  | none => .non
  | some i => .int (i : Int)
theorem setO_len (P : List Row) (i : Nat) (o : Ord) : (setO P i o).length = P.length := by unfold setO; rw [List.length_set]
theorem row_get {P : List Row} {i : Nat} (h : i < P.length) : (P.map rowD)[i]? = some (rowD (P.getD i ([], .fin))) := by
  rw [List.getElem?_map, List.getElem?_eq_getElem h]
  simp [List.getD_eq_getElem?_getD, List.getElem?_eq_getElem h]
theorem rows_le {n : Nat} (h : n ≤ 400) : n < sizeLine := by
  have : sizeLine = 16777216 := sizeLine_eq
  omega
theorem h_end (w : World) {E : XK3} {Q : D → Gp → Prop} {G : Gp} {a p : Addr} (hap : a ≠ p) {b0 b1 : Int} {P1 : List Row} {many at_ : Nat} {wi : Option Nat} {k o7 o8 : Option D}
    (h0 : 0 ≤ b0) (h1 : 0 ≤ b1) (h2 : b1 ≤ 900000) (hl : P1.length = 3 * many + 1) (hm : many ≤ 100) (hw : ∀ i, wi = some i → i < P1.length)
    (q : ∀ (P : List Row) G', (wi = none → P = P1) → (∀ i, wi = some i → ∃ o2 : Ord, o2.traps = false ∧ o2.seen = true ∧ P = setO P1 i o2) → Q (.tup [progD P, wiD wi, .int (at_ : Int)]) G') :
    tPEnd w (defEnds E Q) [some (.ref a), some (.int (many : Int)), some (wiD wi), some (.int (at_ : Int)), some (.tup [.str "reg", .str "a"]), some (.ref p), k, o7, o8] (HH G a p b0 b1 P1) := by
  unfold tPEnd
  cases wi with
  | none =>
    simp only [wiD]
    walk_at "rd"
    rw [v_tupR H2_b]
    walk_at "rd"
    exact ret_same (q P1 _ (fun _ => rfl) fun i h => by cases h)
  | some i =>
    have hi := hw i rfl
    simp only [wiD]
    walk_at "rd"
    refine ⟨a, b0, b1, 3, rfl, H2_a hap, h0, h1, by omega, by decide, by decide, fun d b0' hd0 hd1 hb0 => ?_⟩
    walk_at "rd"
    refine v_pick hd0 ?_ fun x hx => ?_
    · simpa using hd1
    obtain ⟨o2, ho1, ho2, ho3⟩ : ∃ o2 : Ord, x = o2.d ∧ o2.traps = false ∧ o2.seen = true := by
      simp only [List.mem_cons, List.not_mem_nil, or_false] at hx
      rcases hx with e | e | e
      · exact ⟨.put Ra 1, e, rfl, rfl⟩
      · exact ⟨.move Ra (.hid 0), e, rfl, rfl⟩
      · exact ⟨.alu "add" Ra Ra Ra, e, rfl, rfl⟩
    subst ho1
    rw [H2_setA hap, v_ixR H2_b, v_at (row_get hi)]
    simp only [rowD]
    walk_at "rd"
    rw [v_setI H2_b (by omega) (by rw [List.length_map]; omega), H2_setB]
    walk_at "rd"
    rw [v_tupR H2_b]
    walk_at "rd"
    have e : (P1.map rowD).set ((i : Int)).toNat (.tup [.tup [o2.d], (P1.getD i ([], .fin)).2.d]) = (setO P1 i o2).map rowD := by
      unfold setO
      rw [List.map_set]
      rfl
    rw [e]
    exact ret_same (q (setO P1 i o2) _ (fun h => by cases h) fun j h => by cases h; exact ⟨o2, ho2, ho3, rfl⟩)
theorem h_mid (w : World) {E : XK3} {Q : D → Gp → Prop} {G : Gp} {a p : Addr} (hap : a ≠ p) {b0 b1 : Int} {many at_ : Nat} {wi : Option Nat} {k : Option D}
    (h0 : 0 ≤ b0) (h1 : 0 ≤ b1) (h2 : b1 ≤ 800000) (hm : many ≤ 100) (ha : at_ ≤ 3 * many) (hw : ∀ i, wi = some i → i < 3 * many + 1)
    (q : ∀ (P : List Row) G' o1, o1.traps = true → (wi = none → P = setO (base many) at_ o1) → (∀ i, wi = some i → ∃ o2 : Ord, o2.traps = false ∧ o2.seen = true ∧ P = setO (setO (base many) at_ o1) i o2) → Q (.tup [progD P, wiD wi, .int (at_ : Int)]) G') :
    tPMid w (defEnds E Q) [some (.ref a), some (.int (many : Int)), some (wiD wi), some (.int (at_ : Int)), some (.tup [.str "reg", .str "a"]), some (.ref p), k, none, none] (HH G a p b0 b1 (bod many)) := by
  unfold tPMid
  walk_at "rd"
  refine q_mtV rfl (v_mt_lst H2_b) mtab_append ?_
  walk_at "rd"
  rw [v_app H2_b]
  refine ⟨by rw [List.length_map, bod_len]; exact rows_le (by omega), ?_⟩
  rw [H2_setB]
  have e : (bod many).map rowD ++ [.tup [.tup [], .tup [.str "end"]]] = (base many).map rowD := by rw [base_bod, List.map_append]; rfl
  rw [e]
  refine ⟨a, b0, b1, 2, rfl, H2_a hap, h0, h1, by omega, by decide, by decide, fun d b0' hd0 hd1 hb0 => ?_⟩
  walk_at "rd"
  refine v_pick hd0 ?_ fun x hx => ?_
  · simpa using hd1
  obtain ⟨o1, ho1, ho2⟩ : ∃ o1 : Ord, x = o1.d ∧ o1.traps = true := by
    simp only [List.mem_cons, List.not_mem_nil, or_false] at hx
    rcases hx with e | e
    · exact ⟨.load (.hid 0) Ra, e, rfl⟩
    · exact ⟨.store Ra Ra, e, rfl⟩
  subst ho1
  have hi : at_ < (base many).length := by rw [base_len]; omega
  rw [H2_setA hap, v_ixR H2_b, v_at (row_get hi)]
  simp only [rowD]
  walk_at "rd"
  rw [v_setI H2_b (by omega) (by rw [List.length_map]; omega), H2_setB]
  have e : ((base many).map rowD).set ((at_ : Int)).toNat (.tup [.tup [o1.d], ((base many).getD at_ ([], .fin)).2.d]) = (setO (base many) at_ o1).map rowD := by
    unfold setO
    rw [List.map_set]
    rfl
  rw [e]
  exact h_end w hap hb0 (by omega) (by omega) (by rw [setO_len, base_len]) hm (fun i h => by rw [setO_len, base_len]; exact hw i h) fun P G' q1 q2 => q P G' o1 ho2 q1 q2
def PrI (G : Gp) (a p : Addr) (b0 b1 : Int) (many at_ : Nat) (wi : Option Nat) (i : Nat) (σ : St3) (G1 : Gp) : Prop := ∃ k, σ = [some (.ref a), some (.int (many : Int)), some (wiD wi), some (.int (at_ : Int)), some (.tup [.str "reg", .str "a"]), some (.ref p), k, none, none] ∧ G1 = HH G a p b0 b1 (bod i)
theorem h_forB (w : World) {G : Gp} {a p : Addr} {b0 b1 : Int} {many at_ i : Nat} {wi : Option Nat} {k : Option D} {D1 : Ends3} {A : St3 → Gp → Prop} (hi : i < 100)
    (hA : ∀ σ' G', PrI G a p b0 b1 many at_ wi (i + 1) σ' G' → A σ' G') :
    tPForB w { D1 with nx := A, ct := A, bk := D1.nx } [some (.ref a), some (.int (many : Int)), some (wiD wi), some (.int (at_ : Int)), some (.tup [.str "reg", .str "a"]), some (.ref p), some (.int (0 + (i : Int))), none, none] (HH G a p b0 b1 (bod i)) := by
  unfold tPForB
  rw [Int.zero_add]
  have c := cmul_small (i := 3) (j := (i : Int)) (by decide) (by decide) (by omega) (by omega)
  walk_at "rd"
  refine q_mtV rfl (v_mt_lst H2_b) mtab_append ?_
  walk_at "rd"
  refine ⟨c, c, ?_⟩
  rw [v_app H2_b]
  refine ⟨by rw [List.length_map, bod_len]; exact rows_le (by omega), ?_⟩
  rw [H2_setB]
  refine q_mtV rfl (v_mt_lst H2_b) mtab_append ?_
  walk_at "rd"
  refine ⟨c, ?_⟩
  rw [v_app H2_b]
  refine ⟨by rw [List.length_append, List.length_map, bod_len]; exact rows_le (by simp; omega), ?_⟩
  rw [H2_setB]
  refine q_mtV rfl (v_mt_lst H2_b) mtab_append ?_
  walk_at "rd"
  refine ⟨c, ?_⟩
  rw [v_app H2_b]
  refine ⟨by rw [List.length_append, List.length_append, List.length_map, bod_len]; exact rows_le (by simp; omega), ?_⟩
  rw [H2_setB]
  refine hA _ _ ⟨_, rfl, ?_⟩
  unfold HH
  rw [bod_succ, List.map_append, List.append_assoc, List.append_assoc]
  rfl
theorem h_rest (w : World) {E : XK3} {Q : D → Gp → Prop} {G : Gp} {a : Addr} {b0 b1 : Int} {many : Nat} {wi : Option Nat} {a0 : Int} {z0 : Int}
    (hG : G a = some (.lst [.int z0, .int a0])) (h0 : 0 ≤ b0) (h1 : 0 ≤ b1) (h2 : b1 ≤ 700000) (m1 : 1 ≤ many) (hm : many ≤ 100) (hw : ∀ i, wi = some i → i < 3 * many + 1)
    (q : ∀ (P : List Row) G' (at_ : Nat) o1, (∃ j, at_ = 3 * j ∧ j ≤ many) → o1.traps = true → (wi = none → P = setO (base many) at_ o1) → (∀ i, wi = some i → ∃ o2 : Ord, o2.traps = false ∧ o2.seen = true ∧ P = setO (setO (base many) at_ o1) i o2) → Q (.tup [progD P, wiD wi, .int (at_ : Int)]) G') :
    tPRest w (defEnds E Q) [some (.ref a), some (.int (many : Int)), some (wiD wi), none, none, none, none, none, none] (gup G a (.lst (Xb b0 b1))) := by
  unfold tPRest
  walk_at "rd"
  refine ⟨cmul_small (by decide) (by decide) (by omega) (by omega), a, b0, b1, (many : Int) + 1, rfl, gup_same, h0, h1, by omega, by omega, by omega, fun d b0' hd0 hd1 hb0 => ?_⟩
  refine ⟨cmul_small (by decide) (by decide) (by omega) (by omega), ?_⟩
  try rw [gup_gup]
  refine ⟨a, b0', b1 + 1, 2, rfl, gup_same, hb0, by omega, by omega, by decide, by decide, fun d2 b0'' hd20 hd21 hb0' => ?_⟩
  try rw [gup_gup]
  walk_at "rd"
  refine v_pick hd20 ?_ fun x hx => ?_
  · simpa using hd21
  obtain ⟨at_, hx1, hx2⟩ : ∃ at_ : Nat, x = .int (at_ : Int) ∧ ∃ j, at_ = 3 * j ∧ j ≤ many := by
    simp only [List.mem_cons, List.not_mem_nil, or_false] at hx
    rcases hx with e | e
    · exact ⟨3 * many, by (rw [e]; (congr 1 <;> omega)), many, rfl, Nat.le_refl _⟩
    · exact ⟨3 * d.toNat, by (rw [e]; (congr 1 <;> omega)), d.toNat, rfl, by omega⟩
  subst hx1
  walk_at "rd"
  intro p hp
  have hap : a ≠ p := fun z => by rw [z, gup_same] at hp; cases hp
  refine ⟨by omega, ?_, ?_⟩
  · have z : sizeLine = 16777216 := sizeLine_eq
    omega
  · obtain ⟨j, hj1, hj2⟩ := hx2
    refine for_inv (PrI G a p b0'' (b1 + 1 + 1) many at_ wi) ⟨none, rfl, rfl⟩ (fun _ _ _ _ => trivial) (fun i d σ G1 hd ⟨k, e1, e2⟩ => ?_) fun σ G1 ⟨k, e1, e2⟩ => ?_
    · obtain ⟨e3, hi⟩ := rng_at hd
      subst e1 e2 e3
      exact ⟨_, rfl, fun A hA => h_forB (k := none) w (by omega) hA⟩
    · subst e1 e2
      rw [rng_length]
      have em : ((many : Int)).toNat = many := by omega
      rw [em]
      exact h_mid w hap hb0' (by omega) (by omega) hm (by omega) hw fun P G' o1 t1 t2 t3 => q P G' at_ o1 ⟨j, hj1, hj2⟩ t1 t2 t3
theorem h_program (w : World) : ∀ ds G E Q, ds.length = 1 → spProgram ds G E Q → tProgram w (defEnds E Q) (start3 ["bag", "many", "write", "at", "place", "lined", "k", "order", "seen"] ds) G := by
  intro ds G E Q _ ⟨a, b0, b1, e, hG, h0, h1, h2, q⟩
  subst e
  show tProgram w (defEnds E Q) [some (.ref a), none, none, none, none, none, none, none, none] G
  unfold tProgram
  walk_at "rd"
  refine ⟨a, b0, b1, 2, rfl, hG, h0, h1, by omega, by decide, by decide, fun d b0' hd0 hd1 hb0 => ?_⟩
  walk_at "rd"
  refine v_pick hd0 ?_ fun x hx => ?_
  · simpa using hd1
  obtain ⟨mx, hx1, hx2, hx3⟩ : ∃ mx : Int, x = .int mx ∧ 1 ≤ mx ∧ mx ≤ 99 := by
    simp only [List.mem_cons, List.not_mem_nil, or_false] at hx
    rcases hx with e | e
    · exact ⟨9, e, by decide, by decide⟩
    · exact ⟨99, e, by decide, by decide⟩
  subst hx1
  walk_at "rd"
  refine ⟨a, b0', b1 + 1, mx, rfl, gup_same, hb0, by omega, by omega, hx2, by omega, fun d2 b02 hd20 hd21 hb02 => ?_⟩
  try rw [gup_gup]
  obtain ⟨many, hmany⟩ : ∃ many : Nat, 1 + d2 = (many : Int) := ⟨(1 + d2).toNat, by omega⟩
  walk_at "rd"
  rw [hmany]
  refine ⟨a, b02, b1 + 1 + 1, 5, rfl, gup_same, hb02, by omega, by omega, by decide, by decide, fun d3 b03 hd30 hd31 hb03 => ?_⟩
  try rw [gup_gup]
  walk_at "rd"
  by_cases h : 0 < d3
  · rw [decide_eq_true h]
    walk_at "rd"
    refine ⟨a, b03, b1 + 1 + 1 + 1, (many : Int), rfl, gup_same, hb03, by omega, by omega, by omega, by omega, fun d4 b04 hd40 hd41 hb04 => ?_⟩
    try rw [gup_gup]
    refine ⟨cmul_small (by decide) (by decide) (by omega) (by omega), a, b04, b1 + 1 + 1 + 1 + 1, 2, rfl, gup_same, hb04, by omega, by omega, by decide, by decide, fun d5 b05 hd50 hd51 hb05 => ?_⟩
    try rw [gup_gup]
    obtain ⟨i, hi⟩ : ∃ i : Nat, 3 * d4 + 1 + d5 = (i : Int) := ⟨(3 * d4 + 1 + d5).toNat, by omega⟩
    walk_at "rd"
    rw [hi]
    refine h_rest w (wi := some i) hG hb05 (by omega) (by omega) (by omega) (by omega) (fun j hj => by cases hj; omega) fun P G' at_ o1 ha t1 t2 t3 => ?_
    obtain ⟨o2, u1, u2, u3⟩ := t3 i rfl
    subst u3
    exact q many at_ o1 (some (i, o2)) G' ⟨by omega, by omega, ha, t1, fun i' o' hh => by cases hh; exact ⟨⟨d4.toNat, by omega, by omega⟩, u1, u2⟩⟩
  · rw [decide_eq_false h]
    walk_at "rd"
    refine h_rest w (wi := none) hG hb03 (by omega) (by omega) (by omega) (by omega) (fun j hj => by cases hj) fun P G' at_ o1 ha t1 t2 t3 => ?_
    have e := t2 rfl
    subst e
    exact q many at_ o1 none G' ⟨by omega, by omega, ha, t1, fun i' o' hh => by cases hh⟩
end L3
namespace L3
open PySem PySem.Spec PyProof.Rows L2
def nxB (many i : Nat) : Fu := if i < 3 * many then (if i % 3 = 0 then .test Ra ((i : Int) + 1) ((i : Int) + 2) else if i % 3 = 1 then .go ((i : Int) + 2) else .go ((i : Int) + 1)) else .fin
theorem bod_get (i : Nat) : ∀ m : Nat, (bod m)[i]? = if i < 3 * m then some ([], nxB m i) else none
  | 0 => by
    have : bod 0 = [] := rfl
    rw [this]
    simp
  | m + 1 => by
    rw [bod_succ, List.getElem?_append, bod_len, bod_get i m]
    by_cases h : i < 3 * m
    · rw [if_pos h, if_pos h, if_pos (show i < 3 * (m + 1) by omega)]
      have e : nxB m i = nxB (m + 1) i := by
        unfold nxB
        rw [if_pos h, if_pos (show i < 3 * (m + 1) by omega)]
      rw [e]
    · rw [if_neg h]
      by_cases h0 : i = 3 * m
      · subst h0
        rw [if_pos (by omega)]
        unfold nxB
        rw [if_pos (by omega), if_pos (by omega)]
        simp
      · by_cases h1 : i = 3 * m + 1
        · subst h1
          rw [if_pos (by omega)]
          unfold nxB
          rw [if_pos (by omega), if_neg (by omega), if_pos (by omega)]
          have e : 3 * m + 1 - 3 * m = 1 := by omega
          rw [e]
          simp
          omega
        · by_cases h2 : i = 3 * m + 2
          · subst h2
            rw [if_pos (by omega)]
            unfold nxB
            rw [if_pos (by omega), if_neg (by omega), if_neg (by omega)]
            have e : 3 * m + 2 - 3 * m = 2 := by omega
            rw [e]
            simp
            omega
          · rw [if_neg (by omega)]
            rw [List.getElem?_eq_none (by simp; omega)]
theorem base_get {m i : Nat} (h : i ≤ 3 * m) : (base m)[i]? = some ([], nxB m i) := by
  rw [base_bod, List.getElem?_append, bod_len, bod_get]
  by_cases h1 : i < 3 * m
  · rw [if_pos h1, if_pos h1]
  · rw [if_neg h1]
    have e : i - 3 * m = 0 := by omega
    rw [e]
    unfold nxB
    rw [if_neg h1]
    rfl
def osB (at_ : Nat) (o1 : Ord) (wr : Option (Nat × Ord)) (i : Nat) : List Ord := match wr with
  | none => if i = at_ then [o1] else []
  | some (wi, o2) => if i = wi then [o2] else if i = at_ then [o1] else []
theorem setO_get {P : List Row} {i j : Nat} {o : Ord} {os : List Ord} {f : Fu} (h : P[j]? = some (os, f)) : (setO P i o)[j]? = some (if j = i then [o] else os, f) := by
  have hl := (List.getElem?_eq_some_iff.mp h).1
  unfold setO
  by_cases e : i = j
  · subst e
    rw [List.getElem?_set_self hl, if_pos rfl, List.getD_eq_getElem?_getD, h]
    rfl
  · rw [List.getElem?_set_ne e, h, if_neg (fun z => e z.symm)]
theorem prog_get {many at_ : Nat} {o1 : Ord} {wr : Option (Nat × Ord)} {i : Nat} (h : i ≤ 3 * many) : (prog69 many at_ o1 wr)[i]? = some (osB at_ o1 wr i, nxB many i) := by
  have hb := base_get h
  cases wr with
  | none => exact setO_get hb
  | some p =>
    obtain ⟨wi, o2⟩ := p
    exact setO_get (setO_get hb)
theorem prog_len {many at_ : Nat} {o1 : Ord} {wr : Option (Nat × Ord)} : (prog69 many at_ o1 wr).length = 3 * many + 1 := by
  cases wr with
  | none => show (setO _ _ _).length = _; rw [setO_len, base_len]
  | some p =>
    obtain ⟨wi, o2⟩ := p
    show (setO (setO _ _ _) _ _).length = _
    rw [setO_len, setO_len, base_len]
section
variable {many at_ : Nat} {o1 : Ord} {wr : Option (Nat × Ord)}
theorem row_at {i : Nat} (h : i ≤ 3 * many) : rowAt (prog69 many at_ o1 wr) (i : Int) = some (osB at_ o1 wr i, nxB many i) := by
  unfold rowAt
  rw [if_pos (by omega)]
  have e : ((i : Int)).toNat = i := by omega
  rw [e]
  exact prog_get h
theorem row_no {n : Int} {r : Row} (h : rowAt (prog69 many at_ o1 wr) n = some r) : ∃ i : Nat, n = (i : Int) ∧ i ≤ 3 * many ∧ r = (osB at_ o1 wr i, nxB many i) := by
  have h0 := h
  unfold rowAt at h
  split at h
  · rename_i hn
    have hl := (List.getElem?_eq_some_iff.mp h).1
    rw [prog_len] at hl
    refine ⟨n.toNat, by omega, by omega, ?_⟩
    have e : n = ((n.toNat : Nat) : Int) := by omega
    rw [e, row_at (by omega)] at h0
    exact (Option.some.inj h0).symm
  · cases h
theorem nx_mem {i : Nat} {m : Int} (hi : i ≤ 3 * many) (h : m ∈ (nxB many i).nexts) : ∃ j : Nat, m = (j : Int) ∧ i < j ∧ j ≤ 3 * many ∧ ((i % 3 = 0 ∧ (j = i + 1 ∨ j = i + 2)) ∨ (i % 3 = 1 ∧ j = i + 2) ∨ (i % 3 = 2 ∧ j = i + 1)) := by
  unfold nxB at h
  split at h
  · rename_i hl
    split at h
    · rename_i h3
      simp only [Fu.nexts, List.mem_cons, List.not_mem_nil, or_false] at h
      rcases h with e | e
      · exact ⟨i + 1, by omega, by omega, by omega, .inl ⟨h3, .inl rfl⟩⟩
      · exact ⟨i + 2, by omega, by omega, by omega, .inl ⟨h3, .inr rfl⟩⟩
    · split at h
      · rename_i h3 h4
        simp only [Fu.nexts, List.mem_cons, List.not_mem_nil, or_false] at h
        exact ⟨i + 2, by omega, by omega, by omega, .inr (.inl ⟨h4, rfl⟩)⟩
      · simp only [Fu.nexts, List.mem_cons, List.not_mem_nil, or_false] at h
        exact ⟨i + 1, by omega, by omega, by omega, .inr (.inr ⟨by omega, rfl⟩)⟩
  · cases h
theorem wf69 : Wf (prog69 many at_ o1 wr) := by
  intro r hr m hm
  obtain ⟨i, hi⟩ := List.mem_iff_getElem?.mp hr
  have hl := (List.getElem?_eq_some_iff.mp hi).1
  rw [prog_len] at hl
  rw [prog_get (by omega)] at hi
  cases hi
  obtain ⟨j, e, _, h2, _⟩ := nx_mem (by omega) hm
  rw [prog_len]
  omega
theorem tr_at (ok : Ok69 many at_ o1 wr) (i : Nat) : (osB at_ o1 wr i).any Ord.traps = decide (i = at_) := by
  obtain ⟨j, ha, _⟩ := ok.at3
  cases wr with
  | none =>
    simp only [osB]
    by_cases h : i = at_
    · rw [if_pos h, decide_eq_true h]; simp [ok.o1]
    · rw [if_neg h, decide_eq_false h]; rfl
  | some p =>
    obtain ⟨wi, o2⟩ := p
    obtain ⟨⟨j', _, hw⟩, h1, h2⟩ := ok.wr wi o2 rfl
    simp only [osB]
    by_cases h : i = wi
    · rw [if_pos h]
      have : i ≠ at_ := by omega
      rw [decide_eq_false this]
      simp [h1]
    · rw [if_neg h]
      by_cases h : i = at_
      · rw [if_pos h, decide_eq_true h]; simp [ok.o1]
      · rw [if_neg h, decide_eq_false h]; rfl
def wIs (wr : Option (Nat × Ord)) (i : Nat) : Prop := ∃ o, wr = some (i, o)
theorem sn_at (ok : Ok69 many at_ o1 wr) {i : Nat} (h : (osB at_ o1 wr i).any Ord.seen = true) : wIs wr i ∨ i = at_ := by
  cases wr with
  | none =>
    simp only [osB] at h
    by_cases e : i = at_
    · exact .inr e
    · rw [if_neg e] at h; cases h
  | some p =>
    obtain ⟨wi, o2⟩ := p
    simp only [osB] at h
    by_cases e : i = wi
    · subst e; exact .inl ⟨o2, rfl⟩
    · rw [if_neg e] at h
      by_cases e : i = at_
      · exact .inr e
      · rw [if_neg e] at h; cases h
theorem sn_w (ok : Ok69 many at_ o1 wr) {i : Nat} (h : wIs wr i) : (osB at_ o1 wr i).any Ord.seen = true := by
  obtain ⟨o, e⟩ := h
  subst e
  obtain ⟨_, _, h2⟩ := ok.wr i o rfl
  simp [osB, h2]
theorem sn_no (ok : Ok69 many at_ o1 wr) {i : Nat} (h : ¬ wIs wr i) (h2 : i ≠ at_) : (osB at_ o1 wr i).any Ord.seen = false := by
  cases q : (osB at_ o1 wr i).any Ord.seen with
  | false => rfl
  | true => rcases sn_at ok q with z | z
            · exact absurd z h
            · exact absurd z h2
/-- where the trap is met, seen -/
def RB (at_ : Nat) (wr : Option (Nat × Ord)) (i : Nat) (s : Bool) : Prop := match s with
  | true => i ≤ at_
  | false => ∃ wi, wIs wr wi ∧ wi < at_ ∧ (i ≤ 3 * (wi / 3) ∨ i = wi)
theorem reach_rb (ok : Ok69 many at_ o1 wr) {s : Stt} (r : Reach (prog69 many at_ o1 wr) s) : ∃ i : Nat, s.1 = (i : Int) ∧ i ≤ 3 * many ∧ RB at_ wr i s.2 := by
  induction r with
  | @hit s h =>
    obtain ⟨n, b⟩ := s
    unfold hitS at h
    rw [Bool.and_eq_true] at h
    obtain ⟨h1, h2⟩ := h
    simp only at h1 h2
    split at h2
    · rename_i r hr
      obtain ⟨i, e1, e2, e3⟩ := row_no hr
      subst e3
      rw [tr_at ok] at h2
      have : i = at_ := of_decide_eq_true h2
      subst h1
      exact ⟨i, e1, e2, by rw [this]; exact Nat.le_refl _⟩
    · cases h2
  | @step s u h r ih =>
    obtain ⟨n, b⟩ := s
    unfold nextS at h
    simp only at h
    split at h
    · rename_i r hr
      obtain ⟨i, e1, e2, e3⟩ := row_no hr
      subst e3
      obtain ⟨m, hm, eu⟩ := List.mem_map.mp h
      subst eu
      obtain ⟨j, f1, f2, f3, f4⟩ := nx_mem e2 hm
      obtain ⟨j', g1, g2, g3⟩ := ih
      simp only at g1 g3
      have ej : j' = j := by omega
      subst ej
      refine ⟨i, e1, e2, ?_⟩
      obtain ⟨ja, hja, _⟩ := ok.at3
      cases b with
      | true => 
        have g3' : j' ≤ at_ := g3
        show i ≤ at_
        omega
      | false =>
        cases q : (osB at_ o1 wr i).any Ord.seen with
        | true =>
          rw [q] at g3
          have g3' : j' ≤ at_ := g3
          rcases sn_at ok q with z | z
          · exact ⟨i, z, by omega, .inr rfl⟩
          · omega
        | false =>
          rw [q] at g3
          obtain ⟨wi, w1, w2, w3⟩ := g3
          refine ⟨wi, w1, w2, ?_⟩
          have w1' := w1
          obtain ⟨o, ew⟩ := w1'
          obtain ⟨⟨jj, _, hw⟩, _, _⟩ := ok.wr wi o ew
          have ne : i ≠ wi := fun z => by subst z; rw [sn_w ok w1] at q; cases q
          left
          rcases w3 with w3 | w3
          · omega
          · subst w3
            omega
    · cases h
theorem rb_reach_t (ok : Ok69 many at_ o1 wr) : ∀ (d i : Nat), at_ - i ≤ d → i ≤ at_ → Reach (prog69 many at_ o1 wr) ((i : Int), true)
  | d, i, hd, hi => by
    obtain ⟨ja, hja, hj2⟩ := ok.at3
    have hr := row_at (many := many) (at_ := at_) (o1 := o1) (wr := wr) (i := i) (by omega)
    by_cases e : i = at_
    · refine .hit ?_
      unfold hitS
      simp only [hr, tr_at ok, decide_eq_true e]
      rfl
    · cases d with
      | zero => omega
      | succ d =>
        have hl : i < 3 * many := by omega
        by_cases h3 : i % 3 = 0
        · refine .step (u := (((i + 1 : Nat) : Int), true)) ?_ (rb_reach_t ok d (i + 1) (by omega) (by omega))
          unfold nextS
          simp only [hr]
          refine List.mem_map.mpr ⟨((i + 1 : Nat) : Int), ?_, rfl⟩
          unfold nxB
          rw [if_pos hl, if_pos h3]
          simp [Fu.nexts]
        · by_cases h4 : i % 3 = 1
          · refine .step (u := (((i + 2 : Nat) : Int), true)) ?_ (rb_reach_t ok d (i + 2) (by omega) (by omega))
            unfold nextS
            simp only [hr]
            refine List.mem_map.mpr ⟨((i + 2 : Nat) : Int), ?_, rfl⟩
            unfold nxB
            rw [if_pos hl, if_neg h3, if_pos h4]
            simp [Fu.nexts]
          · refine .step (u := (((i + 1 : Nat) : Int), true)) ?_ (rb_reach_t ok d (i + 1) (by omega) (by omega))
            unfold nextS
            simp only [hr]
            refine List.mem_map.mpr ⟨((i + 1 : Nat) : Int), ?_, rfl⟩
            unfold nxB
            rw [if_pos hl, if_neg h3, if_neg h4]
            simp [Fu.nexts]
theorem step_to (i m : Nat) (hi : i ≤ 3 * many) {b : Bool} (hm : ((m : Nat) : Int) ∈ (nxB many i).nexts) (r : Reach (prog69 many at_ o1 wr) ((m : Int), b || (osB at_ o1 wr i).any Ord.seen)) : Reach (prog69 many at_ o1 wr) ((i : Int), b) := by
  refine .step (u := ((m : Int), b || (osB at_ o1 wr i).any Ord.seen)) ?_ r
  unfold nextS
  simp only [row_at hi]
  exact List.mem_map.mpr ⟨_, hm, rfl⟩
theorem nx0 {i : Nat} (hl : i < 3 * many) (h3 : i % 3 = 0) : (nxB many i).nexts = [((i + 1 : Nat) : Int), ((i + 2 : Nat) : Int)] := by
  unfold nxB
  rw [if_pos hl, if_pos h3]
  simp [Fu.nexts]
theorem nx1 {i : Nat} (hl : i < 3 * many) (h3 : i % 3 = 1) : (nxB many i).nexts = [((i + 2 : Nat) : Int)] := by
  unfold nxB
  rw [if_pos hl, if_neg (by omega), if_pos h3]
  simp [Fu.nexts]
theorem nx2 {i : Nat} (hl : i < 3 * many) (h3 : i % 3 = 2) : (nxB many i).nexts = [((i + 1 : Nat) : Int)] := by
  unfold nxB
  rw [if_pos hl, if_neg (by omega), if_neg (by omega)]
  simp [Fu.nexts]
theorem rb_reach_f (ok : Ok69 many at_ o1 wr) {wi : Nat} (hw : wIs wr wi) (hwa : wi < at_) : ∀ (d i : Nat), wi - i ≤ d → (i ≤ 3 * (wi / 3) ∨ i = wi) → Reach (prog69 many at_ o1 wr) ((i : Int), false)
  | d, i, hd, hi => by
    obtain ⟨ja, hja, hj2⟩ := ok.at3
    obtain ⟨o, ew⟩ := id hw
    obtain ⟨⟨jj, hjj, hwj⟩, _, _⟩ := ok.wr wi o ew
    by_cases e : i = wi
    · subst e
      have hs := sn_w ok hw
      by_cases h1 : i % 3 = 1
      · refine step_to i (i + 2) (by omega) (by rw [nx1 (by omega) h1]; simp) ?_
        rw [hs]
        exact rb_reach_t ok _ _ (Nat.le_refl _) (by omega)
      · refine step_to i (i + 1) (by omega) (by rw [nx2 (by omega) (by omega)]; simp) ?_
        rw [hs]
        exact rb_reach_t ok _ _ (Nat.le_refl _) (by omega)
    · have hi' : i ≤ 3 * (wi / 3) := by
        rcases hi with z | z
        · exact z
        · exact absurd z e
      have hs : (osB at_ o1 wr i).any Ord.seen = false := sn_no ok (fun ⟨o', e'⟩ => by rw [ew] at e'; cases e'; exact e rfl) (by omega)
      cases d with
      | zero => omega
      | succ d =>
        by_cases h3 : i % 3 = 0
        · by_cases hb : i = 3 * (wi / 3)
          · refine step_to i wi (by omega) ?_ ?_
            · rw [nx0 (by omega) h3]
              have : wi = i + 1 ∨ wi = i + 2 := by omega
              rcases this with z | z <;> (rw [z]; simp)
            · rw [hs]
              exact rb_reach_f ok hw hwa d wi (by omega) (.inr rfl)
          · refine step_to i (i + 1) (by omega) (by rw [nx0 (by omega) h3]; simp) ?_
            rw [hs]
            exact rb_reach_f ok hw hwa d (i + 1) (by omega) (.inl (by omega))
        · by_cases h4 : i % 3 = 1
          · refine step_to i (i + 2) (by omega) (by rw [nx1 (by omega) h4]; simp) ?_
            rw [hs]
            exact rb_reach_f ok hw hwa d (i + 2) (by omega) (.inl (by omega))
          · refine step_to i (i + 1) (by omega) (by rw [nx2 (by omega) (by omega)]; simp) ?_
            rw [hs]
            exact rb_reach_f ok hw hwa d (i + 1) (by omega) (.inl (by omega))
end
end L3
namespace L3
open PySem PySem.Spec PyProof.Rows L2
local macro_rules | `(tactic| walk_at "rd") => `(tactic| (repeat (first | dsimp only [q_zip, v_zipT, v_zipL, q_seq, q_next, q_break, q_cont, q_ifS, q_drop, q_ret, q_retN, q_asg, q_setN, q_setV, q_aug, q_augS, q_gName, q_gNil, q_gCons, q_gTupT, q_gTupL, q_gSub, q_var, q_c, q_nil, q_cons, q_tup, q_ls, q_lv, q_ln, q_op, q_B, q_chain, q_and, q_or, q_not, q_andV, q_orV, q_notV, q_if, q_un, q_call, q_cb, q_cbl, q_opL, q_noP, q_part, q_sl, q_lc, q_yes, q_I, q_rg1, q_rg2, q_for, q_rt, q_nx, v_ixT, v_ixL, v_eqS, v_eqI, v_eqB, v_eqNI, v_neS, v_neI, v_neB, v_lt, v_le, v_gt, v_ge, v_is, v_isn, v_nonN, v_nonI, v_nonT, v_nonL, v_inT, v_ninT, v_flS, v_flI, v_any0, v_anyC, v_addI, v_addT, v_addL, v_subI, v_mulI, v_mulL, v_divI, v_modI, v_powI, v_iaddI, v_neg, v_intB, v_intI, v_lenT, v_lenL, v_tupL, v_tupT, v_walkT, v_walkL, v_rg1, v_bindN, v_slL, List.getElem?_cons_zero, List.getElem?_cons_succ, List.set_cons_zero, List.set_cons_succ, wipe3] | simp only [v_iN_int, v_iN_str, v_iN_bool, v_iN_tuple, v_iN_list, v_iN_dict, v_iB_int, v_iB_str, v_iB_bool, v_iB_tuple, v_iB_list, v_iB_dict, v_iI_int, v_iI_str, v_iI_bool, v_iI_tuple, v_iI_list, v_iI_dict, v_iS_int, v_iS_str, v_iS_bool, v_iS_tuple, v_iS_list, v_iS_dict, v_iT_int, v_iT_str, v_iT_bool, v_iT_tuple, v_iT_list, v_iT_dict, v_iL_int, v_iL_str, v_iL_bool, v_iL_tuple, v_iL_list, v_iL_dict, gup_gup, v_ixG, v_setG0, v_setG1, fit0, fit1, fit2, fit3, fit4, fit5, fit6, fit7, fit8, len0, len1, len2, len3, len4, len5, len6, v_at0, v_at1, v_at2, v_at3, v_deqS, v_deqI, ofString_eq, ofString_beq, true_and, and_true, decide_true, decide_false, Bool.not_true, Bool.not_false, Bool.true_and, Bool.false_and, Bool.and_true, Bool.and_false, Bool.or_false, Bool.or_true, Bool.true_or, Bool.false_or, if_true, if_false, reduceIte, List.all_cons, List.all_nil, beq_self_eq_true])))
def cOf (wi k : Nat) : Nat := if wi = 3 * k + 2 then wi else 3 * k + 1
def wl (wi : Nat) : Nat → Nat → List Int
  | 0, k => [((3 * k : Nat) : Int)]
  | m + 1, k => ((3 * k : Nat) : Int) :: ((cOf wi k : Nat) : Int) :: wl wi m (k + 1)
theorem wl_len (wi : Nat) : ∀ m k, (wl wi m k).length = 2 * m + 1
  | 0, _ => rfl
  | m + 1, k => by simp [wl, wl_len wi m (k + 1)]; omega
def ptL (wi k m : Nat) : List Int := (List.range' k m).flatMap fun k => [((3 * k : Nat) : Int), ((cOf wi k : Nat) : Int)]
theorem ptL_wl (wi : Nat) : ∀ m k, ptL wi k m ++ [((3 * (k + m) : Nat) : Int)] = wl wi m k
  | 0, k => by simp [ptL, wl]
  | m + 1, k => by
    have ih := ptL_wl wi m (k + 1)
    unfold ptL at ih ⊢
    rw [List.range'_succ, List.flatMap_cons, List.append_assoc]
    have e : k + 1 + m = k + (m + 1) := by omega
    rw [e] at ih
    rw [ih]
    rfl
theorem ptL_succ (wi m : Nat) : ptL wi 0 (m + 1) = ptL wi 0 m ++ [((3 * m : Nat) : Int), ((cOf wi m : Nat) : Int)] := by
  unfold ptL
  rw [List.range'_concat, List.flatMap_append]
  simp
theorem ptL_len (wi m : Nat) : (ptL wi 0 m).length = 2 * m := by
  have := congrArg List.length (ptL_wl wi m 0)
  rw [wl_len, List.length_append] at this
  simp at this
  omega
section
variable {many at_ : Nat} {o1 : Ord} {wr : Option (Nat × Ord)}
theorem rc (ok : Ok69 many at_ o1 wr) (i : Nat) (b : Bool) : Reach (prog69 many at_ o1 wr) ((i : Int), b) ↔ RB at_ wr i b := by
  constructor
  · intro r
    obtain ⟨j, e, _, h⟩ := reach_rb ok r
    simp only at e h
    have : i = j := by omega
    subst this
    exact h
  · intro h
    cases b with
    | true => exact rb_reach_t ok _ i (Nat.le_refl _) h
    | false =>
      obtain ⟨wi, h1, h2, h3⟩ := h
      exact rb_reach_f ok h1 h2 _ i (Nat.le_refl _) h3
theorem rcw (ok : Ok69 many at_ o1 wr) {wi : Nat} (hw : wIs wr wi) (hwa : wi < at_) (i : Nat) : Reach (prog69 many at_ o1 wr) ((i : Int), false) ↔ (i ≤ 3 * (wi / 3) ∨ i = wi) := by
  rw [rc ok]
  constructor
  · rintro ⟨wj, h1, h2, h3⟩
    obtain ⟨o, e⟩ := hw
    obtain ⟨o', e'⟩ := h1
    rw [e] at e'
    cases e'
    exact h3
  · intro h
    exact ⟨wi, hw, hwa, h⟩
theorem wstep {P : List Row} {n : Int} {s : Bool} {r : Row} {s' : Bool} {l : List Int} {m : Int} {rest : List Int} (hr : rowAt P n = some r) (ht : (s && r.1.any Ord.traps) = false) (hs : (s || r.1.any Ord.seen) = s') (pb : Int → Bool) (hp : ∀ x ∈ r.2.nexts, (pb x = true ↔ Reach P (x, s')))
    (hl : r.2.nexts.filter pb = l) (ne : l ≠ []) (hm : minI l = m) (w : Way P m s' rest) : Way P n s (n :: rest) := by
  subst hs hl
  exact .step pb hr ht hp ne hm w
theorem way69 (ok : Ok69 many at_ o1 wr) {wi : Nat} (hw : wIs wr wi) (hwa : wi < at_) : ∀ m k : Nat, at_ = 3 * (k + m) → Way (prog69 many at_ o1 wr) ((3 * k : Nat) : Int) (decide (wi < 3 * k)) (wl wi m k) := by
  intro m
  obtain ⟨ja, hja, hj2⟩ := ok.at3
  obtain ⟨o, ew⟩ := id hw
  obtain ⟨⟨jj, hjj, hwj⟩, _, _⟩ := ok.wr wi o ew
  induction m with
  | zero =>
    intro k hk
    refine .stop (row_at (by omega)) ?_
    rw [tr_at ok, decide_eq_true (show 3 * k = at_ by omega), decide_eq_true (show wi < 3 * k by omega)]
    rfl
  | succ m ih =>
    intro k hk
    have ihk := ih (k + 1) (by omega)
    have hwu : ∀ i, wIs wr i → i = wi := fun i ⟨o', e'⟩ => by rw [ew] at e'; cases e'; rfl
    have n0 : (nxB many (3 * k)).nexts = [((3 * k + 1 : Nat) : Int), ((3 * k + 2 : Nat) : Int)] := nx0 (by omega) (by omega)
    have t0 : (osB at_ o1 wr (3 * k)).any Ord.traps = false := by rw [tr_at ok]; exact decide_eq_false (by omega)
    have s0 : (osB at_ o1 wr (3 * k)).any Ord.seen = false := sn_no ok (fun z => by have := hwu _ z; omega) (by omega)
    -- the second half: from c
    have hc : cOf wi k = 3 * k + 1 ∨ cOf wi k = 3 * k + 2 := by unfold cOf; split <;> omega
    have nc : (nxB many (cOf wi k)).nexts = [((3 * (k + 1) : Nat) : Int)] := by
      rcases hc with e | e
      · rw [e, nx1 (by omega) (by omega)]; rfl
      · rw [e, nx2 (by omega) (by omega)]; rfl
    have tc : (osB at_ o1 wr (cOf wi k)).any Ord.traps = false := by rw [tr_at ok]; exact decide_eq_false (by omega)
    have sc : (decide (wi < 3 * k) || (osB at_ o1 wr (cOf wi k)).any Ord.seen) = decide (wi < 3 * (k + 1)) := by
      by_cases h1 : cOf wi k = wi
      · rw [sn_w ok (by rw [h1]; exact hw), Bool.or_true]
        exact (decide_eq_true (by omega)).symm
      · rw [sn_no ok (fun z => h1 (hwu _ z)) (by omega), Bool.or_false]
        have : ¬ (wi = 3 * k + 1 ∨ wi = 3 * k + 2) := by
          intro z
          apply h1
          unfold cOf
          split <;> omega
        by_cases h2 : wi < 3 * k
        · rw [decide_eq_true h2, decide_eq_true (by omega)]
        · rw [decide_eq_false h2, decide_eq_false (by omega)]
    have half : Way (prog69 many at_ o1 wr) ((cOf wi k : Nat) : Int) (decide (wi < 3 * k)) (((cOf wi k : Nat) : Int) :: wl wi m (k + 1)) := by
      refine wstep (row_at (by omega)) (by rw [tc, Bool.and_false]) sc (fun _ => true) (fun x hx => ?_) (l := [((3 * (k + 1) : Nat) : Int)]) (by rw [nc]; rfl) (by simp) rfl ihk
      rw [nc] at hx
      simp only [List.mem_cons, List.not_mem_nil, or_false] at hx
      subst hx
      refine ⟨fun _ => ?_, fun _ => rfl⟩
      by_cases h2 : wi < 3 * (k + 1)
      · rw [decide_eq_true h2, rc ok]
        show 3 * (k + 1) ≤ at_
        omega
      · rw [decide_eq_false h2, rcw ok hw hwa]
        left
        omega
    have d1 : (decide (wi < 3 * k) || (osB at_ o1 wr (3 * k)).any Ord.seen) = decide (wi < 3 * k) := by rw [s0, Bool.or_false]
    by_cases h1 : wi < 3 * k ∨ 3 * k + 3 ≤ wi
    · have ec : cOf wi k = 3 * k + 1 := by unfold cOf; rw [if_neg (by omega)]
      refine wstep (row_at (by omega)) (by rw [t0, Bool.and_false]) d1 (fun _ => true) (fun x hx => ?_) (l := [((3 * k + 1 : Nat) : Int), ((3 * k + 2 : Nat) : Int)]) (by rw [n0]; rfl) (by simp) (m := ((cOf wi k : Nat) : Int)) ?_ half
      · rw [n0] at hx
        simp only [List.mem_cons, List.not_mem_nil, or_false] at hx
        refine ⟨fun _ => ?_, fun _ => rfl⟩
        rcases h1 with h1 | h1
        · rw [decide_eq_true h1]
          rcases hx with e | e
          · rw [e, rc ok]; show 3 * k + 1 ≤ at_; omega
          · rw [e, rc ok]; show 3 * k + 2 ≤ at_; omega
        · rw [decide_eq_false (by omega)]
          rcases hx with e | e
          · rw [e, rcw ok hw hwa]; left; omega
          · rw [e, rcw ok hw hwa]; left; omega
      · rw [ec]
        show min ((3 * k + 1 : Nat) : Int) ((3 * k + 2 : Nat) : Int) = _
        omega
    · have h2 : wi = 3 * k + 1 ∨ wi = 3 * k + 2 := by omega
      have ec : cOf wi k = wi := by unfold cOf; split <;> omega
      refine wstep (row_at (by omega)) (by rw [t0, Bool.and_false]) d1 (fun x => decide (x = (wi : Int))) (fun x hx => ?_) (l := [((cOf wi k : Nat) : Int)]) ?_ (by simp) rfl half
      · rw [n0] at hx
        simp only [List.mem_cons, List.not_mem_nil, or_false] at hx
        rw [decide_eq_false (show ¬ wi < 3 * k by omega), decide_eq_true_iff]
        rcases hx with e | e
        · rw [e, rcw ok hw hwa]; omega
        · rw [e, rcw ok hw hwa]; omega
      · rw [n0, ec]
        rcases h2 with z | z
        · rw [List.filter_cons_of_pos (by simp; omega), List.filter_cons_of_neg (by simp; omega), z]; rfl
        · rw [List.filter_cons_of_neg (by simp; omega), List.filter_cons_of_pos (by simp; omega), z]; rfl
end
def due69 (at_ : Nat) : Option (Nat × Ord) → D
  | none => .non
  | some (wi, _) => if wi < at_ then .tup ((wl wi (at_ / 3) 0).map D.int) else .non
def spDue : Sp3 := fun ds _ _ Q => ∃ many at_ o1 wr, Ok69 many at_ o1 wr ∧ ds = [wrD wr, .int (at_ : Int)] ∧ ∀ G', Q (due69 at_ wr) G'
def tDueB (w : World) : TS3 := (tSeq3 (tDrop3 (tMt3 (mtab "append") (tVar3 2) (tCons3 (tOp3 (bop .Mult) (tC3 (.int 3)) (tVar3 3)) tNil3)))
   (tSeq3 (tDrop3 (tMt3 (mtab "append") (tVar3 2) (tCons3 (tOp3 (ixop w) (tLv3 (tLs3 (tCons3 (tOp3 (bop .Add) (tOp3 (bop .Mult) (tC3 (.int 3)) (tVar3 3)) (tC3 (.int 1))) (tCons3 (tVar3 0) tNil3)))) (tCB3 rInt3 (tCons3 (tOp3 (cop w .Eq) (tVar3 0) (tOp3 (bop .Add) (tOp3 (bop .Mult) (tC3 (.int 3)) (tVar3 3)) (tC3 (.int 2)))) tNil3))) tNil3)))
   tNext3))
def tDue (w : World) : TS3 :=
  (tSeq3 (tIfS3 (tOr3 (tB3 (tOp3 (cop w .Is) (tVar3 0) (tC3 .non))) (tB3 (tOp3 (cop w .Gt) (tVar3 0) (tVar3 1)))) (tSeq3 (tRet3 (tC3 .non))
   tNext3) tNext3)
  (tSeq3 (tSetN3 (tLs3 tNil3) 2)
  (tSeq3 (tFor3 (tRg1 (tCons3 (tOp3 (bop .FloorDiv) (tVar3 1) (tC3 (.int 3))) tNil3)) (.nm 3) (tDueB w))
  (tSeq3 (tRet3 (tCB3 rTup3 (tCons3 (tOp3 (bop .Add) (tVar3 2) (tLv3 (tLs3 (tCons3 (tVar3 1) tNil3)))) tNil3)))
  tNext3))))
def DuI (G : Gp) (p : Addr) (wi at_ i : Nat) (σ : St3) (G1 : Gp) : Prop := ∃ k, σ = [some (.int (wi : Int)), some (.int (at_ : Int)), some (.ref p), k] ∧ G1 = gup G p (.lst ((ptL wi 0 i).map D.int))
theorem h_dueB (w : World) {G : Gp} {p : Addr} {wi at_ i : Nat} {D1 : Ends3} {A : St3 → Gp → Prop} (hi : i < 200) (hA : ∀ σ' G', DuI G p wi at_ (i + 1) σ' G' → A σ' G') :
    tDueB w { D1 with nx := A, ct := A, bk := D1.nx } [some (.int (wi : Int)), some (.int (at_ : Int)), some (.ref p), some (.int (0 + (i : Int)))] (gup G p (.lst ((ptL wi 0 i).map D.int))) := by
  unfold tDueB
  rw [Int.zero_add]
  have c := cmul_small (i := 3) (j := (i : Int)) (by decide) (by decide) (by omega) (by omega)
  walk_at "rd"
  refine q_mtV rfl (v_mt_lst gup_same) mtab_append ?_
  walk_at "rd"
  refine ⟨c, ?_⟩
  rw [v_app gup_same]
  refine ⟨by rw [List.length_map, ptL_len]; exact rows_le (by omega), ?_⟩
  rw [gup_gup]
  refine q_mtV rfl (v_mt_lst gup_same) mtab_append ?_
  walk_at "rd"
  refine ⟨c, c, ?_⟩
  have key : ∀ R : D → Gp → Prop, ∀ G', R (.int ((cOf wi i : Nat) : Int)) G' → seqAt [.int ((3 : Int) * (i : Int) + 1), .int (wi : Int)] (if decide ((wi : Int) = 3 * (i : Int) + 2) = true then 1 else 0) G' R := by
    intro R G' h
    unfold cOf at h
    by_cases e : wi = 3 * i + 2
    · rw [if_pos e] at h
      rw [if_pos (decide_eq_true (by omega)), v_at1]
      exact h
    · rw [if_neg e] at h
      rw [if_neg (by simp; omega), v_at0]
      have z : ((3 * i + 1 : Nat) : Int) = 3 * (i : Int) + 1 := by omega
      rw [← z]
      exact h
  refine key _ _ ?_
  walk_at "rd"
  rw [v_app gup_same]
  refine ⟨by rw [List.length_append, List.length_map, ptL_len]; exact rows_le (by simp; omega), ?_⟩
  rw [gup_gup]
  refine hA _ _ ⟨_, rfl, ?_⟩
  rw [ptL_succ, List.map_append, List.append_assoc]
  have z : ((3 * i : Nat) : Int) = 3 * (i : Int) := by omega
  rw [← z]
  rfl
theorem h_due (w : World) : ∀ ds G E Q, ds.length = 2 → spDue ds G E Q → tDue w (defEnds E Q) (start3 ["write", "at", "way", "k"] ds) G := by
  intro ds G E Q _ ⟨many, at_, o1, wr, ok, e, q⟩
  subst e
  show tDue w (defEnds E Q) [some (wrD wr), some (.int (at_ : Int)), none, none] G
  obtain ⟨ja, hja, hj2⟩ := ok.at3
  have hm := ok.m2
  unfold tDue
  cases wr with
  | none =>
    simp only [wrD]
    walk_at "rd"
    exact ret_same (q G)
  | some pq =>
    obtain ⟨wi, o2⟩ := pq
    obtain ⟨⟨jj, hjj, hwj⟩, _, _⟩ := ok.wr wi o2 rfl
    simp only [wrD]
    walk_at "rd"
    have q' : ∀ G', Q (if wi < at_ then .tup ((wl wi (at_ / 3) 0).map D.int) else .non) G' := q
    by_cases h : (at_ : Int) < (wi : Int)
    · rw [decide_eq_true h]
      rw [if_neg (by omega)] at q'
      exact ret_same (q' G)
    · rw [decide_eq_false h]
      rw [if_pos (by omega)] at q'
      walk_at "rd"
      intro p hp
      refine ⟨cdiv_small (by decide) (by decide), by omega, ?_, ?_⟩
      · have z : sizeLine = 16777216 := sizeLine_eq
        omega
      · refine for_inv (DuI G p wi at_) ⟨none, rfl, rfl⟩ (fun _ _ _ _ => trivial) (fun i d σ G1 hd ⟨k, e1, e2⟩ => ?_) fun σ G1 ⟨k, e1, e2⟩ => ?_
        · obtain ⟨e3, hi⟩ := rng_at hd
          subst e1 e2 e3
          exact ⟨_, rfl, fun A hA => h_dueB w (by omega) hA⟩
        · subst e1 e2
          walk_at "rd"
          rw [v_addR gup_same]
          refine ⟨?_, ?_⟩
          · rw [List.length_map, ptL_len, rng_length]
            have z : sizeLine = 16777216 := sizeLine_eq
            simp
            omega
          · walk_at "rd"
            rw [rng_length]
            have e1 : ((at_ : Int) / 3).toNat = at_ / 3 := by omega
            have e2 : ((3 * (0 + at_ / 3) : Nat) : Int) = (at_ : Int) := by omega
            have e3 := ptL_wl wi (at_ / 3) 0
            rw [e2] at e3
            rw [e1]
            have e4 : (ptL wi 0 (at_ / 3)).map D.int ++ [.int (at_ : Int)] = (wl wi (at_ / 3) 0).map D.int := by rw [← e3, List.map_append]; rfl
            rw [e4]
            exact ret_same (q' _)
end L3
namespace L3
open PySem PySem.Spec PyProof.Rows L2
local macro_rules | `(tactic| walk_at "rd") => `(tactic| (repeat (first | dsimp only [q_zip, v_zipT, v_zipL, q_seq, q_next, q_break, q_cont, q_ifS, q_drop, q_ret, q_retN, q_asg, q_setN, q_setV, q_aug, q_augS, q_gName, q_gNil, q_gCons, q_gTupT, q_gTupL, q_gSub, q_var, q_c, q_nil, q_cons, q_tup, q_ls, q_lv, q_ln, q_op, q_B, q_chain, q_and, q_or, q_not, q_andV, q_orV, q_notV, q_if, q_un, q_call, q_cb, q_cbl, q_opL, q_noP, q_part, q_sl, q_lc, q_yes, q_I, q_rg1, q_rg2, q_for, q_rt, q_nx, v_ixT, v_ixL, v_eqS, v_eqI, v_eqB, v_eqNI, v_neS, v_neI, v_neB, v_lt, v_le, v_gt, v_ge, v_is, v_isn, v_nonN, v_nonI, v_nonT, v_nonL, v_inT, v_ninT, v_flS, v_flI, v_any0, v_anyC, v_addI, v_addT, v_addL, v_subI, v_mulI, v_mulL, v_divI, v_modI, v_powI, v_iaddI, v_neg, v_intB, v_intI, v_lenT, v_lenL, v_tupL, v_tupT, v_walkT, v_walkL, v_rg1, v_bindN, v_slL, List.getElem?_cons_zero, List.getElem?_cons_succ, List.set_cons_zero, List.set_cons_succ, wipe3] | simp only [v_iN_int, v_iN_str, v_iN_bool, v_iN_tuple, v_iN_list, v_iN_dict, v_iB_int, v_iB_str, v_iB_bool, v_iB_tuple, v_iB_list, v_iB_dict, v_iI_int, v_iI_str, v_iI_bool, v_iI_tuple, v_iI_list, v_iI_dict, v_iS_int, v_iS_str, v_iS_bool, v_iS_tuple, v_iS_list, v_iS_dict, v_iT_int, v_iT_str, v_iT_bool, v_iT_tuple, v_iT_list, v_iT_dict, v_iL_int, v_iL_str, v_iL_bool, v_iL_tuple, v_iL_list, v_iL_dict, gup_gup, v_ixG, v_setG0, v_setG1, fit0, fit1, fit2, fit3, fit4, fit5, fit6, fit7, fit8, len0, len1, len2, len3, len4, len5, len6, v_at0, v_at1, v_at2, v_at3, v_deqS, v_deqI, ofString_eq, ofString_beq, true_and, and_true, decide_true, decide_false, Bool.not_true, Bool.not_false, Bool.true_and, Bool.false_and, Bool.and_true, Bool.and_false, Bool.or_false, Bool.or_true, Bool.true_or, Bool.false_or, if_true, if_false, reduceIte, List.all_cons, List.all_nil, beq_self_eq_true])))
def tLawB (w : World) : TS3 := (tSeq3 (tAsg3 (tCall3 1 spProgram (tCons3 (tCall3 2 spBag (tCons3 (tOp3 (ixop w) (tVar3 1) (tVar3 3)) (tCons3 (tVar3 3) tNil3))) tNil3)) (gTup3 3 (gCons3 (gName3 4) (gCons3 (gName3 5) (gCons3 (gName3 6) gNil3)))))
   (tSeq3 (tIfS3 (tNot3 (tB3 (tCall3 2 (spSame 2) (tCons3 (tCall3 2 spUnsafe (tCons3 (tVar3 2) (tCons3 (tVar3 4) tNil3))) (tCons3 (tCall3 2 spDue (tCons3 (tVar3 5) (tCons3 (tVar3 6) tNil3))) tNil3))))) (tSeq3 (tRet3 (tC3 (.bl false)))
    tNext3) tNext3)
   tNext3))
def tLaw (w : World) : TS3 :=
  (tSeq3 (tAsg3 (tOp3 (bop .Add) (tSl3 slop (tVar3 0) tNoP3 (tPart3 (tC3 (.int 6)))) (tOp3 (bop .Mult) (tLv3 (tLs3 (tCons3 (tC3 (.int 0)) tNil3))) (tCB3 rInt3 (tCons3 (tOp3 (cop w .Eq) (tVar3 0) (tLv3 (tLs3 tNil3))) tNil3)))) (gName3 1))
  (tSeq3 (tAsg3 (tTup3 (tCons3 (tC3 (.int 2)) (tCons3 (tTup3 (tCons3 (tC3 (.str "a")) tNil3)) (tCons3 (tC3 (.int 1)) (tCons3 (tC3 (.int 1)) (tCons3 (tC3 (.int 1)) (tCons3 (tC3 (.int 3)) tNil3))))))) (gName3 2))
  (tSeq3 (tFor3 (tRg1 (tCons3 (tCB3 rLen3 (tCons3 (tVar3 1) tNil3)) tNil3)) (.nm 3) (tLawB w))
  (tSeq3 (tRet3 (tC3 (.bl true)))
  tNext3))))
theorem v_eqL0 {w : World} {G : Gp} {Q : D → Gp → Prop} {l : List D} (h1 : oks3 59 l = true) (q : Q (.bl l.isEmpty) G) : cop w .Eq (.lst l) (.lst []) G Q := by
  show rEq3 (.lst l) (.lst []) G Q
  unfold rEq3
  simp only [scalD, vw, ok3, oks3]
  refine ⟨h1, trivial, ?_⟩
  have e : deq (.lst l) (.lst []) = l.isEmpty := by cases l <;> simp [deq, deqs]
  rw [e]
  exact q
theorem ints_ok (l : List Int) : oks3 59 (l.map D.int) = true := by
  induction l with
  | nil => rfl
  | cons a l ih =>
    rw [List.map_cons]
    simp only [oks3, ih, ok3, Bool.and_true]
theorem ints_plain (l : List Int) : plains 0 (l.map D.int) = true := by
  induction l with
  | nil => rfl
  | cons a l ih =>
    rw [List.map_cons]
    simp only [plains, ih, plain, Bool.and_true]
def LwI (ns cs : List Int) (mach : D) (i : Nat) (σ : St3) (_ : Gp) : Prop := ∃ o3 o4 o5 o6, σ = [some (.lst (ns.map D.int)), some (.lst (cs.map D.int)), some mach, o3, o4, o5, o6]
theorem h_lawB (w : World) {E : XK3} {Q : D → Gp → Prop} {D1 : Ends3} {A : St3 → Gp → Prop} {ns cs : List Int} {mach : D} {i : Nat} {G : Gp} {o4 o5 o6 : Option D} (hi : i < cs.length) (hi2 : i ≤ 100) (hA : ∀ σ' G', LwI ns cs mach (i + 1) σ' G' → A σ' G') :
    tLawB w { D1 with nx := A, ct := A, bk := D1.nx } [some (.lst (ns.map D.int)), some (.lst (cs.map D.int)), some mach, some (.int (0 + (i : Int))), o4, o5, o6] G := by
  unfold tLawB
  rw [Int.zero_add]
  walk_at "rd"
  rw [v_at (d := .int (cs[i])) (by rw [List.getElem?_map, List.getElem?_eq_getElem hi]; rfl)]
  refine ⟨cs[i], (i : Int), rfl, by omega, by omega, fun a b0 b1 ha h0 h1 h2 => ?_⟩
  walk_at "rd"
  refine ⟨a, b0, b1, rfl, gup_same, h0, h1, by omega, fun many at_ o1 wr G' ok => ?_⟩
  obtain ⟨ja, hja, hj2⟩ := ok.at3
  have hm := ok.m2
  walk_at "rd"
  -- what both give
  have both : ∀ d : D, d = due69 at_ wr → plain 1 d = true → ∀ R : D → Gp → Prop, R (.bl true) G' → spDue [wrD wr, .int (at_ : Int)] G' (fun c fs G => D1.ex c fs [some (.lst (ns.map D.int)), some (.lst (cs.map D.int)), some mach, some (.int (i : Int)), some (progD (prog69 many at_ o1 wr)), some (wrD wr), some (.int (at_ : Int))] G) fun x G1 => spSame 2 [d, x] G1 (fun c fs G => D1.ex c fs [some (.lst (ns.map D.int)), some (.lst (cs.map D.int)), some mach, some (.int (i : Int)), some (progD (prog69 many at_ o1 wr)), some (wrD wr), some (.int (at_ : Int))] G) fun y G2 => (∀ G3, R (.bl true) G3) → R y G2 := by
    intro d hd hp R hR
    exact ⟨many, at_, o1, wr, ok, rfl, fun G1 => ⟨d, by rw [hd], hp, fun h => h G1⟩⟩
  have lenP := prog_len (many := many) (at_ := at_) (o1 := o1) (wr := wr)
  refine ⟨mach, _, rfl, wf69, ⟨Int.le_refl _, by rw [lenP]; omega⟩, by rw [lenP]; omega, ?_⟩
  have r0 := rc ok 0 false
  have z0 : ((0 : Nat) : Int) = 0 := rfl
  rw [z0] at r0
  by_cases hw : ∃ wi, wIs wr wi ∧ wi < at_
  · obtain ⟨wi, hw1, hw2⟩ := hw
    right
    refine ⟨r0.mpr ⟨wi, hw1, hw2, .inl (Nat.zero_le _)⟩, wl wi (at_ / 3) 0, ?_, by rw [wl_len]; omega, ?_⟩
    · have := way69 ok hw1 hw2 (at_ / 3) 0 (by omega)
      exact this
    · obtain ⟨o, ew⟩ := hw1
      subst ew
      refine ⟨many, at_, o1, _, ok, rfl, fun G1 => ?_⟩
      walk_at "rd"
      refine ⟨.tup ((wl wi (at_ / 3) 0).map D.int), ?_, ints_plain _, ?_⟩
      · show [_, due69 at_ (some (wi, o))] = _
        unfold due69
        simp only [if_pos hw2]
      · walk_at "rd"
        exact hA _ _ ⟨_, _, _, _, rfl⟩
  · left
    refine ⟨fun r => hw ?_, ?_⟩
    · obtain ⟨wi, h1, h2, _⟩ := r0.mp r
      exact ⟨wi, h1, h2⟩
    · refine ⟨many, at_, o1, wr, ok, rfl, fun G1 => ?_⟩
      walk_at "rd"
      refine ⟨.non, ?_, rfl, ?_⟩
      · cases wr with
        | none => rfl
        | some p =>
          obtain ⟨wi, o⟩ := p
          have : ¬ wi < at_ := fun z => hw ⟨wi, ⟨o, rfl⟩, z⟩
          unfold due69
          simp only [if_neg this]
      · walk_at "rd"
        exact hA _ _ ⟨_, _, _, _, rfl⟩
theorem h_law (w : World) : ∀ ds G E Q, ds.length = 1 → LawSp 63 ds G E Q → tLaw w (defEnds E Q) (start3 ["script", "cells", "machine", "k", "program", "write", "at"] ds) G := by
  intro ds G E Q _ ⟨ns, e, hn, _, q⟩
  subst e
  show tLaw w (defEnds E Q) [some (.lst (ns.map D.int)), none, none, none, none, none, none] G
  unfold tLaw
  walk_at "rd"
  have hz : sizeLine = 16777216 := sizeLine_eq
  refine v_eqL0 (ints_ok ns) ?_
  walk_at "rd"
  obtain ⟨cs, hc1, hc2⟩ : ∃ cs : List Int, cutD (ns.map D.int) none (some 6) ++ (List.replicate ((if (ns.map D.int).isEmpty = true then 1 else 0 : Int)).toNat [D.int 0]).flatten = cs.map D.int ∧ cs.length ≤ 70 := by
    refine ⟨(ns.drop (HT.sIx ns.length 0 none)).take (HT.sIx ns.length ns.length (some 6) - HT.sIx ns.length 0 none) ++ (List.replicate ((if (ns.map D.int).isEmpty = true then 1 else 0 : Int)).toNat [0]).flatten, ?_, ?_⟩
    · unfold cutD
      rw [List.map_append, List.map_take, List.map_drop, List.length_map]
      congr 1
      split <;> rfl
    · rw [List.length_append, List.length_take, List.length_drop]
      have : ((List.replicate ((if (ns.map D.int).isEmpty = true then 1 else 0 : Int)).toNat [(0 : Int)]).flatten).length ≤ 1 := by split <;> decide
      omega
  have hl := congrArg List.length hc1
  rw [List.length_append, List.length_map] at hl
  have hb : (if (ns.map D.int).isEmpty = true then (1 : Int) else 0) = 0 ∨ (if (ns.map D.int).isEmpty = true then (1 : Int) else 0) = 1 := by split <;> simp
  refine ⟨by omega, by omega, ?_, ?_, ?_⟩
  · rcases hb with e | e <;> (rw [e]; first | (simp; done) | (simp; omega))
  · rw [hl]; omega
  rw [hc1]
  walk_at "rd"
  rw [List.length_map]
  refine ⟨by omega, by omega, ?_⟩
  refine for_inv (LwI ns cs _) ⟨_, _, _, _, rfl⟩ (fun _ _ _ _ => trivial) (fun i d σ G1 hd ⟨o3, o4, o5, o6, e1⟩ => ?_) fun σ G1 ⟨o3, o4, o5, o6, e1⟩ => ?_
  · obtain ⟨e3, hi⟩ := rng_at hd
    subst e1 e3
    exact ⟨_, rfl, fun A hA => h_lawB (E := E) (Q := Q) w (by omega) (by omega) hA⟩
  · subst e1
    walk_at "rd"
    exact ret_same (q G1)
end L3
namespace K69
open PySem PySem.Spec PyProof.Rows L2 L3
def top (i : Nat) : Stmt := PySem.Challenge.pw_steploft_k69_whole_long_ways.main.body.getD i (.Pass ⟨0, 0, 0, 0⟩)
abbrev N_nexts_of : List Str := ["further"]
def gl_nexts_of  : List (Str × Gl3) := []
theorem r_nexts_of  (w : World) : evSs (ev 40) (mkC w N_nexts_of (defScope (top 1)) [] [] false (gl_nexts_of )) (defBody (top 1)) = tNexts w := by kernel_rfl
theorem sc_nexts_of : FnScope N_nexts_of ["further"] (defScope (top 1)) := ⟨rfl, rfl, rfl, by decide +kernel, rfl, by decide +kernel, by decide +kernel⟩
def d_nexts_of : He.DefD := ⟨("nexts_of", none), "nexts_of", "nexts_of", defArgs (top 1), defBody (top 1), defScope (top 1), [], []⟩
abbrev N_may_trap : List Str := ["orders", "order"]
def gl_may_trap  : List (Str × Gl3) := [("any", .free)]
theorem r_may_trap  (w : World) : evSs (ev 40) (mkC w N_may_trap (defScope (top 3)) [] [] false (gl_may_trap )) (defBody (top 3)) = tMayTrap w := by kernel_rfl
theorem sc_may_trap : FnScope N_may_trap ["orders"] (defScope (top 3)) := ⟨rfl, rfl, rfl, by decide +kernel, rfl, by decide +kernel, by decide +kernel⟩
def d_may_trap : He.DefD := ⟨("may_trap", none), "may_trap", "may_trap", defArgs (top 3), defBody (top 3), defScope (top 3), [], []⟩
abbrev N_is_seen : List Str := ["orders", "order"]
def gl_is_seen  : List (Str × Gl3) := [("any", .free), ("int", .free)]
theorem r_is_seen  (w : World) : evSs (ev 40) (mkC w N_is_seen (defScope (top 4)) [] [] false (gl_is_seen )) (defBody (top 4)) = tIsSeen w := by kernel_rfl
theorem sc_is_seen : FnScope N_is_seen ["orders"] (defScope (top 4)) := ⟨rfl, rfl, rfl, by decide +kernel, rfl, by decide +kernel, by decide +kernel⟩
def d_is_seen : He.DefD := ⟨("is_seen", none), "is_seen", "is_seen", defArgs (top 4), defBody (top 4), defScope (top 4), [], []⟩
abbrev N_shows : List Str := ["program", "number", "seen", "left", "known", "at", "some", "orders", "further", "one"]
def gl_shows  : List (Str × Gl3) := [("may_trap", .fn 1 spMayTrap), ("nexts_of", .fn 1 spNexts), ("is_seen", .fn 1 spIsSeen)]
theorem r_shows  (w : World) : evSs (ev 40) (mkC w N_shows (defScope (top 5)) ["left"] ["known"] false (gl_shows )) (defBody (top 5)) = tShows w := by kernel_rfl
theorem sc_shows : FnScope N_shows ["program", "number", "seen"] (defScope (top 5)) := ⟨rfl, rfl, rfl, by decide +kernel, rfl, by decide +kernel, by decide +kernel⟩
def d_shows : He.DefD := ⟨("shows", none), "shows", "shows", defArgs (top 5), defBody (top 5), defScope (top 5), [], []⟩
abbrev N_unsafe_way : List Str := ["machine", "program", "way", "number", "seen", "orders", "further", "one"]
def gl_unsafe_way  : List (Str × Gl3) := [("shows", .fn 3 spShows), ("min", .free), ("may_trap", .fn 1 spMayTrap), ("is_seen", .fn 1 spIsSeen), ("nexts_of", .fn 1 spNexts)]
theorem r_unsafe_way  (w : World) : evSs (ev 40) (mkC w N_unsafe_way (defScope (top 6)) [] [] false (gl_unsafe_way )) (defBody (top 6)) = tUnsafe w := by kernel_rfl
theorem sc_unsafe_way : FnScope N_unsafe_way ["machine", "program"] (defScope (top 6)) := ⟨rfl, rfl, rfl, by decide +kernel, rfl, by decide +kernel, by decide +kernel⟩
def d_unsafe_way : He.DefD := ⟨("unsafe_way", none), "unsafe_way", "unsafe_way", defArgs (top 6), defBody (top 6), defScope (top 6), [], []⟩
abbrev N__law_bag : List Str := ["cell", "k"]
def gl__law_bag  : List (Str × Gl3) := []
theorem r__law_bag  (w : World) : evSs (ev 40) (mkC w N__law_bag (defScope (top 8)) [] [] true (gl__law_bag )) (defBody (top 8)) = tBag w := by kernel_rfl
theorem sc__law_bag : FnScope N__law_bag ["cell", "k"] (defScope (top 8)) := ⟨rfl, rfl, rfl, by decide +kernel, rfl, by decide +kernel, by decide +kernel⟩
def d__law_bag : He.DefD := ⟨("_law_bag", none), "_law_bag", "_law_bag", defArgs (top 8), defBody (top 8), defScope (top 8), [], []⟩
abbrev N__law_draw : List Str := ["bag", "many", "digit", "one"]
def gl__law_draw  : List (Str × Gl3) := []
theorem r__law_draw  (w : World) : evSs (ev 40) (mkC w N__law_draw (defScope (top 9)) [] [] false (gl__law_draw )) (defBody (top 9)) = tDraw w := by kernel_rfl
theorem sc__law_draw : FnScope N__law_draw ["bag", "many"] (defScope (top 9)) := ⟨rfl, rfl, rfl, by decide +kernel, rfl, by decide +kernel, by decide +kernel⟩
def d__law_draw : He.DefD := ⟨("_law_draw", none), "_law_draw", "_law_draw", defArgs (top 9), defBody (top 9), defScope (top 9), [], []⟩
abbrev N__law_same : List Str := ["found", "due", "one", "other"]
def gl__law_same (n : Nat) : List (Str × Gl3) := [("isinstance", .free), ("int", .free), ("str", .free), ("all", .free), ("tuple", .free), ("list", .free), ("len", .free), ("bool", .free), ("_law_same", .fn 2 (spSame n)), ("zip", .free)]
theorem r__law_same (n : Nat) (w : World) : evSs (ev 40) (mkC w N__law_same (defScope (top 10)) [] [] false (gl__law_same n)) (defBody (top 10)) = tSame (spSame n) w := by kernel_rfl
theorem sc__law_same : FnScope N__law_same ["found", "due"] (defScope (top 10)) := ⟨rfl, rfl, rfl, by decide +kernel, rfl, by decide +kernel, by decide +kernel⟩
def d__law_same : He.DefD := ⟨("_law_same", none), "_law_same", "_law_same", defArgs (top 10), defBody (top 10), defScope (top 10), [], []⟩
abbrev N__law_program : List Str := ["bag", "many", "write", "at", "place", "lined", "k", "order", "seen"]
def gl__law_program  : List (Str × Gl3) := [("range", .free), ("_law_draw", .fn 2 spDraw), ("tuple", .free)]
theorem r__law_program  (w : World) : evSs (ev 40) (mkC w N__law_program (defScope (top 11)) ["lined"] [] false (gl__law_program )) (defBody (top 11)) = tProgram w := by kernel_rfl
theorem sc__law_program : FnScope N__law_program ["bag"] (defScope (top 11)) := ⟨rfl, rfl, rfl, by decide +kernel, rfl, by decide +kernel, by decide +kernel⟩
def d__law_program : He.DefD := ⟨("_law_program", none), "_law_program", "_law_program", defArgs (top 11), defBody (top 11), defScope (top 11), [], []⟩
abbrev N__law_due : List Str := ["write", "at", "way", "k"]
def gl__law_due  : List (Str × Gl3) := [("range", .free), ("tuple", .free), ("int", .free)]
theorem r__law_due  (w : World) : evSs (ev 40) (mkC w N__law_due (defScope (top 12)) ["way"] [] false (gl__law_due )) (defBody (top 12)) = tDue w := by kernel_rfl
theorem sc__law_due : FnScope N__law_due ["write", "at"] (defScope (top 12)) := ⟨rfl, rfl, rfl, by decide +kernel, rfl, by decide +kernel, by decide +kernel⟩
def d__law_due : He.DefD := ⟨("_law_due", none), "_law_due", "_law_due", defArgs (top 12), defBody (top 12), defScope (top 12), [], []⟩
abbrev N_law : List Str := ["script", "cells", "machine", "k", "program", "write", "at"]
def gl_law  : List (Str × Gl3) := [("range", .free), ("len", .free), ("_law_program", .fn 1 spProgram), ("int", .free), ("_law_bag", .fn 2 spBag), ("_law_same", .fn 2 (spSame 2)), ("unsafe_way", .fn 2 spUnsafe), ("_law_due", .fn 2 spDue)]
theorem r_law  (w : World) : evSs (ev 40) (mkC w N_law (defScope (top 13)) [] [] false (gl_law )) (defBody (top 13)) = tLaw w := by kernel_rfl
theorem sc_law : FnScope N_law ["script"] (defScope (top 13)) := ⟨rfl, rfl, rfl, by decide +kernel, rfl, by decide +kernel, by decide +kernel⟩
def d_law : He.DefD := ⟨("law", none), "law", "law", defArgs (top 13), defBody (top 13), defScope (top 13), [], []⟩
def fn : List He.DefD := [d_nexts_of, d_may_trap, d_is_seen, d_shows, d_unsafe_way, d__law_bag, d__law_draw, d__law_same, d__law_program, d__law_due, d_law]
def fa : List He.Fa := [.glo "nexts_of", .glo "may_trap", .glo "is_seen", .glo "shows", .glo "unsafe_way", .glo "_law_bag", .glo "_law_draw", .glo "_law_same", .glo "_law_program", .glo "_law_due", .glo "law", .free "any", .free "int", .free "min", .free "isinstance", .free "str", .free "all", .free "tuple", .free "list", .free "len", .free "bool", .free "zip", .free "range"]
abbrev R : PySem.W.OpenRow := PySem.W.OpenLaw.row PySem.Challenge.rw_steploft_k69_whole_long_ways
abbrev hk : PySem.W.Hook := He.hookD 4 fa fn
def ob (s : PySem.W.SharedT) : He.AlD := He.obsDG 4 fa fn (HandSHeadRun.getT s)
theorem ob_eq (s : PySem.W.SharedT) : ob s = hk.obs s.abs := He.obsDG_eq (HandSHeadRun.getT_eq s)
abbrev loose : List Str := ["nexts_of", "may_trap", "is_seen", "shows", "unsafe_way", "_law_bag", "_law_draw", "_law_same", "_law_program", "_law_due"]
theorem run (w : World) : HandSHeadRun.RunEq R (PySem.W.view R.prog [13]) hk ob 600 loose w := by
  intro os
  kernel_rfl
section
variable {P : Program} {w : World} {K : PySem.W.Frag} {h : Heap} {mg : Str → Option Value} {f : Addr}
theorem facts (X : K.In h) (G : h.Ns mainGlobals mg) (hfa : mg ("law" : Str) = some (.ref f)) (c : He.SaysD fa fn K) :
    ∃ fd : FuncData, (∀ (s : Shared) (v : Value), BindsTo s fd ⟨[v], []⟩ [("script", v)]) ∧ ∀ base : Heap, K.In base → base.Ns mainGlobals mg → FnOk P w K mg base (L2.CX P w) 10 f fd ["script"] (liftSp K 1 (LawSp 63)) := by
  obtain ⟨fd_nexts_of, F_nexts_of⟩ := c.def_ 0 (d := d_nexts_of) rfl
  have m_nexts_of := He.glo_ok X G (c.fact 0 (f := .glo "nexts_of") rfl)
  obtain ⟨fd_may_trap, F_may_trap⟩ := c.def_ 1 (d := d_may_trap) rfl
  have m_may_trap := He.glo_ok X G (c.fact 1 (f := .glo "may_trap") rfl)
  obtain ⟨fd_is_seen, F_is_seen⟩ := c.def_ 2 (d := d_is_seen) rfl
  have m_is_seen := He.glo_ok X G (c.fact 2 (f := .glo "is_seen") rfl)
  obtain ⟨fd_shows, F_shows⟩ := c.def_ 3 (d := d_shows) rfl
  have m_shows := He.glo_ok X G (c.fact 3 (f := .glo "shows") rfl)
  obtain ⟨fd_unsafe_way, F_unsafe_way⟩ := c.def_ 4 (d := d_unsafe_way) rfl
  have m_unsafe_way := He.glo_ok X G (c.fact 4 (f := .glo "unsafe_way") rfl)
  obtain ⟨fd__law_bag, F__law_bag⟩ := c.def_ 5 (d := d__law_bag) rfl
  have m__law_bag := He.glo_ok X G (c.fact 5 (f := .glo "_law_bag") rfl)
  obtain ⟨fd__law_draw, F__law_draw⟩ := c.def_ 6 (d := d__law_draw) rfl
  have m__law_draw := He.glo_ok X G (c.fact 6 (f := .glo "_law_draw") rfl)
  obtain ⟨fd__law_same, F__law_same⟩ := c.def_ 7 (d := d__law_same) rfl
  have m__law_same := He.glo_ok X G (c.fact 7 (f := .glo "_law_same") rfl)
  obtain ⟨fd__law_program, F__law_program⟩ := c.def_ 8 (d := d__law_program) rfl
  have m__law_program := He.glo_ok X G (c.fact 8 (f := .glo "_law_program") rfl)
  obtain ⟨fd__law_due, F__law_due⟩ := c.def_ 9 (d := d__law_due) rfl
  have m__law_due := He.glo_ok X G (c.fact 9 (f := .glo "_law_due") rfl)
  obtain ⟨fd_law, F_law⟩ := c.def_ 10 (d := d_law) rfl
  have m_law := He.glo_ok X G (c.fact 10 (f := .glo "law") rfl)
  have q_any := He.free_ok X G (c.fact 11 (f := .free "any") rfl)
  have q_int := He.free_ok X G (c.fact 12 (f := .free "int") rfl)
  have q_min := He.free_ok X G (c.fact 13 (f := .free "min") rfl)
  have q_isinstance := He.free_ok X G (c.fact 14 (f := .free "isinstance") rfl)
  have q_str := He.free_ok X G (c.fact 15 (f := .free "str") rfl)
  have q_all := He.free_ok X G (c.fact 16 (f := .free "all") rfl)
  have q_tuple := He.free_ok X G (c.fact 17 (f := .free "tuple") rfl)
  have q_list := He.free_ok X G (c.fact 18 (f := .free "list") rfl)
  have q_len := He.free_ok X G (c.fact 19 (f := .free "len") rfl)
  have q_bool := He.free_ok X G (c.fact 20 (f := .free "bool") rfl)
  have q_zip := He.free_ok X G (c.fact 21 (f := .free "zip") rfl)
  have q_range := He.free_ok X G (c.fact 22 (f := .free "range") rfl)
  have e := hfa.symm.trans m_law
  cases e
  have b := FunD.bindsA (ps := ["script"]) F_law fun _ _ _ _ _ _ us hl => match us, hl with | [_], _ => rfl
  refine ⟨fd_law, fun s v => b s [v] rfl, fun base _ _ => ?_⟩
  have b_nexts_of : Binds K fd_nexts_of ["further"] [] := F_nexts_of.bindsN fun _ _ _ _ _ _ us hl => match us, hl with | [_], _ => rfl
  have b_may_trap : Binds K fd_may_trap ["orders"] [] := F_may_trap.bindsN fun _ _ _ _ _ _ us hl => match us, hl with | [_], _ => rfl
  have b_is_seen : Binds K fd_is_seen ["orders"] [] := F_is_seen.bindsN fun _ _ _ _ _ _ us hl => match us, hl with | [_], _ => rfl
  have b_shows : Binds K fd_shows ["program", "number", "seen"] [] := F_shows.bindsN fun _ _ _ _ _ _ us hl => match us, hl with | [_, _, _], _ => rfl
  have b_unsafe_way : Binds K fd_unsafe_way ["machine", "program"] [] := F_unsafe_way.bindsN fun _ _ _ _ _ _ us hl => match us, hl with | [_, _], _ => rfl
  have b__law_bag : Binds K fd__law_bag ["cell", "k"] [] := F__law_bag.bindsN fun _ _ _ _ _ _ us hl => match us, hl with | [_, _], _ => rfl
  have b__law_draw : Binds K fd__law_draw ["bag", "many"] [] := F__law_draw.bindsN fun _ _ _ _ _ _ us hl => match us, hl with | [_, _], _ => rfl
  have b__law_same : Binds K fd__law_same ["found", "due"] [] := F__law_same.bindsN fun _ _ _ _ _ _ us hl => match us, hl with | [_, _], _ => rfl
  have b__law_program : Binds K fd__law_program ["bag"] [] := F__law_program.bindsN fun _ _ _ _ _ _ us hl => match us, hl with | [_], _ => rfl
  have b__law_due : Binds K fd__law_due ["write", "at"] [] := F__law_due.bindsN fun _ _ _ _ _ _ us hl => match us, hl with | [_, _], _ => rfl
  let B : Bas := ⟨P, w, K, mg, base⟩
  have g_nexts_of : GlsOk B 0 (gl_nexts_of ) := trivial
  have E_nexts_of : FnE B 1 "nexts_of" 1 _ := fnE3 (B := B) F_nexts_of m_nexts_of b_nexts_of sc_nexts_of rfl g_nexts_of (r_nexts_of  w) (h_nexts w)
  have g_may_trap : GlsOk B 0 (gl_may_trap ) := ⟨q_any, trivial⟩
  have E_may_trap : FnE B 1 "may_trap" 1 _ := fnE3 (B := B) F_may_trap m_may_trap b_may_trap sc_may_trap rfl g_may_trap (r_may_trap  w) (h_mayTrap w)
  have g_is_seen : GlsOk B 0 (gl_is_seen ) := ⟨q_any, ⟨q_int, trivial⟩⟩
  have E_is_seen : FnE B 1 "is_seen" 1 _ := fnE3 (B := B) F_is_seen m_is_seen b_is_seen sc_is_seen rfl g_is_seen (r_is_seen  w) (h_isSeen w)
  have g_shows : GlsOk B 1 (gl_shows ) := ⟨E_may_trap.mono (by decide), ⟨E_nexts_of.mono (by decide), ⟨E_is_seen.mono (by decide), trivial⟩⟩⟩
  have E_shows : FnE B 2 "shows" 3 _ := fnE3 (B := B) F_shows m_shows b_shows sc_shows rfl g_shows (r_shows  w) (h_shows w)
  have g_unsafe_way : GlsOk B 2 (gl_unsafe_way ) := ⟨E_shows.mono (by decide), ⟨q_min, ⟨E_may_trap.mono (by decide), ⟨E_is_seen.mono (by decide), ⟨E_nexts_of.mono (by decide), trivial⟩⟩⟩⟩⟩
  have E_unsafe_way : FnE B 3 "unsafe_way" 2 _ := fnE3 (B := B) F_unsafe_way m_unsafe_way b_unsafe_way sc_unsafe_way rfl g_unsafe_way (r_unsafe_way  w) (h_unsafe w)
  have g__law_bag : GlsOk B 0 (gl__law_bag ) := trivial
  have E__law_bag : FnE B 1 "_law_bag" 2 _ := fnE3 (B := B) F__law_bag m__law_bag b__law_bag sc__law_bag rfl g__law_bag (r__law_bag  w) (h_bag w)
  have g__law_draw : GlsOk B 0 (gl__law_draw ) := trivial
  have E__law_draw : FnE B 1 "_law_draw" 2 _ := fnE3 (B := B) F__law_draw m__law_draw b__law_draw sc__law_draw rfl g__law_draw (r__law_draw  w) (h_draw w)
  have E_same0 : FnE B 1 "_law_same" 2 (fun _ _ _ _ => False) := FnE.never (B := B) F__law_same m__law_same b__law_same
  have g_same1 : GlsOk B 1 (gl__law_same 0) := ⟨q_isinstance, ⟨q_int, ⟨q_str, ⟨q_all, ⟨q_tuple, ⟨q_list, ⟨q_len, ⟨q_bool, ⟨E_same0.mono (by decide), ⟨q_zip, trivial⟩⟩⟩⟩⟩⟩⟩⟩⟩⟩
  have E_same1 : FnE B 2 "_law_same" 2 _ := fnE3 (B := B) F__law_same m__law_same b__law_same sc__law_same rfl g_same1 (r__law_same 0 w) (h_same 0 w)
  have g_same2 : GlsOk B 2 (gl__law_same 1) := ⟨q_isinstance, ⟨q_int, ⟨q_str, ⟨q_all, ⟨q_tuple, ⟨q_list, ⟨q_len, ⟨q_bool, ⟨E_same1.mono (by decide), ⟨q_zip, trivial⟩⟩⟩⟩⟩⟩⟩⟩⟩⟩
  have E_same2 : FnE B 3 "_law_same" 2 _ := fnE3 (B := B) F__law_same m__law_same b__law_same sc__law_same rfl g_same2 (r__law_same 1 w) (h_same 1 w)
  have g__law_program : GlsOk B 1 (gl__law_program ) := ⟨q_range, ⟨E__law_draw.mono (by decide), ⟨q_tuple, trivial⟩⟩⟩
  have E__law_program : FnE B 2 "_law_program" 1 _ := fnE3 (B := B) F__law_program m__law_program b__law_program sc__law_program rfl g__law_program (r__law_program  w) (h_program w)
  have g__law_due : GlsOk B 0 (gl__law_due ) := ⟨q_range, ⟨q_tuple, ⟨q_int, trivial⟩⟩⟩
  have E__law_due : FnE B 1 "_law_due" 2 _ := fnE3 (B := B) F__law_due m__law_due b__law_due sc__law_due rfl g__law_due (r__law_due  w) (h_due w)
  have g_law : GlsOk B 9 (gl_law ) := ⟨q_range, ⟨q_len, ⟨E__law_program.mono (by decide), ⟨q_int, ⟨E__law_bag.mono (by decide), ⟨E_same2.mono (by decide), ⟨E_unsafe_way.mono (by decide), ⟨E__law_due.mono (by decide), trivial⟩⟩⟩⟩⟩⟩⟩⟩
  exact fnOk3 (B := B) F_law sc_law rfl g_law (r_law  w) (h_law w)
end
end K69
open PySem PySem.W PySem.Calls PyProof.Rows
theorem PySem.Challenge.cw_steploft_k69_whole_long_ways_holds : PySem.Challenge.rw_steploft_k69_whole_long_ways.Holds := by
  w_on; o_law
  refine HandSHeadRun.head_any (r := OpenLaw.row PySem.Challenge.rw_steploft_k69_whole_long_ways) (q := view (OpenLaw.row PySem.Challenge.rw_steploft_k69_whole_long_ways).prog [13]) (H := K69.hk) (ob := K69.ob) (M := 600) (loose := K69.loose) (d := HandSHeadRun.topDef (OpenLaw.row PySem.Challenge.rw_steploft_k69_whole_long_ways).prog 13) (kwd := []) K69.ob_eq
    (by kernel_rfl) (fun s => by kernel_rfl) K69.run (by kernel_rfl) (by kernel_rfl) (by kernel_rfl) (by rfl) (by first | assumption | decide +kernel) (by decide +kernel) ⟨rfl, rfl, rfl, rfl, rfl, by decide +kernel⟩ ?hw ?hc
  case hw => w_witness2
  case hc =>
    refine L3.law3 (l := PySem.Challenge.rw_steploft_k69_whole_long_ways) (n := 63) (k := 10) (x := "script") rfl (by decide) (by kernel_rfl) ⟨rfl, by decide, by decide⟩ ?F
    intro w mg fa h Y G hmg0
    obtain ⟨K, KX, c⟩ := Y
    have hmg : mg ("law" : PySem.Str) = some (.ref fa) := by
      have e : (HandSHeadRun.topDef (OpenLaw.row PySem.Challenge.rw_steploft_k69_whole_long_ways).prog 13).name = ("law" : PySem.Str) := by kernel_rfl
      rw [← e]
      exact hmg0
    obtain ⟨fd, hb, hF⟩ := K69.facts (P := (PySem.Challenge.rw_steploft_k69_whole_long_ways).prog) (w := w) KX G hmg c
    exact ⟨K, fd, KX, hb, hF⟩
