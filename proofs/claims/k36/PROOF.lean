import PyProof.Rows.All
import Wide.All
import OpenK.AllK
import Wide.FinOn
import HandS.ForMost
import HandS.Walk
import HandS.Flow
import HandS.Defaults
import HandS.Star
import HandS.MakeKwOnly
import HandS.Property
import HandS.ClsMeth
import HandS.IsInst
import HandS.TupAny
import HandS.SortInts
import HandS.Conv
import KE.GoesEnum
import PySem.Challenge.RW_nestcount_k36_equations_checked
set_option Elab.async false
set_option linter.all false
set_option maxRecDepth 100000
set_option maxHeartbeats 2000000
/-! Ab: an abstract state over HandS: values without addresses, a list of cells that may change; no heap is seen by a def's proof. -/
namespace Ab
open PySem PySem.Spec PyProof.Rows L2

inductive Val where
  | non | bl (b : Bool) | int (i : Int) | str (x : Str) | ty (n : String) | ptr (a : Addr)
  | lst (xs : List Val) | tup (xs : List Val)
  | obj (C : Addr) (fs : List (Str × Val))

mutual
inductive Rep (K : PySem.W.Frag) (H : Hp) : Val → V → Prop
  | non : Rep K H .non .non
  | bl (b : Bool) : Rep K H (.bl b) (.bl b)
  | int (i : Int) : Rep K H (.int i) (.int i)
  | str (x : Str) : Rep K H (.str x) (.str x)
  | ty (n : String) : Rep K H (.ty n) (.ty n)
  | ptr (a : Addr) : Rep K H (.ptr a) (.ref a)
  | lst {a : Addr} {xs : List V} {ds : List Val} : SqL K H a xs → RepA K H ds xs → Rep K H (.lst ds) (.ref a)
  | tup {a : Addr} {xs : List V} {ds : List Val} : SqT K H a xs → RepA K H ds xs → Rep K H (.tup ds) (.ref a)
  | obj {a C dx : Addr} {gs : List (Str × V)} {fs : List (Str × Val)} : H a = some (.ins C dx gs) → RepF K H fs gs → Rep K H (.obj C fs) (.ref a)
inductive RepA (K : PySem.W.Frag) (H : Hp) : List Val → List V → Prop
  | nil : RepA K H [] []
  | cons {d : Val} {v : V} {ds : List Val} {vs : List V} : Rep K H d v → RepA K H ds vs → RepA K H (d :: ds) (v :: vs)
inductive RepF (K : PySem.W.Frag) (H : Hp) : List (Str × Val) → List (Str × V) → Prop
  | nil : RepF K H [] []
  | cons {f : Str} {d : Val} {v : V} {fs : List (Str × Val)} {gs : List (Str × V)} : Rep K H d v → RepF K H fs gs → RepF K H ((f, d) :: fs) ((f, v) :: gs)
end

theorem sameT {K : PySem.W.Frag} {H H' : Hp} {a : Addr} {xs : List V} (e : Same H H') (h : SqT K H a xs) : SqT K H' a xs := by
  rcases h with (h | ⟨o, h⟩) | h
  · exact .inl (.inl (e _ _ h))
  · exact .inl (.inr ⟨o, e _ _ h⟩)
  · exact .inr h
mutual
theorem Rep.mono {K : PySem.W.Frag} {H H' : Hp} (e : Same H H') : ∀ {d : Val} {v : V}, Rep K H d v → Rep K H' d v
  | _, _, .non => .non
  | _, _, .bl b => .bl b
  | _, _, .int i => .int i
  | _, _, .str x => .str x
  | _, _, .ty n => .ty n
  | _, _, .ptr a => .ptr a
  | _, _, .lst h r => .lst (e.seq h) (RepA.mono e r)
  | _, _, .tup h r => .tup (sameT e h) (RepA.mono e r)
  | _, _, .obj h r => .obj (e _ _ h) (RepF.mono e r)
theorem RepA.mono {K : PySem.W.Frag} {H H' : Hp} (e : Same H H') : ∀ {ds : List Val} {vs : List V}, RepA K H ds vs → RepA K H' ds vs
  | _, _, .nil => .nil
  | _, _, .cons a r => .cons (Rep.mono e a) (RepA.mono e r)
theorem RepF.mono {K : PySem.W.Frag} {H H' : Hp} (e : Same H H') : ∀ {ds : List (Str × Val)} {vs : List (Str × V)}, RepF K H ds vs → RepF K H' ds vs
  | _, _, .nil => .nil
  | _, _, .cons a r => .cons (Rep.mono e a) (RepF.mono e r)
end
/-- fields, stored -/
def putV (f : Str) (v : Val) : List (Str × Val) → List (Str × Val)
  | [] => [(f, v)]
  | (g, x) :: r => if g = f then (g, v) :: r else (g, x) :: putV f v r
theorem RepF.lookup {K : PySem.W.Frag} {H : Hp} {f : Str} {d : Val} : ∀ {fs : List (Str × Val)} {gs : List (Str × V)}, RepF K H fs gs → fs.lookup f = some d → ∃ v, gs.lookup f = some v ∧ Rep K H d v
  | _, _, .nil, e => by cases e
  | (g, x) :: fs, _, .cons (v := v) (gs := gs) a r, e => by
    rw [List.lookup_cons] at e ⊢
    cases q : f == g with
    | true =>
      rw [q] at e
      cases e
      exact ⟨v, rfl, a⟩
    | false =>
      rw [q] at e
      exact RepF.lookup r e
theorem RepF.none {K : PySem.W.Frag} {H : Hp} {f : Str} : ∀ {fs : List (Str × Val)} {gs : List (Str × V)}, RepF K H fs gs → fs.lookup f = none → gs.lookup f = none
  | _, _, .nil, _ => rfl
  | (g, x) :: fs, _, .cons (v := v) (gs := gs) a r, e => by
    rw [List.lookup_cons] at e ⊢
    cases q : f == g with
    | true =>
      rw [q] at e
      cases e
    | false =>
      rw [q] at e
      exact RepF.none r e
theorem RepF.put {K : PySem.W.Frag} {H : Hp} {f : Str} {d : Val} {v : V} (hd : Rep K H d v) : ∀ {fs : List (Str × Val)} {gs : List (Str × V)}, RepF K H fs gs → RepF K H (putV f d fs) (putF f v gs)
  | _, _, .nil => .cons hd .nil
  | (g, x) :: fs, _, .cons (v := w) (gs := gs) a r => by
    unfold putV putF
    by_cases q : g = f
    · rw [if_pos q, if_pos q]
      exact .cons hd r
    · rw [if_neg q, if_neg q]
      exact .cons a (RepF.put hd r)
theorem RepF.length {K : PySem.W.Frag} {H : Hp} : ∀ {fs : List (Str × Val)} {gs : List (Str × V)}, RepF K H fs gs → fs.length = gs.length
  | _, _, .nil => rfl
  | _, _, .cons _ r => congrArg Nat.succ (RepF.length r)
/-- a dict's pairs -/
inductive RepK (K : PySem.W.Frag) (H : Hp) : List (Key × Val) → List (Key × V) → Prop
  | nil : RepK K H [] []
  | cons {f : Key} {d : Val} {v : V} {fs : List (Key × Val)} {gs : List (Key × V)} : Rep K H d v → RepK K H fs gs → RepK K H ((f, d) :: fs) ((f, v) :: gs)
theorem RepK.mono {K : PySem.W.Frag} {H H' : Hp} (e : Same H H') : ∀ {ds : List (Key × Val)} {vs : List (Key × V)}, RepK K H ds vs → RepK K H' ds vs
  | _, _, .nil => .nil
  | _, _, .cons a r => .cons (Rep.mono e a) (RepK.mono e r)
theorem RepK.length {K : PySem.W.Frag} {H : Hp} : ∀ {fs : List (Key × Val)} {gs : List (Key × V)}, RepK K H fs gs → fs.length = gs.length
  | _, _, .nil => rfl
  | _, _, .cons _ r => congrArg Nat.succ (RepK.length r)
def dGet : List (Key × Val) → Key → Option Val
  | [], _ => none
  | (g, x) :: r, k => if g = k then some x else dGet r k
def dPut (kvs : List (Key × Val)) (k : Key) (v : Val) : List (Key × Val) :=
  if (kvs.any fun kv => decide (kv.1 = k)) = true then kvs.map (fun kv => if kv.1 = k then (kv.1, v) else kv) else kvs ++ [(k, v)]
theorem RepK.any {K : PySem.W.Frag} {H : Hp} {k : Key} : ∀ {fs : List (Key × Val)} {gs : List (Key × V)}, RepK K H fs gs → (fs.any fun kv => decide (kv.1 = k)) = (gs.any fun kv => decide (kv.1 = k))
  | _, _, .nil => rfl
  | _, _, .cons a r => by
    rw [List.any_cons, List.any_cons, RepK.any r]
theorem RepK.maps {K : PySem.W.Frag} {H : Hp} {k : Key} {d : Val} {v : V} (hd : Rep K H d v) : ∀ {fs : List (Key × Val)} {gs : List (Key × V)}, RepK K H fs gs → RepK K H (fs.map (fun kv => if kv.1 = k then (kv.1, d) else kv)) (gs.map (fun kv => if kv.1 = k then (kv.1, v) else kv))
  | _, _, .nil => .nil
  | (g, x) :: _, _, .cons (v := w) a r => by
    rw [List.map_cons, List.map_cons]
    by_cases q : g = k
    · rw [if_pos q, if_pos q]
      exact .cons hd (RepK.maps hd r)
    · rw [if_neg q, if_neg q]
      exact .cons a (RepK.maps hd r)
theorem RepK.append {K : PySem.W.Frag} {H : Hp} : ∀ {fs fs' : List (Key × Val)} {gs gs' : List (Key × V)}, RepK K H fs gs → RepK K H fs' gs' → RepK K H (fs ++ fs') (gs ++ gs')
  | _, _, _, _, .nil, r => r
  | _, _, _, _, .cons a r, q => .cons a (RepK.append r q)
theorem RepK.put {K : PySem.W.Frag} {H : Hp} {k : Key} {d : Val} {v : V} (hd : Rep K H d v) {fs : List (Key × Val)} {gs : List (Key × V)} (r : RepK K H fs gs) : RepK K H (dPut fs k d) (putK gs k v) := by
  unfold dPut putK
  rw [r.any]
  by_cases q : (gs.any fun kv => decide (kv.1 = k)) = true
  · rw [if_pos q, if_pos q]
    exact r.maps hd
  · rw [if_neg q, if_neg q]
    exact r.append (.cons hd .nil)
theorem RepK.get {K : PySem.W.Frag} {H : Hp} {k : Key} {d : Val} : ∀ {fs : List (Key × Val)} {gs : List (Key × V)}, RepK K H fs gs → dGet fs k = some d → ∃ v, valV gs k = some v ∧ Rep K H d v
  | _, _, .nil, e => by cases e
  | (g, x) :: fs, _, .cons (v := v) (gs := gs) a r, e => by
    unfold dGet at e
    by_cases q : g = k
    · rw [if_pos q] at e
      cases e
      exact ⟨v, valV_pos q, a⟩
    · rw [if_neg q] at e
      rw [valV_neg (p := (g, v)) q]
      exact RepK.get r e
theorem RepK.noKey {K : PySem.W.Frag} {H : Hp} {k : Key} : ∀ {fs : List (Key × Val)} {gs : List (Key × V)}, RepK K H fs gs → dGet fs k = none → valV gs k = none
  | _, _, .nil, _ => rfl
  | (g, x) :: fs, _, .cons (v := v) (gs := gs) a r, e => by
    unfold dGet at e
    by_cases q : g = k
    · rw [if_pos q] at e
      cases e
    · rw [if_neg q] at e
      rw [valV_neg (p := (g, v)) q]
      exact RepK.noKey r e
section
variable {K : PySem.W.Frag} {H H' : Hp}
theorem RepA.length : ∀ {ds : List Val} {vs : List V}, RepA K H ds vs → ds.length = vs.length
  | _, _, .nil => rfl
  | _, _, .cons _ r => congrArg Nat.succ (RepA.length r)
theorem RepA.get : ∀ {ds : List Val} {vs : List V} {i : Nat} {d : Val}, RepA K H ds vs → ds[i]? = some d → ∃ v, vs[i]? = some v ∧ Rep K H d v
  | _, _, _, _, .nil, e => by simp at e
  | _, _, 0, _, .cons r _, e => by simp at e; subst e; exact ⟨_, rfl, r⟩
  | _, _, i + 1, d, .cons _ t, e => by
    obtain ⟨u, h1, h2⟩ := RepA.get (i := i) (d := d) t (by simpa using e)
    exact ⟨u, by simpa using h1, h2⟩
theorem RepA.getV : ∀ {ds : List Val} {vs : List V} {i : Nat} {v : V}, RepA K H ds vs → vs[i]? = some v → ∃ d, ds[i]? = some d ∧ Rep K H d v
  | _, _, _, _, .nil, e => by simp at e
  | _, _, 0, _, .cons r _, e => by simp at e; subst e; exact ⟨_, rfl, r⟩
  | _, _, i + 1, d, .cons _ t, e => by
    obtain ⟨u, h1, h2⟩ := RepA.getV (i := i) (v := d) t (by simpa using e)
    exact ⟨u, by simpa using h1, h2⟩
theorem RepA.append : ∀ {ds es : List Val} {vs ws : List V}, RepA K H ds vs → RepA K H es ws → RepA K H (ds ++ es) (vs ++ ws)
  | _, _, _, _, .nil, s => s
  | _, _, _, _, .cons r t, s => .cons r (RepA.append t s)
theorem RepA.set {d : Val} {v : V} (r : Rep K H d v) : ∀ {ds : List Val} {vs : List V} (i : Nat), RepA K H ds vs → RepA K H (ds.set i d) (vs.set i v)
  | _, _, _, .nil => .nil
  | _, _, 0, .cons _ t => .cons r t
  | _, _, i + 1, .cons q t => .cons q (RepA.set r i t)
theorem RepA.take : ∀ {ds : List Val} {vs : List V} (n : Nat), RepA K H ds vs → RepA K H (ds.take n) (vs.take n)
  | _, _, 0, _ => .nil
  | _, _, _ + 1, .nil => .nil
  | _, _, n + 1, .cons r t => .cons r (RepA.take n t)
theorem RepA.drop : ∀ {ds : List Val} {vs : List V} (n : Nat), RepA K H ds vs → RepA K H (ds.drop n) (vs.drop n)
  | _, _, 0, r => r
  | _, _, _ + 1, .nil => .nil
  | _, _, n + 1, .cons _ t => RepA.drop n t
theorem RepA.ints : ∀ {ns : List Int} {vs : List V}, RepA K H (ns.map Val.int) vs → vs = ns.map V.int
  | [], _, .nil => rfl
  | _ :: ns, _, .cons (.int _) t => by rw [RepA.ints (ns := ns) t, List.map_cons]
theorem RepA.ofInts : ∀ (ns : List Int), RepA K H (ns.map Val.int) (ns.map V.int)
  | [] => .nil
  | n :: ns => .cons (.int n) (RepA.ofInts ns)
theorem RepA.bls : ∀ {ns : List Bool} {vs : List V}, RepA K H (ns.map Val.bl) vs → vs = ns.map V.bl
  | [], _, .nil => rfl
  | _ :: ns, _, .cons (.bl _) t => by rw [RepA.bls (ns := ns) t, List.map_cons]
theorem RepA.strs : ∀ {ns : List Str} {vs : List V}, RepA K H (ns.map Val.str) vs → vs = ns.map V.str
  | [], _, .nil => rfl
  | _ :: ns, _, .cons (.str _) t => by rw [RepA.strs (ns := ns) t, List.map_cons]
theorem RepA.ofStrs : ∀ (ns : List Str), RepA K H (ns.map Val.str) (ns.map V.str)
  | [] => .nil
  | n :: ns => .cons (.str n) (RepA.ofStrs ns)
end

/-! ### what may change -/
inductive Cell where
  | lst (xs : List Val)
  | dk (kvs : List (Key × Val))
  | ins (C : Addr) (fs : List (Str × Val))
def RepC (K : PySem.W.Frag) (H : Hp) : Cell → HO → Prop
  | .lst ds, o => ∃ xs, o = .lst xs ∧ RepA K H ds xs
  | .dk ds, o => ∃ kvs : List (Key × V), o = .dK kvs ∧ RepK K H ds kvs
  | .ins C ds, o => ∃ dx fs, o = .ins C dx fs ∧ RepF K H ds fs
theorem RepC.mono {K : PySem.W.Frag} {H H' : Hp} (e : Same H H') : ∀ {c : Cell} {o : HO}, RepC K H c o → RepC K H' c o
  | .lst _, _, ⟨xs, h, r⟩ => ⟨xs, h, r.mono e⟩
  | .dk _, _, ⟨kvs, h, r⟩ => ⟨kvs, h, r.mono e⟩
  | .ins _ _, _, ⟨dx, fs, h, r⟩ => ⟨dx, fs, h, r.mono e⟩
abbrev Mem := List (Addr × Cell)
/-- Hi: what never changes; M: the cells -/
structure Ok (K : PySem.W.Frag) (Hi : Hp) (M : Mem) (H : Hp) : Prop where
  im : Same Hi H
  ce : ∀ a c, (a, c) ∈ M → Hi a = none ∧ ∃ o, H a = some o ∧ RepC K Hi c o
  nd : (M.map (·.1)).Nodup
section
variable {K : PySem.W.Frag} {Hi Hi' H H' : Hp} {M : Mem} {a p : Addr} {c c' : Cell} {o : HO}
theorem same_upd {H : Hp} {p : Addr} {o : HO} (h : H p = none) : Same H (upd H p o) := fun b x e => by
  rw [upd_ne (ne_of_none e h)]
  exact e
theorem Ok.none (k : Ok K Hi M H) (h : H p = Option.none) : Hi p = Option.none := k.im.free h
theorem Ok.notin (k : Ok K Hi M H) (h : H p = Option.none) : ∀ c, (p, c) ∉ M := fun c hm => by
  obtain ⟨_, o, e, _⟩ := k.ce p c hm
  rw [h] at e
  cases e
theorem Ok.fresh (k : Ok K Hi M H) (h : H p = Option.none) : p ∉ M.map (·.1) := fun hm => by
  obtain ⟨⟨q, c⟩, h1, h2⟩ := List.mem_map.mp hm
  have e : q = p := h2
  subst e
  exact k.notin h c h1
/-- a new object that never changes -/
theorem Ok.imm (k : Ok K Hi M H) (h : H p = Option.none) : Ok K (upd Hi p o) M (upd H p o) where
  im := fun b x e => by
    by_cases hb : b = p
    · subst hb
      rw [upd_same] at e ⊢
      exact e
    · rw [upd_ne hb] at e ⊢
      exact k.im b x e
  ce := fun a c hm => by
    obtain ⟨e0, o', e, r⟩ := k.ce a c hm
    have hb : a ≠ p := fun z => k.notin h c (z ▸ hm)
    refine ⟨by rw [upd_ne hb]; exact e0, o', by rw [upd_ne hb]; exact e, r.mono (same_upd (k.none h))⟩
  nd := k.nd
/-- a new cell -/
theorem Ok.new (k : Ok K Hi M H) (h : H p = Option.none) (r : RepC K Hi c o) : Ok K Hi ((p, c) :: M) (upd H p o) where
  im := fun b x e => by
    have hb : b ≠ p := fun z => by
      subst z
      rw [k.none h] at e
      cases e
    rw [upd_ne hb]
    exact k.im b x e
  ce := fun a c' hm => by
    rcases List.mem_cons.mp hm with e | hm
    · cases e
      exact ⟨k.none h, o, upd_same, r⟩
    · obtain ⟨e0, o', e, r'⟩ := k.ce a c' hm
      have hb : a ≠ p := fun z => k.notin h c' (z ▸ hm)
      exact ⟨e0, o', by rw [upd_ne hb]; exact e, r'⟩
  nd := by
    rw [List.map_cons]
    exact List.nodup_cons.mpr ⟨k.fresh h, k.nd⟩
theorem Ok.get {i : Nat} (k : Ok K Hi M H) (h : M[i]? = some (a, c)) : Hi a = Option.none ∧ ∃ o, H a = some o ∧ RepC K Hi c o := k.ce a c (List.mem_of_getElem? h)
/-- a cell is written -/
theorem Ok.set {i : Nat} (k : Ok K Hi M H) (h : M[i]? = some (a, c)) (r : RepC K Hi c' o) : Ok K Hi (M.set i (a, c')) (upd H a o) where
  im := fun b x e => by
    have hb : b ≠ a := fun z => by
      subst z
      rw [(k.get h).1] at e
      cases e
    rw [upd_ne hb]
    exact k.im b x e
  ce := fun b d hm => by
    obtain ⟨j, hj⟩ := List.mem_iff_getElem?.mp hm
    by_cases hij : i = j
    · subst hij
      rw [List.getElem?_set_self (List.getElem?_eq_some_iff.mp h).1] at hj
      cases hj
      exact ⟨(k.get h).1, o, upd_same, r⟩
    · rw [List.getElem?_set_ne hij] at hj
      obtain ⟨e0, o', e, r'⟩ := k.get hj
      have hb : b ≠ a := fun z => by
        subst z
        have h1 : (M.map (·.1))[i]? = some b := by rw [List.getElem?_map, h]; rfl
        have h2 : (M.map (·.1))[j]? = some b := by rw [List.getElem?_map, hj]; rfl
        obtain ⟨l1, g1⟩ := List.getElem?_eq_some_iff.mp h1
        obtain ⟨l2, g2⟩ := List.getElem?_eq_some_iff.mp h2
        exact hij ((List.getElem_inj k.nd).mp (g1.trans g2.symm))
      exact ⟨e0, o', by rw [upd_ne hb]; exact e, r'⟩
  nd := by
    have e : (M.set i (a, c')).map (·.1) = M.map (·.1) := by
      rw [List.map_set]
      have h1 : (M.map (·.1))[i]? = some a := by rw [List.getElem?_map, h]; rfl
      obtain ⟨l1, g1⟩ := List.getElem?_eq_some_iff.mp h1
      apply List.ext_getElem? 
      intro j
      by_cases hij : i = j
      · subst hij
        rw [List.getElem?_set_self l1, h1]
      · rw [List.getElem?_set_ne hij]
    rw [e]
    exact k.nd
/-- the first cell will change no more -/
theorem Ok.freeze (k : Ok K Hi ((p, c) :: M) H) (h : H p = some o) : Ok K (upd Hi p o) M H where
  im := fun b x e => by
    by_cases hb : b = p
    · subst hb
      rw [upd_same] at e
      rw [h]
      exact e
    · rw [upd_ne hb] at e
      exact k.im b x e
  ce := fun a d hm => by
    obtain ⟨e0, o', e, r⟩ := k.ce a d (List.mem_cons_of_mem _ hm)
    have nd := k.nd
    rw [List.map_cons] at nd
    have hb : a ≠ p := fun z => by
      subst z
      exact (List.nodup_cons.mp nd).1 (List.mem_map.mpr ⟨(a, d), hm, rfl⟩)
    exact ⟨by rw [upd_ne hb]; exact e0, o', e, r.mono (same_upd (k.ce p c List.mem_cons_self).1)⟩
  nd := by
    have nd := k.nd
    rw [List.map_cons] at nd
    exact (List.nodup_cons.mp nd).2
theorem Ok.tail (k : Ok K Hi ((p, c) :: M) H) : Ok K Hi M H where
  im := k.im
  ce := fun a d hm => k.ce a d (List.mem_cons_of_mem _ hm)
  nd := by
    have nd := k.nd
    rw [List.map_cons] at nd
    exact (List.nodup_cons.mp nd).2
theorem Ok.all (H : Hp) : Ok K H [] H := ⟨Same.refl H, (fun _ _ h => nomatch h), List.nodup_nil⟩
end

/-! ### slots -/
abbrev Gam := List (Option Val)
def EnvR (K : PySem.W.Frag) (H : Hp) (Γ : Gam) (σ : L2.St) : Prop := Γ.length = σ.length ∧ ∀ (i : Nat) (d : Val), Γ[i]? = some (some d) → ∃ v, σ[i]? = some (some v) ∧ Rep K H d v
theorem EnvR.mono {K : PySem.W.Frag} {H H' : Hp} {Γ : Gam} {σ : L2.St} (h : EnvR K H Γ σ) (e : Same H H') : EnvR K H' Γ σ := ⟨h.1, fun i d q => by
  obtain ⟨v, h1, h2⟩ := h.2 i d q
  exact ⟨v, h1, h2.mono e⟩⟩
theorem EnvR.set {K : PySem.W.Frag} {H : Hp} {Γ : Gam} {σ : L2.St} {i : Nat} {d : Val} {v : V} (h : EnvR K H Γ σ) (r : Rep K H d v) : EnvR K H (Γ.set i (some d)) (σ.set i (some v)) := by
  refine ⟨by rw [List.length_set, List.length_set]; exact h.1, fun j e q => ?_⟩
  by_cases hij : i = j
  · subst hij
    by_cases hl : i < Γ.length
    · rw [List.getElem?_set_self hl] at q
      cases q
      exact ⟨v, List.getElem?_set_self (h.1 ▸ hl), r⟩
    · rw [List.getElem?_eq_none_iff.mpr (by rw [List.length_set]; omega)] at q
      cases q
  · rw [List.getElem?_set_ne hij] at q
    obtain ⟨w, h1, h2⟩ := h.2 j e q
    exact ⟨w, by rw [List.getElem?_set_ne hij]; exact h1, h2⟩
theorem EnvR.drop {K : PySem.W.Frag} {H : Hp} {Γ Γ' : Gam} {σ : L2.St} (h : EnvR K H Γ σ) (hl : Γ'.length = Γ.length) (w : ∀ (i : Nat) (d : Val), Γ'[i]? = some (some d) → Γ[i]? = some (some d)) : EnvR K H Γ' σ := ⟨hl.trans h.1, fun i d q => h.2 i d (w i d q)⟩

/-! ### the readings that always fit -/
def WE (X : Cx) (e : Expr) : TE := fun σ H Q => ∃ t, PE X e t ∧ t σ H Q
def WT (X : Cx) (e : Expr) : TT := fun σ H Q => ∃ t, PT X e t ∧ t σ H Q
def WA (X : Cx) (es : List Expr) : TA := fun σ H Q => ∃ t, PA X es t ∧ t σ H Q
def WS (X : Cx) (s : Stmt) : TS := fun D σ H => ∃ t, PS X s t ∧ t D σ H
def WB (X : Cx) (s : List Stmt) : TS := fun D σ H => ∃ t, PSs X s t ∧ t D σ H
section
variable {X : Cx}
theorem pe_we {e : Expr} : PE X e (WE X e) := ⟨fun pins s σ H Q I ⟨t, p, h⟩ => p.run pins s σ H Q I h⟩
theorem pt_wt {e : Expr} : PT X e (WT X e) := ⟨fun pins s σ H Q I ⟨t, p, h⟩ => p.run pins s σ H Q I h⟩
theorem pa_wa {es : List Expr} : PA X es (WA X es) := ⟨fun pos pins s σ H Q I ⟨t, p, h⟩ => p.run pos pins s σ H Q I h⟩
theorem ps_ws {s : Stmt} : PS X s (WS X s) := ⟨fun pins s σ H D I ⟨t, p, h⟩ => p.run pins s σ H D I h⟩
theorem pss_wb {s : List Stmt} : PSs X s (WB X s) := ⟨fun pins s σ H D I ⟨t, p, h⟩ => p.run pins s σ H D I h⟩
end

/-! ### the judgements: what a piece does to values and cells -/
def Post (K : PySem.W.Frag) (Hi : Hp) (P : Val → Mem → Prop) (Q : VK) : Prop := ∀ d M' v Hi' H', P d M' → Same Hi Hi' → Ok K Hi' M' H' → Rep K Hi' d v → Q v H'
def PostA (K : PySem.W.Frag) (Hi : Hp) (P : List Val → Mem → Prop) (Q : List V → Hp → Prop) : Prop := ∀ d M' v Hi' H', P d M' → Same Hi Hi' → Ok K Hi' M' H' → RepA K Hi' d v → Q v H'
def PostT (K : PySem.W.Frag) (Hi : Hp) (P : Bool → Mem → Prop) (Q : Bool → Hp → Prop) : Prop := ∀ b M' Hi' H', P b M' → Same Hi Hi' → Ok K Hi' M' H' → Q b H'
theorem Post.up {K : PySem.W.Frag} {Hi Hi1 : Hp} {P : Val → Mem → Prop} {Q : VK} (h : Post K Hi P Q) (e : Same Hi Hi1) : Post K Hi1 P Q := fun d M' v Hi' H' p s => h d M' v Hi' H' p (e.trans s)
theorem PostT.up {K : PySem.W.Frag} {Hi Hi1 : Hp} {P : Bool → Mem → Prop} {Q : Bool → Hp → Prop} (h : PostT K Hi P Q) (e : Same Hi Hi1) : PostT K Hi1 P Q := fun b M' Hi' H' p s => h b M' Hi' H' p (e.trans s)
theorem PostA.up {K : PySem.W.Frag} {Hi Hi1 : Hp} {P : List Val → Mem → Prop} {Q : List V → Hp → Prop} (h : PostA K Hi P Q) (e : Same Hi Hi1) : PostA K Hi1 P Q := fun d M' v Hi' H' p s => h d M' v Hi' H' p (e.trans s)

def aE (X : Cx) (e : Expr) (Γ : Gam) (M : Mem) (P : Val → Mem → Prop) : Prop := ∀ Hi H σ, Ok X.K Hi M H → EnvR X.K Hi Γ σ → ∀ Q : VK, Post X.K Hi P Q → WE X e σ H Q
def aT (X : Cx) (e : Expr) (Γ : Gam) (M : Mem) (P : Bool → Mem → Prop) : Prop := ∀ Hi H σ, Ok X.K Hi M H → EnvR X.K Hi Γ σ → ∀ Q, PostT X.K Hi P Q → WT X e σ H Q
def aA (X : Cx) (es : List Expr) (Γ : Gam) (M : Mem) (P : List Val → Mem → Prop) : Prop := ∀ Hi H σ, Ok X.K Hi M H → EnvR X.K Hi Γ σ → ∀ Q, PostA X.K Hi P Q → WA X es σ H Q
abbrev aV (X : Cx) (e : Expr) (Γ : Gam) (M : Mem) (d : Val) : Prop := aE X e Γ M fun x M' => x = d ∧ M' = M
abbrev aB (X : Cx) (e : Expr) (Γ : Gam) (M : Mem) (b : Bool) : Prop := aT X e Γ M fun x M' => x = b ∧ M' = M
abbrev aVs (X : Cx) (es : List Expr) (Γ : Gam) (M : Mem) (ds : List Val) : Prop := aA X es Γ M fun x M' => x = ds ∧ M' = M

/-- what is wanted behind a statement -/
structure AK where
  nx : Gam → Mem → Prop
  rt : Val → Mem → Prop
  bk : Gam → Mem → Prop := fun _ _ => False
  ct : Gam → Mem → Prop := fun _ _ => False
structure Real (K : PySem.W.Frag) (Hi : Hp) (k : AK) (D : Ends) : Prop where
  nx : ∀ Γ M σ Hi' H', k.nx Γ M → Same Hi Hi' → Ok K Hi' M H' → EnvR K Hi' Γ σ → D.nx σ H'
  rt : ∀ d M v Hi' H', k.rt d M → Same Hi Hi' → Ok K Hi' M H' → Rep K Hi' d v → D.rt v H'
  bk : ∀ Γ M σ Hi' H', k.bk Γ M → Same Hi Hi' → Ok K Hi' M H' → EnvR K Hi' Γ σ → D.bk σ H'
  ct : ∀ Γ M σ Hi' H', k.ct Γ M → Same Hi Hi' → Ok K Hi' M H' → EnvR K Hi' Γ σ → D.ct σ H'
theorem Real.up {K : PySem.W.Frag} {Hi Hi1 : Hp} {k : AK} {D : Ends} (h : Real K Hi k D) (e : Same Hi Hi1) : Real K Hi1 k D :=
  ⟨fun Γ M σ Hi' H' p s => h.nx Γ M σ Hi' H' p (e.trans s), fun d M v Hi' H' p s => h.rt d M v Hi' H' p (e.trans s), fun Γ M σ Hi' H' p s => h.bk Γ M σ Hi' H' p (e.trans s), fun Γ M σ Hi' H' p s => h.ct Γ M σ Hi' H' p (e.trans s)⟩
def aS (X : Cx) (s : Stmt) (Γ : Gam) (M : Mem) (k : AK) : Prop := ∀ Hi H σ, Ok X.K Hi M H → EnvR X.K Hi Γ σ → ∀ D, Real X.K Hi k D → WS X s D σ H
def aSs (X : Cx) (s : List Stmt) (Γ : Gam) (M : Mem) (k : AK) : Prop := ∀ Hi H σ, Ok X.K Hi M H → EnvR X.K Hi Γ σ → ∀ D, Real X.K Hi k D → WB X s D σ H

section
variable {X : Cx} {Γ : Gam} {M : Mem} {P : Val → Mem → Prop} {e a b c : Expr} {es : List Expr} {pos : Pos} {k : AK} {d d1 d2 : Val}
theorem aE.mono {P' : Val → Mem → Prop} (h : aE X e Γ M P) (f : ∀ d M', P d M' → P' d M') : aE X e Γ M P' := fun Hi H σ ok en Q q => h Hi H σ ok en Q fun d M' v Hi' H' p => q d M' v Hi' H' (f d M' p)
theorem aT.mono {P P' : Bool → Mem → Prop} (h : aT X e Γ M P) (f : ∀ d M', P d M' → P' d M') : aT X e Γ M P' := fun Hi H σ ok en Q q => h Hi H σ ok en Q fun d M' Hi' H' p => q d M' Hi' H' (f d M' p)
theorem aE.val (h : aV X e Γ M d) (p : P d M) : aE X e Γ M P := h.mono fun x M' q => by
  obtain ⟨h1, h2⟩ := q
  subst h1 h2
  exact p
theorem aT.val {P : Bool → Mem → Prop} {b : Bool} (h : aB X e Γ M b) (p : P b M) : aT X e Γ M P := h.mono fun x M' q => by
  obtain ⟨h1, h2⟩ := q
  subst h1 h2
  exact p
theorem aA.val {P : List Val → Mem → Prop} {ds : List Val} (h : aVs X es Γ M ds) (p : P ds M) : aA X es Γ M P := fun Hi H σ ok en Q q => h Hi H σ ok en Q fun d M' v Hi' H' r => by
  obtain ⟨h1, h2⟩ := r
  subst h1 h2
  exact q _ _ v Hi' H' p
/-- a constant -/
theorem ae_c {v : V} {d : Val} (hp : PE X e (tC v)) (r : ∀ K H, Rep K H d v) (h : P d M) : aE X e Γ M P := fun Hi H σ ok _ Q q => ⟨_, hp, q d M v Hi H h (Same.refl _) ok (r _ _)⟩
theorem ae_int {i : Int} {j} (h : P (.int i) M) : aE X (.Constant (.int i) j pos) Γ M P := ae_c pe_int (fun _ _ => .int i) h
theorem ae_bl {i : Bool} {j} (h : P (.bl i) M) : aE X (.Constant (.bool i) j pos) Γ M P := ae_c pe_bl (fun _ _ => .bl i) h
theorem ae_str {i : Str} {j} (h : P (.str i) M) : aE X (.Constant (.str i) j pos) Γ M P := ae_c pe_str (fun _ _ => .str i) h
theorem ae_non {j} (h : P .non M) : aE X (.Constant .none j pos) Γ M P := ae_c pe_non (fun _ _ => .non) h
/-- a name of the def -/
theorem ae_var {x : Str} (i : Nat) {d : Val} (hd : Γ[i]? = some (some d)) (h : P d M) (hN : X.N[i]? = some x := by rfl) (hv : Vis X.env.scope x := by first | exact Or.inl rfl | exact Or.inr (Or.inl rfl) | exact Or.inr (Or.inr rfl))
    (hdb : (x == ("__debug__" : Str)) = false := by decide) (hcd : (x == ("__classdict__" : Str)) = false := by decide) : aE X (.Name x pos) Γ M P := fun Hi H σ ok en Q q => by
  obtain ⟨v, h1, r⟩ := en.2 i d hd
  exact ⟨_, pe_var hN hv hdb hcd, v, h1, q d M v Hi H h (Same.refl _) ok r⟩
/-- a global of the module that is an address -/
theorem ae_glob {x : Str} {f : Addr} (hm : X.mg x = some (.ref f)) (h : P (.ptr f) M) (hg : Gl X x := by rfl) (hd : (x == ("__debug__" : Str)) = false := by decide) : aE X (.Name x pos) Γ M P :=
  ae_c (pe_glob (v := .ref f) hg hm rfl hd) (fun _ _ => .ptr f) h

/-- what an operation on values asks -/
def RV (X : Cx) (r : R2) (x y : Val) (M : Mem) (P : Val → Mem → Prop) : Prop := ∀ Hi H v w, Ok X.K Hi M H → Rep X.K Hi x v → Rep X.K Hi y w → ∀ Q, Post X.K Hi P Q → r v w H Q
theorem ae_op {op : Operator} {r : R2} (ho : OpR X (binaryOp op) r) (h : aE X a Γ M fun x M1 => aE X b Γ M1 fun y M2 => RV X r x y M2 P) : aE X (.BinOp a op b pos) Γ M P := fun Hi H σ ok en Q q => by
  refine ⟨_, pe_op ho pe_we pe_we, ?_⟩
  refine h Hi H σ ok en _ fun x M1 v Hi1 H1 h1 s1 ok1 r1 => ?_
  refine h1 Hi1 H1 σ ok1 (en.mono s1) _ fun y M2 w Hi2 H2 h2 s2 ok2 r2 => ?_
  exact h2 Hi2 H2 v w ok2 (r1.mono s2) r2 Q (q.up (s1.trans s2))
theorem rv_I0 {g : Int → Int → V} {f : Int → Int → Val} {i j : Int} (hr : ∀ K H, Rep K H (f i j) (g i j)) (h : P (f i j) M) : RV X (rI0 g) (.int i) (.int j) M P := fun Hi H v w ok rv rw_ Q q => by
  cases rv
  cases rw_
  exact ⟨i, j, rfl, rfl, q _ _ _ Hi H h (Same.refl _) ok (hr _ _)⟩
theorem rv_I {C : Int → Int → Prop} {g : Int → Int → V} {f : Int → Int → Val} {i j : Int} (hc : C i j) (hr : ∀ K H, Rep K H (f i j) (g i j)) (h : P (f i j) M) : RV X (rI C g) (.int i) (.int j) M P := fun Hi H v w ok rv rw_ Q q => by
  cases rv
  cases rw_
  exact ⟨i, j, rfl, rfl, hc, q _ _ _ Hi H h (Same.refl _) ok (hr _ _)⟩
theorem av_op {op : Operator} {r : R2} (ho : OpR X (binaryOp op) r) (ha : aV X a Γ M d1) (hb : aV X b Γ M d2) (hr : RV X r d1 d2 M P) : aE X (.BinOp a op b pos) Γ M P := ae_op ho (ha.val (hb.val hr))
variable {i j : Int}
theorem av_add (ha : aV X a Γ M (.int i)) (hb : aV X b Γ M (.int j)) : aV X (.BinOp a .Add b pos) Γ M (.int (i + j)) := av_op op_add ha hb (rv_I0 (f := fun i j => .int (i + j)) (fun _ _ => .int _) ⟨rfl, rfl⟩)
theorem av_sub (ha : aV X a Γ M (.int i)) (hb : aV X b Γ M (.int j)) : aV X (.BinOp a .Sub b pos) Γ M (.int (i - j)) := av_op op_sub ha hb (rv_I0 (f := fun i j => .int (i - j)) (fun _ _ => .int _) ⟨rfl, rfl⟩)
theorem av_mul (ha : aV X a Γ M (.int i)) (hb : aV X b Γ M (.int j)) (hc : CMul i j) : aV X (.BinOp a .Mult b pos) Γ M (.int (i * j)) := av_op op_mul ha hb (rv_I (f := fun i j => .int (i * j)) hc (fun _ _ => .int _) ⟨rfl, rfl⟩)
theorem av_mod (ha : aV X a Γ M (.int i)) (hb : aV X b Γ M (.int j)) (hc : 0 < j) : aV X (.BinOp a .Mod b pos) Γ M (.int (i % j)) := av_op op_mod ha hb (rv_I (f := fun i j => .int (i % j)) hc (fun _ _ => .int _) ⟨rfl, rfl⟩)
theorem av_fdiv (ha : aV X a Γ M (.int i)) (hb : aV X b Γ M (.int j)) (hc : CDiv i j) : aV X (.BinOp a .FloorDiv b pos) Γ M (.int (i / j)) := av_op op_fdiv ha hb (rv_I (f := fun i j => .int (i / j)) hc (fun _ _ => .int _) ⟨rfl, rfl⟩)
theorem av_pow (ha : aV X a Γ M (.int i)) (hb : aV X b Γ M (.int j)) (hc : CPow i j) : aV X (.BinOp a .Pow b pos) Γ M (.int (i ^ j.toNat)) := av_op op_pow ha hb (rv_I (f := fun i j => .int (i ^ j.toNat)) hc (fun _ _ => .int _) ⟨rfl, rfl⟩)
end
end Ab

namespace Ab
open PySem PySem.Spec PyProof.Rows L2

/-- a value as it may be read: itself, or the list that stands in its cell -/
inductive Vw (M : Mem) : Val → Val → Prop
  | self (d : Val) : Vw M d d
  | lst (i : Nat) {p : Addr} {xs : List Val} : M[i]? = some (p, .lst xs) → Vw M (.ptr p) (.lst xs)
theorem Vw.rep {K : PySem.W.Frag} {Hi H : Hp} {M : Mem} {d e : Val} {v : V} (h : Vw M d e) (ok : Ok K Hi M H) (r : Rep K Hi d v) : Rep K H e v := by
  cases h with
  | self => exact r.mono ok.im
  | lst i hm =>
    obtain ⟨_, o, ho, xs', rfl, ra⟩ := ok.get hm
    cases r
    exact .lst (SqL.of ho) (ra.mono ok.im)

mutual
def toD : Val → Option PyData
  | .non => some .none
  | .bl b => some (.bool b)
  | .int i => some (.int i)
  | .str x => some (.str x)
  | .lst xs => (toDs xs).map PyData.list
  | .tup xs => (toDs xs).map PyData.tuple
  | .ty _ => none
  | .ptr _ => none
  | .obj _ _ => none
def toDs : List Val → Option (List PyData)
  | [] => some []
  | x :: xs => (toD x).bind fun d => (toDs xs).map fun ds => d :: ds
end
mutual
theorem rep_dp {K : PySem.W.Frag} {H : Hp} : ∀ (x : Val) {v : V} {d : PyData}, Rep K H x v → toD x = some d → Dp K H v d
  | .non, _, _, .non, e => by cases e; exact .non
  | .bl b, _, _, .bl _, e => by cases e; exact .bl b
  | .int i, _, _, .int _, e => by cases e; exact .int i
  | .str x, _, _, .str _, e => by cases e; exact .str x
  | .lst xs, _, _, .lst h r, e => by
    unfold toD at e
    obtain ⟨ds, h1, rfl⟩ := Option.map_eq_some_iff.mp e
    exact .lst h (rep_dps xs r h1)
  | .tup xs, _, _, .tup h r, e => by
    unfold toD at e
    obtain ⟨ds, h1, rfl⟩ := Option.map_eq_some_iff.mp e
    exact .tup h (rep_dps xs r h1)
  | .ty _, _, _, _, e => by cases e
  | .ptr _, _, _, _, e => by cases e
  | .obj _ _, _, _, _, e => by cases e
theorem rep_dps {K : PySem.W.Frag} {H : Hp} : ∀ (xs : List Val) {vs : List V} {ds : List PyData}, RepA K H xs vs → toDs xs = some ds → DpAll K H vs ds
  | [], _, _, .nil, e => by cases e; exact .nil
  | x :: xs, _, _, .cons a r, e => by
    unfold toDs at e
    obtain ⟨d, h1, h2⟩ := Option.bind_eq_some_iff.mp e
    obtain ⟨ds, h3, rfl⟩ := Option.map_eq_some_iff.mp h2
    exact .cons (rep_dp x a h1) (rep_dps xs r h3)
end

section
variable {X : Cx} {Γ : Gam} {M : Mem} {P : Val → Mem → Prop} {e a b c : Expr} {es : List Expr} {pos : Pos} {k : AK} {d d1 d2 d3 : Val} {i j : Int}

/-! ### comparisons -/
def Cmp (X : Cx) (op : CmpOp) (M : Mem) (x y : Val) (b : Bool) : Prop := ∃ r, OpR X (compareOp op) r ∧ RV X r x y M fun z M' => z = .bl b ∧ M' = M
theorem cmp_lt : Cmp X .Lt M (.int i) (.int j) (decide (i < j)) := ⟨_, op_lt, rv_I0 (f := fun i j => .bl (decide (i < j))) (fun _ _ => .bl _) ⟨rfl, rfl⟩⟩
theorem cmp_le : Cmp X .LtE M (.int i) (.int j) (decide (i ≤ j)) := ⟨_, op_le, rv_I0 (f := fun i j => .bl (decide (i ≤ j))) (fun _ _ => .bl _) ⟨rfl, rfl⟩⟩
theorem cmp_gt : Cmp X .Gt M (.int i) (.int j) (decide (j < i)) := ⟨_, op_gt, rv_I0 (f := fun i j => .bl (decide (j < i))) (fun _ _ => .bl _) ⟨rfl, rfl⟩⟩
theorem cmp_ge : Cmp X .GtE M (.int i) (.int j) (decide (j ≤ i)) := ⟨_, op_ge, rv_I0 (f := fun i j => .bl (decide (j ≤ i))) (fun _ _ => .bl _) ⟨rfl, rfl⟩⟩
theorem cmp_eqI : Cmp X .Eq M (.int i) (.int j) (decide (i = j)) := ⟨_, op_eq, fun Hi H v w ok rv rw_ Q q => by
  cases rv
  cases rw_
  refine ⟨rfl, ?_⟩
  have e : decide (V.int i = V.int j) = decide (i = j) := by simp
  rw [e]
  exact q _ M _ Hi H ⟨rfl, rfl⟩ (Same.refl _) ok (.bl _)⟩
theorem cmp_neI : Cmp X .NotEq M (.int i) (.int j) (!decide (i = j)) := ⟨_, op_ne, fun Hi H v w ok rv rw_ Q q => by
  cases rv
  cases rw_
  refine ⟨rfl, ?_⟩
  have e : decide (V.int i = V.int j) = decide (i = j) := by simp
  rw [e]
  exact q _ M _ Hi H ⟨rfl, rfl⟩ (Same.refl _) ok (.bl _)⟩
theorem cmp_eqS {x y : Str} : Cmp X .Eq M (.str x) (.str y) (decide (x = y)) := ⟨_, op_eq, fun Hi H v w ok rv rw_ Q q => by
  cases rv
  cases rw_
  refine ⟨rfl, ?_⟩
  have e : decide (V.str x = V.str y) = decide (x = y) := by simp
  rw [e]
  exact q _ M _ Hi H ⟨rfl, rfl⟩ (Same.refl _) ok (.bl _)⟩
theorem cmp_neS {x y : Str} : Cmp X .NotEq M (.str x) (.str y) (!decide (x = y)) := ⟨_, op_ne, fun Hi H v w ok rv rw_ Q q => by
  cases rv
  cases rw_
  refine ⟨rfl, ?_⟩
  have e : decide (V.str x = V.str y) = decide (x = y) := by simp
  rw [e]
  exact q _ M _ Hi H ⟨rfl, rfl⟩ (Same.refl _) ok (.bl _)⟩
/-- data of any depth -/
theorem cmp_eqD {d1' d2' : Val} {p q : PyData} (v1 : Vw M d1 d1') (v2 : Vw M d2 d2') (h1 : toD d1' = some p) (h2 : toD d2' = some q) (s1 : SeqAt.shaped p = true) (s2 : SeqAt.shaped q = true) (hu : X.A.units + 64 < cLine) : Cmp X .Eq M d1 d2 (PyData.eqv p q) :=
  ⟨_, op_eqD hu, fun Hi H v w ok rv rw_ Q post => ⟨p, q, rep_dp _ (v1.rep ok rv) h1, rep_dp _ (v2.rep ok rw_) h2, s1, s2, post _ M _ Hi H ⟨rfl, rfl⟩ (Same.refl _) ok (.bl _)⟩⟩
theorem cmp_neD {d1' d2' : Val} {p q : PyData} (v1 : Vw M d1 d1') (v2 : Vw M d2 d2') (h1 : toD d1' = some p) (h2 : toD d2' = some q) (s1 : SeqAt.shaped p = true) (s2 : SeqAt.shaped q = true) (hu : X.A.units + 64 < cLine) : Cmp X .NotEq M d1 d2 (!PyData.eqv p q) :=
  ⟨_, op_neD hu, fun Hi H v w ok rv rw_ Q post => ⟨p, q, rep_dp _ (v1.rep ok rv) h1, rep_dp _ (v2.rep ok rw_) h2, s1, s2, post _ M _ Hi H ⟨rfl, rfl⟩ (Same.refl _) ok (.bl _)⟩⟩
def Val.isN : Val → Bool
  | .non => true
  | _ => false
theorem rep_isN {K : PySem.W.Frag} {H : Hp} {x : Val} {v : V} (r : Rep K H x v) : decide (v = .non) = x.isN := by
  cases r <;> rfl
theorem cmp_isN : Cmp X .Is M d .non d.isN := ⟨_, op_isN, fun Hi H v w ok rv rw_ Q q => by
  cases rw_
  refine ⟨rfl, ?_⟩
  rw [rep_isN rv]
  exact q _ M _ Hi H ⟨rfl, rfl⟩ (Same.refl _) ok (.bl _)⟩
theorem cmp_notN : Cmp X .IsNot M d .non (!d.isN) := ⟨_, op_notN, fun Hi H v w ok rv rw_ Q q => by
  cases rw_
  refine ⟨rfl, ?_⟩
  rw [rep_isN rv]
  exact q _ M _ Hi H ⟨rfl, rfl⟩ (Same.refl _) ok (.bl _)⟩
theorem Cmp.eq {op : CmpOp} {x y : Val} {b b' : Bool} (h : Cmp X op M x y b) (e : b = b') : Cmp X op M x y b' := e ▸ h
/-- a comparison as a value, as a test -/
theorem ae_cmp {op : CmpOp} {k : Bool} (ha : aV X a Γ M d1) (hb : aV X b Γ M d2) (hc : Cmp X op M d1 d2 k) (h : P (.bl k) M) (hm : behindInMarks op b = false := by first | exact nomark _ | rfl) : aE X (.Compare a [op] [b] pos) Γ M P := fun Hi H σ ok en Q q => by
  obtain ⟨r, ho, hr⟩ := hc
  refine ⟨_, pe_cmpR ho pe_we pe_we hm, ?_⟩
  refine ha Hi H σ ok en _ fun x M1 v Hi1 H1 h1 s1 ok1 r1 => ?_
  obtain ⟨rfl, rfl⟩ := h1
  refine hb Hi1 H1 σ ok1 (en.mono s1) _ fun y M2 w Hi2 H2 h2 s2 ok2 r2 => ?_
  obtain ⟨rfl, rfl⟩ := h2
  exact hr Hi2 H2 v w ok2 (r1.mono s2) r2 Q fun z M' v' Hi3 H3 h3 s3 ok3 r3 => by
    obtain ⟨rfl, rfl⟩ := h3
    exact q _ _ v' Hi3 H3 h ((s1.trans s2).trans s3) ok3 r3
theorem at_cmp {op : CmpOp} {k : Bool} {P : Bool → Mem → Prop} (ha : aV X a Γ M d1) (hb : aV X b Γ M d2) (hc : Cmp X op M d1 d2 k) (h : P k M) (hm : behindInMarks op b = false := by first | exact nomark _ | rfl) : aT X (.Compare a [op] [b] pos) Γ M P := fun Hi H σ ok en Q q => by
  obtain ⟨r, ho, hr⟩ := hc
  refine ⟨_, pt_cmpR ho pe_we pe_we hm, ?_⟩
  refine ha Hi H σ ok en _ fun x M1 v Hi1 H1 h1 s1 ok1 r1 => ?_
  obtain ⟨rfl, rfl⟩ := h1
  refine hb Hi1 H1 σ ok1 (en.mono s1) _ fun y M2 w Hi2 H2 h2 s2 ok2 r2 => ?_
  obtain ⟨rfl, rfl⟩ := h2
  exact hr Hi2 H2 v w ok2 (r1.mono s2) r2 _ fun z M' v' Hi3 H3 h3 s3 ok3 r3 => by
    obtain ⟨rfl, rfl⟩ := h3
    cases r3
    exact ⟨k, rfl, q _ _ Hi3 H3 h ((s1.trans s2).trans s3) ok3⟩
/-- a op b op' c -/
theorem ae_chain {op op' : CmpOp} {k1 k2 : Bool} (ha : aV X a Γ M d1) (hb : aV X b Γ M d2) (hc : aV X c Γ M d3) (h1 : Cmp X op M d1 d2 k1) (h2 : Cmp X op' M d2 d3 k2) (h : P (.bl (k1 && k2)) M) (hm : lastMarks [op, op'] [b, c] = false := by with_unfolding_all rfl) :
    aE X (.Compare a [op, op'] [b, c] pos) Γ M P := fun Hi H σ ok en Q q => by
  obtain ⟨r, ho, hr⟩ := h1
  obtain ⟨r', ho', hr'⟩ := h2
  refine ⟨_, pe_chain ho ho' pe_we pe_we pe_we hm, ?_⟩
  refine ha Hi H σ ok en _ fun x M1 v Hi1 H1 h1 s1 ok1 r1 => ?_
  obtain ⟨rfl, rfl⟩ := h1
  refine hb Hi1 H1 σ ok1 (en.mono s1) _ fun y M2 w Hi2 H2 h2 s2 ok2 r2 => ?_
  obtain ⟨rfl, rfl⟩ := h2
  refine hr Hi2 H2 v w ok2 (r1.mono s2) r2 _ fun z M' v' Hi3 H3 h3 s3 ok3 r3 => ?_
  obtain ⟨rfl, rfl⟩ := h3
  cases r3
  refine ⟨k1, rfl, ?_⟩
  have s13 := (s1.trans s2).trans s3
  cases k1 with
  | false => exact iteF (q _ _ _ Hi3 H3 h s13 ok3 (.bl _))
  | true =>
    refine iteT (hc Hi3 H3 σ ok3 (en.mono s13) _ fun y4 M4 w4 Hi4 H4 h4 s4 ok4 r4 => ?_)
    obtain ⟨rfl, rfl⟩ := h4
    exact hr' Hi4 H4 w w4 ok4 (r2.mono (s3.trans s4)) r4 Q fun z M' v' Hi5 H5 h5 s5 ok5 r5 => by
      obtain ⟨rfl, rfl⟩ := h5
      exact q _ _ v' Hi5 H5 h ((s13.trans s4).trans s5) ok5 r5
theorem at_chain {op op' : CmpOp} {k1 k2 : Bool} {P : Bool → Mem → Prop} (ha : aV X a Γ M d1) (hb : aV X b Γ M d2) (hc : aV X c Γ M d3) (h1 : Cmp X op M d1 d2 k1) (h2 : Cmp X op' M d2 d3 k2) (h : P (k1 && k2) M) (hm : lastMarks [op, op'] [b, c] = false := by with_unfolding_all rfl) :
    aT X (.Compare a [op, op'] [b, c] pos) Γ M P := fun Hi H σ ok en Q q => by
  obtain ⟨r, ho, hr⟩ := h1
  obtain ⟨r', ho', hr'⟩ := h2
  refine ⟨_, pt_chain ho ho' pe_we pe_we pe_we hm, ?_⟩
  refine ha Hi H σ ok en _ fun x M1 v Hi1 H1 h1 s1 ok1 r1 => ?_
  obtain ⟨rfl, rfl⟩ := h1
  refine hb Hi1 H1 σ ok1 (en.mono s1) _ fun y M2 w Hi2 H2 h2 s2 ok2 r2 => ?_
  obtain ⟨rfl, rfl⟩ := h2
  refine hr Hi2 H2 v w ok2 (r1.mono s2) r2 _ fun z M' v' Hi3 H3 h3 s3 ok3 r3 => ?_
  obtain ⟨rfl, rfl⟩ := h3
  cases r3
  refine ⟨k1, rfl, ?_⟩
  have s13 := (s1.trans s2).trans s3
  cases k1 with
  | false => exact iteF ⟨false, rfl, q _ _ Hi3 H3 h s13 ok3⟩
  | true =>
    refine iteT (hc Hi3 H3 σ ok3 (en.mono s13) _ fun y4 M4 w4 Hi4 H4 h4 s4 ok4 r4 => ?_)
    obtain ⟨rfl, rfl⟩ := h4
    exact hr' Hi4 H4 w w4 ok4 (r2.mono (s3.trans s4)) r4 _ fun z M' v' Hi5 H5 h5 s5 ok5 r5 => by
      obtain ⟨rfl, rfl⟩ := h5
      cases r5
      exact ⟨_, rfl, q _ _ Hi5 H5 h ((s13.trans s4).trans s5) ok5⟩

/-! ### tests -/
theorem at_val {P : Bool → Mem → Prop} (h : aE X e Γ M fun x M' => ∃ k, x = .bl k ∧ P k M') (he : ∀ whole, isTrue e X.env whole = (do let v ← whole; standAt e.pos; holding [v] (truthy v)) := by intro _; rfl) : aT X e Γ M P := fun Hi H σ ok en Q q => by
  refine ⟨_, pt_val pe_we he, ?_⟩
  refine h Hi H σ ok en _ fun x M1 v Hi1 H1 h1 s1 ok1 r1 => ?_
  obtain ⟨k, rfl, p⟩ := h1
  cases r1
  exact ⟨k, rfl, q _ _ Hi1 H1 p s1 ok1⟩
theorem at_not {P : Bool → Mem → Prop} (h : aT X a Γ M fun x M' => P (!x) M') : aT X (.UnaryOp .Not a pos) Γ M P := fun Hi H σ ok en Q q => by
  refine ⟨_, pt_not pt_wt, ?_⟩
  exact h Hi H σ ok en _ fun x M1 Hi1 H1 h1 s1 ok1 => q _ _ Hi1 H1 h1 s1 ok1
def WW (X : Cx) (e : Expr) : TT := fun σ H Q => ∃ t, PW X e t ∧ t σ H Q
theorem pw_ww : PW X e (WW X e) := ⟨fun whole pins s σ H Q I ⟨t, p, h⟩ => p.run whole pins s σ H Q I h⟩
def aW (X : Cx) (e : Expr) (Γ : Gam) (M : Mem) (P : Bool → Mem → Prop) : Prop := ∀ Hi H σ, Ok X.K Hi M H → EnvR X.K Hi Γ σ → ∀ Q, PostT X.K Hi P Q → WW X e σ H Q
theorem at_w {P : Bool → Mem → Prop} (h : aW X e Γ M P) : aT X e Γ M P := fun Hi H σ ok en Q q => by
  obtain ⟨t, p, z⟩ := h Hi H σ ok en Q q
  exact ⟨t, p.pt, z⟩
theorem aw_and1 {P : Bool → Mem → Prop} (h : aT X a Γ M P) : aW X (.BoolOp .And [a] pos) Γ M P := fun Hi H σ ok en Q q => ⟨_, pw_and1 pt_wt, h Hi H σ ok en Q q⟩
theorem aw_or1 {P : Bool → Mem → Prop} (h : aT X a Γ M P) : aW X (.BoolOp .Or [a] pos) Γ M P := fun Hi H σ ok en Q q => ⟨_, pw_or1 pt_wt, h Hi H σ ok en Q q⟩
theorem aw_and {P : Bool → Mem → Prop} {rest : List Expr} (h : aT X a Γ M fun x M' => (x = true → aW X (.BoolOp .And (b :: rest) pos) Γ M' P) ∧ (x = false → P false M')) : aW X (.BoolOp .And (a :: b :: rest) pos) Γ M P := fun Hi H σ ok en Q q => by
  refine ⟨_, pw_and pt_wt pw_ww, ?_⟩
  refine h Hi H σ ok en _ fun x M1 Hi1 H1 h1 s1 ok1 => ?_
  cases x with
  | true => exact iteT (h1.1 rfl Hi1 H1 σ ok1 (en.mono s1) _ (q.up s1))
  | false => exact iteF (q _ _ Hi1 H1 (h1.2 rfl) s1 ok1)
theorem aw_or {P : Bool → Mem → Prop} {rest : List Expr} (h : aT X a Γ M fun x M' => (x = true → P true M') ∧ (x = false → aW X (.BoolOp .Or (b :: rest) pos) Γ M' P)) : aW X (.BoolOp .Or (a :: b :: rest) pos) Γ M P := fun Hi H σ ok en Q q => by
  refine ⟨_, pw_or pt_wt pw_ww, ?_⟩
  refine h Hi H σ ok en _ fun x M1 Hi1 H1 h1 s1 ok1 => ?_
  cases x with
  | false => exact iteF (h1.2 rfl Hi1 H1 σ ok1 (en.mono s1) _ (q.up s1))
  | true => exact iteT (q _ _ Hi1 H1 (h1.1 rfl) s1 ok1)
/-- as values -/
theorem ae_and {rest : List Expr} (h : aE X a Γ M fun x M' => ∃ k, x = .bl k ∧ (k = true → aE X (.BoolOp .And (b :: rest) pos) Γ M' P) ∧ (k = false → P (.bl false) M')) : aE X (.BoolOp .And (a :: b :: rest) pos) Γ M P := fun Hi H σ ok en Q q => by
  refine ⟨_, pe_and pe_we pe_we, ?_⟩
  refine h Hi H σ ok en _ fun x M1 v Hi1 H1 h1 s1 ok1 r1 => ?_
  obtain ⟨k, rfl, h2, h3⟩ := h1
  cases r1
  refine ⟨k, rfl, ?_⟩
  cases k with
  | true => exact iteT (h2 rfl Hi1 H1 σ ok1 (en.mono s1) _ (q.up s1))
  | false => exact iteF (q _ _ _ Hi1 H1 (h3 rfl) s1 ok1 (.bl _))
theorem ae_or {rest : List Expr} (h : aE X a Γ M fun x M' => ∃ k, x = .bl k ∧ (k = true → P (.bl true) M') ∧ (k = false → aE X (.BoolOp .Or (b :: rest) pos) Γ M' P)) : aE X (.BoolOp .Or (a :: b :: rest) pos) Γ M P := fun Hi H σ ok en Q q => by
  refine ⟨_, pe_or pe_we pe_we, ?_⟩
  refine h Hi H σ ok en _ fun x M1 v Hi1 H1 h1 s1 ok1 r1 => ?_
  obtain ⟨k, rfl, h2, h3⟩ := h1
  cases r1
  refine ⟨k, rfl, ?_⟩
  cases k with
  | false => exact iteF (h3 rfl Hi1 H1 σ ok1 (en.mono s1) _ (q.up s1))
  | true => exact iteT (q _ _ _ Hi1 H1 (h2 rfl) s1 ok1 (.bl _))
theorem ae_one {op} (h : aE X a Γ M P) : aE X (.BoolOp op [a] pos) Γ M P := fun Hi H σ ok en Q q => ⟨_, pe_one pe_we, h Hi H σ ok en Q q⟩
theorem ae_not (h : aE X a Γ M fun x M' => ∃ k, x = .bl k ∧ P (.bl (!k)) M') : aE X (.UnaryOp .Not a pos) Γ M P := fun Hi H σ ok en Q q => by
  refine ⟨_, pe_not pe_we, ?_⟩
  refine h Hi H σ ok en _ fun x M1 v Hi1 H1 h1 s1 ok1 r1 => ?_
  obtain ⟨k, rfl, h2⟩ := h1
  cases r1
  exact ⟨k, rfl, q _ _ _ Hi1 H1 h2 s1 ok1 (.bl _)⟩
theorem ae_if (h : aT X c Γ M fun x M' => (x = true → aE X a Γ M' P) ∧ (x = false → aE X b Γ M' P)) : aE X (.IfExp c a b pos) Γ M P := fun Hi H σ ok en Q q => by
  refine ⟨_, pe_ifExp pt_wt pe_we pe_we, ?_⟩
  refine h Hi H σ ok en _ fun x M1 Hi1 H1 h1 s1 ok1 => ?_
  cases x with
  | true => exact iteT (h1.1 rfl Hi1 H1 σ ok1 (en.mono s1) _ (q.up s1))
  | false => exact iteF (h1.2 rfl Hi1 H1 σ ok1 (en.mono s1) _ (q.up s1))
/-- truth of a pure test in two ways -/
theorem ae_ifd {p : Prop} [Decidable p] (hc : aB X c Γ M (decide p)) (h1 : p → aE X a Γ M P) (h2 : ¬ p → aE X b Γ M P) : aE X (.IfExp c a b pos) Γ M P :=
  ae_if (hc.val ⟨fun z => h1 (of_decide_eq_true z), fun z => h2 (of_decide_eq_false z)⟩)

/-! ### arguments, displays -/
theorem aa_nil {P : List Val → Mem → Prop} (h : P [] M) : aA X [] Γ M P := fun Hi H σ ok en Q q => ⟨_, pa_nil, q _ _ _ Hi H h (Same.refl _) ok .nil⟩
theorem aa_cons {P : List Val → Mem → Prop} (h : aE X e Γ M fun x M1 => aA X es Γ M1 fun xs M2 => P (x :: xs) M2) (hs : starEach (e :: es) X.env = (false, eval e X.env) :: starEach es X.env := by rfl) : aA X (e :: es) Γ M P := fun Hi H σ ok en Q q => by
  refine ⟨_, pa_cons pe_we pa_wa hs, ?_⟩
  refine h Hi H σ ok en _ fun x M1 v Hi1 H1 h1 s1 ok1 r1 => ?_
  exact h1 Hi1 H1 σ ok1 (en.mono s1) _ fun xs M2 vs Hi2 H2 h2 s2 ok2 r2 => q _ _ _ Hi2 H2 h2 (s1.trans s2) ok2 (.cons (r1.mono s2) r2)
theorem avs_nil : aVs X [] Γ M [] := aa_nil ⟨rfl, rfl⟩
theorem avs_cons {ds : List Val} (h : aV X e Γ M d) (hr : aVs X es Γ M ds) (hs : starEach (e :: es) X.env = (false, eval e X.env) :: starEach es X.env := by rfl) : aVs X (e :: es) Γ M (d :: ds) :=
  aa_cons (h.val (hr.val ⟨rfl, rfl⟩)) hs
theorem ae_tup {x1} (h : aA X es Γ M fun xs M' => xs.length ≤ sizeLine ∧ P (.tup xs) M') : aE X (.Tuple es x1 pos) Γ M P := fun Hi H σ ok en Q q => by
  refine ⟨_, pe_tup pa_wa, ?_⟩
  refine h Hi H σ ok en _ fun xs M1 vs Hi1 H1 h1 s1 ok1 r1 => ?_
  refine ⟨r1.length ▸ h1.1, fun p hp => ?_⟩
  have s2 := same_upd (o := .tup vs) (ok1.none hp)
  exact q _ _ _ _ _ h1.2 (s1.trans s2) (ok1.imm hp) (.tup (SqT.of upd_same) (r1.mono s2))
theorem av_tup {x1} {ds : List Val} (h : aVs X es Γ M ds) (hl : ds.length ≤ sizeLine) : aV X (.Tuple es x1 pos) Γ M (.tup ds) := ae_tup (h.val ⟨hl, rfl, rfl⟩)
/-- a list that will not change -/
theorem ae_lst (h : aA X es Γ M fun xs M' => xs.length ≤ sizeLine ∧ P (.lst xs) M') : aE X (.List es pos) Γ M P := fun Hi H σ ok en Q q => by
  refine ⟨_, pe_lst pa_wa, ?_⟩
  refine h Hi H σ ok en _ fun xs M1 vs Hi1 H1 h1 s1 ok1 r1 => ?_
  refine ⟨r1.length ▸ h1.1, fun p hp => ?_⟩
  have s2 := same_upd (o := .lst vs) (ok1.none hp)
  exact q _ _ _ _ _ h1.2 (s1.trans s2) (ok1.imm hp) (.lst (SqL.of upd_same) (r1.mono s2))
/-- a list that will change: a new cell -/
theorem ae_lstC (h : aA X es Γ M fun xs M' => xs.length ≤ sizeLine ∧ ∀ p, P (.ptr p) ((p, .lst xs) :: M')) : aE X (.List es pos) Γ M P := fun Hi H σ ok en Q q => by
  refine ⟨_, pe_lst pa_wa, ?_⟩
  refine h Hi H σ ok en _ fun xs M1 vs Hi1 H1 h1 s1 ok1 r1 => ?_
  refine ⟨r1.length ▸ h1.1, fun p hp => ?_⟩
  exact q _ _ _ _ _ (h1.2 p) s1 (ok1.new hp ⟨vs, rfl, r1⟩) (.ptr p)

/-! ### places -/
theorem rep_at {K : PySem.W.Frag} {H : Hp} {ds : List Val} {vs : List V} (r : RepA K H ds vs) {i : Int} {d : Val} (h : atI ds i = some d) : ∃ v, atI vs i = some v ∧ Rep K H d v := by
  unfold atI at h ⊢
  rw [← r.length]
  cases e : ixN ds.length i with
  | none => rw [e] at h; cases h
  | some j =>
    rw [e] at h
    exact r.get h
/-- xs[i], t[i] -/
theorem ae_ixL {xs : List Val} (ha : aV X a Γ M d1) (hb : aV X b Γ M (.int i)) (hv : Vw M d1 (.lst xs)) (h : ∃ d, atI xs i = some d ∧ P d M) (hs : PlainIx b := by exact fun _ _ => rfl) : aE X (.Subscript a b pos) Γ M P := fun Hi H σ ok en Q q => by
  obtain ⟨d, hd, p⟩ := h
  refine ⟨_, pe_ix ix_list pe_we pe_we hs, ?_⟩
  refine ha Hi H σ ok en _ fun x M1 v Hi1 H1 h1 s1 ok1 r1 => ?_
  obtain ⟨rfl, rfl⟩ := h1
  refine hb Hi1 H1 σ ok1 (en.mono s1) _ fun y M2 w Hi2 H2 h2 s2 ok2 r2 => ?_
  obtain ⟨rfl, rfl⟩ := h2
  cases r2
  cases hv with
  | self =>
    cases r1.mono s2 with
    | lst hq ra =>
      obtain ⟨z, hz, rz⟩ := rep_at ra hd
      exact ⟨_, _, i, z, rfl, rfl, ok2.im.seq hq, hz, q _ _ z Hi2 H2 p (s1.trans s2) ok2 rz⟩
  | lst j hm =>
    obtain ⟨_, o, ho, xs', rfl, ra⟩ := ok2.get hm
    cases r1
    obtain ⟨z, hz, rz⟩ := rep_at ra hd
    exact ⟨_, _, i, z, rfl, rfl, SqL.of ho, hz, q _ _ z Hi2 H2 p (s1.trans s2) ok2 rz⟩
theorem ae_ixT {xs : List Val} (ha : aV X a Γ M (.tup xs)) (hb : aV X b Γ M (.int i)) (h : ∃ d, atI xs i = some d ∧ P d M) (hs : PlainIx b := by exact fun _ _ => rfl) : aE X (.Subscript a b pos) Γ M P := fun Hi H σ ok en Q q => by
  obtain ⟨d, hd, p⟩ := h
  refine ⟨_, pe_ix ix_tup pe_we pe_we hs, ?_⟩
  refine ha Hi H σ ok en _ fun x M1 v Hi1 H1 h1 s1 ok1 r1 => ?_
  obtain ⟨rfl, rfl⟩ := h1
  refine hb Hi1 H1 σ ok1 (en.mono s1) _ fun y M2 w Hi2 H2 h2 s2 ok2 r2 => ?_
  obtain ⟨rfl, rfl⟩ := h2
  cases r2
  cases r1.mono s2 with
  | tup hq ra =>
    obtain ⟨z, hz, rz⟩ := rep_at ra hd
    exact ⟨_, _, i, z, rfl, rfl, sameT ok2.im hq, hz, q _ _ z Hi2 H2 p (s1.trans s2) ok2 rz⟩
theorem av_ixL {xs : List Val} (ha : aV X a Γ M d1) (hb : aV X b Γ M (.int i)) (hv : Vw M d1 (.lst xs)) (hd : atI xs i = some d) (hs : PlainIx b := by exact fun _ _ => rfl) : aV X (.Subscript a b pos) Γ M d := ae_ixL ha hb hv ⟨d, hd, rfl, rfl⟩ hs
theorem av_ixT {xs : List Val} (ha : aV X a Γ M (.tup xs)) (hb : aV X b Γ M (.int i)) (hd : atI xs i = some d) (hs : PlainIx b := by exact fun _ _ => rfl) : aV X (.Subscript a b pos) Γ M d := ae_ixT ha hb ⟨d, hd, rfl, rfl⟩ hs
end
end Ab

namespace Ab
open PySem PySem.Spec PyProof.Rows L2
section
variable {X : Cx} {Γ : Gam} {M : Mem} {P : Val → Mem → Prop} {e a b c o : Expr} {es : List Expr} {pos p1 p2 apos : Pos} {k : AK} {d d1 d2 d3 : Val} {i j : Int} {x f m : Str}

/-- a new list's cell that will not change -/
theorem ae_frz (h : aE X e Γ M fun d M' => ∃ p xs M'', d = .ptr p ∧ M' = (p, .lst xs) :: M'' ∧ P (.lst xs) M'') : aE X e Γ M P := fun Hi H σ ok en Q q => by
  refine h Hi H σ ok en _ fun d M1 v Hi1 H1 h1 s1 ok1 r1 => ?_
  obtain ⟨p, xs, M2, rfl, rfl, hp⟩ := h1
  obtain ⟨e0, o, ho, vs, rfl, ra⟩ := ok1.ce p _ List.mem_cons_self
  cases r1
  have s2 := same_upd (o := .lst vs) e0
  exact q _ _ _ _ _ hp (s1.trans s2) (ok1.freeze ho) (.lst (SqL.of upd_same) (ra.mono s2))

/-! ### calls of built-ins -/
def RA (X : Cx) (r : List V → Hp → VK → Prop) (xs : List Val) (M : Mem) (P : Val → Mem → Prop) : Prop := ∀ Hi H vs, Ok X.K Hi M H → RepA X.K Hi xs vs → ∀ Q, Post X.K Hi P Q → r vs H Q
theorem ae_callB {id : String} {r : List V → Hp → VK → Prop} (hc : CallR X (.builtin id) r) (hm : X.mg x = none) (hv : bootBuiltins x = some (.builtin id)) (h : aA X (e :: es) Γ M fun xs M' => RA X r xs M' P)
    (hg : Gl X x := by rfl) (hn : x ≠ "__name__" := by decide) (hdb : (x == ("__debug__" : Str)) = false := by decide)
    (he : starEach (e :: es) X.env = (false, eval e X.env) :: starEach es X.env := by rfl) (hpl : (backTo pos (starEach es X.env)).any (·.1) = false := by rfl) : aE X (.Call (.Name x p1) (e :: es) [] pos) Γ M P := fun Hi H σ ok en Q q => by
  refine ⟨_, pe_callB hc hg hm hv pa_wa hn hdb he hpl, ?_⟩
  exact h Hi H σ ok en _ fun xs M1 vs Hi1 H1 h1 s1 ok1 r1 => h1 Hi1 H1 vs ok1 r1 Q (q.up s1)
theorem ae_callTy {T : String} {r : List V → Hp → VK → Prop} (hc : CallR X (.type T) r) (hm : X.mg x = none) (hv : bootBuiltins x = some (.type T)) (h : aA X (e :: es) Γ M fun xs M' => RA X r xs M' P)
    (hg : Gl X x := by rfl) (hn : x ≠ "__name__" := by decide) (hdb : (x == ("__debug__" : Str)) = false := by decide)
    (he : starEach (e :: es) X.env = (false, eval e X.env) :: starEach es X.env := by rfl) (hpl : (backTo pos (starEach es X.env)).any (·.1) = false := by rfl) : aE X (.Call (.Name x p1) (e :: es) [] pos) Γ M P := fun Hi H σ ok en Q q => by
  refine ⟨_, pe_callTy hc hg hm hv pa_wa hn hdb he hpl, ?_⟩
  exact h Hi H σ ok en _ fun xs M1 vs Hi1 H1 h1 s1 ok1 r1 => h1 Hi1 H1 vs ok1 r1 Q (q.up s1)
/-- what a list or tuple value is -/
inductive Sq (M : Mem) : Val → List Val → Prop
  | l {d : Val} {xs : List Val} : Vw M d (.lst xs) → Sq M d xs
  | t {xs : List Val} : Sq M (.tup xs) xs
theorem Sq.rep {K : PySem.W.Frag} {Hi H : Hp} {d : Val} {xs : List Val} {v : V} (h : Sq M d xs) (ok : Ok K Hi M H) (r : Rep K Hi d v) : ∃ p ys, v = .ref p ∧ (SqL K H p ys ∨ SqT K H p ys) ∧ RepA K Hi xs ys := by
  cases h with
  | l h =>
    cases h with
    | self => cases r with
      | lst hq ra => exact ⟨_, _, rfl, .inl (ok.im.seq hq), ra⟩
    | lst i hm =>
      obtain ⟨_, o, ho, ys, rfl, ra⟩ := ok.get hm
      cases r
      exact ⟨_, _, rfl, .inl (SqL.of ho), ra⟩
  | t => cases r with
    | tup hq ra => exact ⟨_, _, rfl, .inr (sameT ok.im hq), ra⟩
theorem Vw.repL {K : PySem.W.Frag} {Hi H : Hp} {d : Val} {xs : List Val} {v : V} (h : Vw M d (.lst xs)) (ok : Ok K Hi M H) (r : Rep K Hi d v) : ∃ p ys, v = .ref p ∧ SqL K H p ys ∧ RepA K Hi xs ys := by
  cases h with
  | self => cases r with
    | lst hq ra => exact ⟨_, _, rfl, ok.im.seq hq, ra⟩
  | lst i hm =>
    obtain ⟨_, o, ho, ys, rfl, ra⟩ := ok.get hm
    cases r
    exact ⟨_, _, rfl, SqL.of ho, ra⟩
theorem ae_len {xs : List Val} (hm : X.mg "len" = none) (ha : aV X a Γ M d) (hs : Sq M d xs) (h : P (.int xs.length) M) (hg : Gl X "len" := by rfl) (hst : starEach [a] X.env = [(false, eval a X.env)] := by rfl) : aE X (.Call (.Name "len" p1) [a] [] pos) Γ M P :=
  ae_callB call_len_seq hm PySem.boot_len (aa_cons (ha.val (aa_nil fun Hi H vs ok r Q q => by
    cases r with
    | cons r1 r2 =>
      cases r2
      obtain ⟨p, ys, rfl, hq, ra⟩ := hs.rep ok r1
      refine ⟨p, ys, rfl, hq, ?_⟩
      rw [← ra.length]
      exact q _ _ _ Hi H h (Same.refl _) ok (.int _))) hst) hg (he := hst) (hpl := rfl)
theorem av_len {xs : List Val} (hm : X.mg "len" = none) (ha : aV X a Γ M d) (hs : Sq M d xs) (hg : Gl X "len" := by rfl) (hst : starEach [a] X.env = [(false, eval a X.env)] := by rfl) : aV X (.Call (.Name "len" p1) [a] [] pos) Γ M (.int xs.length) := ae_len hm ha hs ⟨rfl, rfl⟩ hg hst
/-- list(x): a new cell -/
theorem ae_list (hm : X.mg "list" = none) (ha : aE X a Γ M fun d M' => ∃ xs, Sq M' d xs ∧ ∀ p, P (.ptr p) ((p, .lst xs) :: M')) (hg : Gl X "list" := by rfl) (hst : starEach [a] X.env = [(false, eval a X.env)] := by rfl) : aE X (.Call (.Name "list" p1) [a] [] pos) Γ M P :=
  ae_callTy call_list_of hm (by decide +kernel) (aa_cons (ha.mono fun d M' ⟨xs, hs, h⟩ => aa_nil fun Hi H vs ok r Q q => by
    cases r with
    | cons r1 r2 =>
      cases r2
      obtain ⟨p, ys, rfl, hq, ra⟩ := hs.rep ok r1
      exact ⟨p, ys, rfl, hq, fun l hl => q _ _ _ _ _ (h l) (Same.refl _) (ok.new hl ⟨ys, rfl, ra⟩) (.ptr l)⟩) hst) hg (he := hst) (hpl := rfl)
/-- tuple(x) -/
theorem ae_tuple (hm : X.mg "tuple" = none) (ha : aE X a Γ M fun d M' => ∃ xs, Sq M' d xs ∧ P (.tup xs) M') (hg : Gl X "tuple" := by rfl) (hst : starEach [a] X.env = [(false, eval a X.env)] := by rfl) : aE X (.Call (.Name "tuple" p1) [a] [] pos) Γ M P :=
  ae_callTy call_tuple_of hm (by decide +kernel) (aa_cons (ha.mono fun d M' ⟨xs, hs, h⟩ => aa_nil fun Hi H vs ok r Q q => by
    cases r with
    | cons r1 r2 =>
      cases r2
      cases hs with
      | l hs =>
        obtain ⟨p, ys, rfl, hq, ra⟩ := hs.repL ok r1
        refine ⟨p, ys, rfl, .inl ⟨hq, fun l hl => ?_⟩⟩
        have s2 := same_upd (o := .tup ys) (ok.none hl)
        exact q _ _ _ _ _ h s2 (ok.imm hl) (.tup (SqT.of upd_same) (ra.mono s2))
      | t =>
        cases r1 with
        | tup hq ra => exact ⟨_, _, rfl, .inr ⟨sameT ok.im hq, q _ _ _ Hi H h (Same.refl _) ok (.tup hq ra)⟩⟩) hst) hg (he := hst) (hpl := rfl)

/-! ### slices -/
def aO (X : Cx) (e : Option Expr) (Γ : Gam) (M : Mem) (o : Option Int) : Prop := ∀ Hi H σ, Ok X.K Hi M H → EnvR X.K Hi Γ σ → ∀ Q : Option Int → Hp → Prop, (∀ Hi' H', Same Hi Hi' → Ok X.K Hi' M H' → Q o H') → ∃ t, PO X e t ∧ t σ H Q
theorem ao_none : aO X none Γ M none := fun Hi H σ ok en Q q => ⟨_, po_none, q Hi H (Same.refl _) ok⟩
theorem ao_some (h : aV X e Γ M (.int i)) : aO X (some e) Γ M (some i) := fun Hi H σ ok en Q q => by
  refine ⟨_, po_some pe_we, ?_⟩
  refine h Hi H σ ok en _ fun x M1 v Hi1 H1 h1 s1 ok1 r1 => ?_
  obtain ⟨rfl, rfl⟩ := h1
  cases r1
  exact ⟨i, rfl, q Hi1 H1 s1 ok1⟩
def WO (X : Cx) (e : Option Expr) : TO := fun σ H Q => ∃ t, PO X e t ∧ t σ H Q
theorem po_wo {e : Option Expr} : PO X e (WO X e) := ⟨fun pins s σ H Q I ⟨t, p, h⟩ => p.run pins s σ H Q I h⟩
def cutA (xs : List Val) (lo hi : Option Int) : List Val := (xs.drop (HT.sIx xs.length 0 lo)).take (HT.sIx xs.length xs.length hi - HT.sIx xs.length 0 lo)
theorem rep_cut {K : PySem.W.Frag} {H : Hp} {xs : List Val} {vs : List V} (r : RepA K H xs vs) (lo hi : Option Int) : RepA K H (cutA xs lo hi) (cutV vs lo hi) := by
  unfold cutA cutV
  rw [← r.length]
  exact (r.drop _).take _
theorem ae_sliceL {xs : List Val} {elo ehi : Option Expr} {lo hi : Option Int} (ha : aV X a Γ M d) (hl : aO X elo Γ M lo) (hh : aO X ehi Γ M hi) (hv : Vw M d (.lst xs)) (h : ∀ p, P (.ptr p) ((p, .lst (cutA xs lo hi)) :: M)) : aE X (.Subscript a (.Slice elo ehi none p2) pos) Γ M P := fun Hi H σ ok en Q q => by
  refine ⟨_, pe_slice sl_list pe_we po_wo po_wo, ?_⟩
  refine ha Hi H σ ok en _ fun x M1 v Hi1 H1 h1 s1 ok1 r1 => ?_
  obtain ⟨rfl, rfl⟩ := h1
  refine hl Hi1 H1 σ ok1 (en.mono s1) _ fun Hi2 H2 s2 ok2 => ?_
  refine hh Hi2 H2 σ ok2 (en.mono (s1.trans s2)) _ fun Hi3 H3 s3 ok3 => ?_
  have s13 := (s1.trans s2).trans s3
  obtain ⟨p, ys, rfl, hq, ra⟩ := hv.repL ok3 (r1.mono (s2.trans s3))
  exact ⟨p, ys, rfl, hq, fun l hl => q _ _ _ _ _ (h l) s13 (ok3.new hl ⟨_, rfl, rep_cut ra lo hi⟩) (.ptr l)⟩
theorem ae_sliceT {xs : List Val} {elo ehi : Option Expr} {lo hi : Option Int} (ha : aV X a Γ M (.tup xs)) (hl : aO X elo Γ M lo) (hh : aO X ehi Γ M hi) (h : P (.tup (cutA xs lo hi)) M) : aE X (.Subscript a (.Slice elo ehi none p2) pos) Γ M P := fun Hi H σ ok en Q q => by
  refine ⟨_, pe_slice sl_tupA pe_we po_wo po_wo, ?_⟩
  refine ha Hi H σ ok en _ fun x M1 v Hi1 H1 h1 s1 ok1 r1 => ?_
  obtain ⟨rfl, rfl⟩ := h1
  refine hl Hi1 H1 σ ok1 (en.mono s1) _ fun Hi2 H2 s2 ok2 => ?_
  refine hh Hi2 H2 σ ok2 (en.mono (s1.trans s2)) _ fun Hi3 H3 s3 ok3 => ?_
  have s13 := (s1.trans s2).trans s3
  cases r1.mono (s2.trans s3) with
  | @tup p ys _ hq ra =>
    refine ⟨p, ys, rfl, sameT ok3.im hq, fun hw => ?_, fun hw l hl => ?_⟩
    · have e : cutA xs lo hi = xs := by
        unfold cutA
        rw [ra.length, hw.1, hw.2]
        rw [← ra.length]
        simp
      rw [e] at h
      exact q _ _ _ Hi3 H3 h s13 ok3 (.tup hq ra)
    · have s4 := same_upd (o := .tup (cutV ys lo hi)) (ok3.none hl)
      exact q _ _ _ _ _ h (s13.trans s4) (ok3.imm hl) (.tup (SqT.of upd_same) ((rep_cut ra lo hi).mono s4))

/-! ### fields -/
/-- an instance: one that will not change, or a cell -/
inductive Ob (M : Mem) (C : Addr) : Val → List (Str × Val) → Prop
  | im (fs : List (Str × Val)) : Ob M C (.obj C fs) fs
  | ce (i : Nat) {p : Addr} {fs : List (Str × Val)} : M[i]? = some (p, .ins C fs) → Ob M C (.ptr p) fs
theorem Ob.rep {K : PySem.W.Frag} {Hi H : Hp} {C : Addr} {d : Val} {fs : List (Str × Val)} {v : V} (h : Ob M C d fs) (ok : Ok K Hi M H) (r : Rep K Hi d v) : ∃ p dx gs, v = .ref p ∧ H p = some (.ins C dx gs) ∧ RepF K Hi fs gs := by
  cases h with
  | im => cases r with
    | obj hq ra => exact ⟨_, _, _, rfl, ok.im _ _ hq, ra⟩
  | ce i hm =>
    obtain ⟨_, o, ho, dx, gs, rfl, ra⟩ := ok.get hm
    cases r
    exact ⟨_, _, _, rfl, ho, ra⟩
theorem ae_fld {C : Addr} (c : Cls X.K C) (n : NoAttr X.K C f) (ha : aE X a Γ M fun d M' => ∃ fs v, Ob M' C d fs ∧ fs.lookup f = some v ∧ P v M') (hb : attributeBase a f X.env (eval a X.env) = eval a X.env := by rfl) : aE X (.Attribute a f pos) Γ M P := fun Hi H σ ok en Q q => by
  refine ⟨_, pe_fld pe_we hb, ?_⟩
  refine ha Hi H σ ok en _ fun x M1 v Hi1 H1 h1 s1 ok1 r1 => ?_
  obtain ⟨fs, z, ho, hf, hp⟩ := h1
  obtain ⟨p, dx, gs, rfl, hq, ra⟩ := ho.rep ok1 r1
  obtain ⟨w, hw, rw_⟩ := ra.lookup hf
  exact ⟨p, C, dx, gs, w, rfl, hq, c, n, hw, q _ _ w Hi1 H1 hp s1 ok1 rw_⟩
theorem av_fld {C : Addr} {fs : List (Str × Val)} (c : Cls X.K C) (n : NoAttr X.K C f) (ha : aV X a Γ M d) (ho : Ob M C d fs) (hf : fs.lookup f = some d1) (hb : attributeBase a f X.env (eval a X.env) = eval a X.env := by rfl) : aV X (.Attribute a f pos) Γ M d1 :=
  ae_fld c n (ha.val ⟨fs, d1, ho, hf, rfl, rfl⟩) hb

/-! ### dicts -/
theorem ae_dget {n : Nat} {p : Addr} {kvs : List (Key × Val)} (hu : X.A.units + 1 < cLine) (ha : aV X a Γ M (.ptr p)) (hb : aV X b Γ M (.str x)) (hm : M[n]? = some (p, .dk kvs)) (h : ∃ d, dGet kvs (.inr x) = some d ∧ P d M) (hs : NoSl b := by exact fun _ _ => rfl) : aE X (.Subscript a b pos) Γ M P := fun Hi H σ ok en Q q => by
  obtain ⟨d, hd, hp⟩ := h
  refine ⟨_, pe_dget hu pe_we pe_we hs, ?_⟩
  refine ha Hi H σ ok en _ fun x M1 v Hi1 H1 h1 s1 ok1 r1 => ?_
  obtain ⟨rfl, rfl⟩ := h1
  refine hb Hi1 H1 σ ok1 (en.mono s1) _ fun y M2 w Hi2 H2 h2 s2 ok2 r2 => ?_
  obtain ⟨rfl, rfl⟩ := h2
  cases r1
  cases r2
  obtain ⟨_, o, ho, ks, rfl, rk⟩ := ok2.get hm
  obtain ⟨z, hz, rz⟩ := rk.get hd
  exact ⟨p, z, rfl, .inl ⟨ks, .inr _, .inl ho, rfl, hz.symm⟩, q _ _ z Hi2 H2 hp (s1.trans s2) ok2 rz⟩
theorem av_dget {n : Nat} {p : Addr} {kvs : List (Key × Val)} (hu : X.A.units + 1 < cLine) (ha : aV X a Γ M (.ptr p)) (hb : aV X b Γ M (.str x)) (hm : M[n]? = some (p, .dk kvs)) (hd : dGet kvs (.inr x) = some d) (hs : NoSl b := by exact fun _ _ => rfl) : aV X (.Subscript a b pos) Γ M d := ae_dget hu ha hb hm ⟨d, hd, rfl, rfl⟩ hs
theorem as_dput {n : Nat} {p : Addr} {kvs : List (Key × Val)} {ppos : Pos} (hu : X.A.units + 1 < cLine) (ha : aV X a Γ M (.ptr p)) (hb : aV X b Γ M (.str x)) (he : aV X e Γ M d) (hm : M[n]? = some (p, .dk kvs)) (hl : kvs.length < sizeLine) (h : k.nx Γ (M.set n (p, .dk (dPut kvs (.inr x) d))))
    (hs : swapsWith e (some (.Subscript a b ppos)) pos.line X.env = pure false := by rfl) : aS X (.Assign [.Subscript a b ppos] e pos) Γ M k := fun Hi H σ ok en D q => by
  refine ⟨_, ps_dput hu pe_we pe_we pe_we hs, ?_⟩
  refine he Hi H σ ok en _ fun x0 M0 v0 Hi0 H0 h0 s0 ok0 r0 => ?_
  obtain ⟨rfl, rfl⟩ := h0
  refine ha Hi0 H0 σ ok0 (en.mono s0) _ fun x M1 v Hi1 H1 h1 s1 ok1 r1 => ?_
  obtain ⟨rfl, rfl⟩ := h1
  refine hb Hi1 H1 σ ok1 (en.mono (s0.trans s1)) _ fun y M2 w Hi2 H2 h2 s2 ok2 r2 => ?_
  obtain ⟨rfl, rfl⟩ := h2
  cases r1
  cases r2
  obtain ⟨_, o, ho, ks, rfl, rk⟩ := ok2.get hm
  have s02 := (s0.trans s1).trans s2
  exact ⟨p, _, rfl, .inl ⟨ks, .inr _, ho, rfl, by rw [← rk.length]; exact hl, rfl⟩, q.nx _ _ σ Hi2 _ h s02 (ok2.set hm ⟨_, rfl, rk.put (r0.mono (s1.trans s2))⟩) (en.mono s02)⟩
end
end Ab

namespace Ab
open PySem PySem.Spec PyProof.Rows L2
section
variable {X : Cx} {Γ : Gam} {M : Mem} {P : Val → Mem → Prop} {e a b c o : Expr} {es : List Expr} {pos p1 p2 apos : Pos} {k : AK} {d d1 d2 d3 : Val} {i j : Int} {x y f m : Str} {st : Stmt} {sts : List Stmt}

/-! ### blocks -/
theorem as_nil (h : k.nx Γ M) : aSs X [] Γ M k := fun Hi H σ ok en D q => ⟨_, pss_nil, q.nx Γ M σ Hi H h (Same.refl _) ok en⟩
theorem as_cons (h : aS X st Γ M { k with nx := fun Γ' M' => aSs X sts Γ' M' k }) : aSs X (st :: sts) Γ M k := fun Hi H σ ok en D q => by
  refine ⟨_, pss_cons ps_ws pss_wb, ?_⟩
  exact h Hi H σ ok en { D with nx := WB X sts D } ⟨fun Γ' M' σ' Hi' H' hn s ok' en' => hn Hi' H' σ' ok' en' D (q.up s), q.rt, q.bk, q.ct⟩
theorem as_one (h : aS X st Γ M k) : aSs X [st] Γ M k := fun Hi H σ ok en D q => ⟨_, pss_one ps_ws, h Hi H σ ok en D q⟩
theorem aSs.mono {k' : AK} (h : aSs X sts Γ M k) (f1 : ∀ Γ M, k.nx Γ M → k'.nx Γ M) (f2 : ∀ d M, k.rt d M → k'.rt d M) (f3 : ∀ Γ M, k.bk Γ M → k'.bk Γ M) (f4 : ∀ Γ M, k.ct Γ M → k'.ct Γ M) : aSs X sts Γ M k' := fun Hi H σ ok en D q =>
  h Hi H σ ok en D ⟨fun Γ M σ Hi' H' p => q.nx Γ M σ Hi' H' (f1 Γ M p), fun d M v Hi' H' p => q.rt d M v Hi' H' (f2 d M p), fun Γ M σ Hi' H' p => q.bk Γ M σ Hi' H' (f3 Γ M p), fun Γ M σ Hi' H' p => q.ct Γ M σ Hi' H' (f4 Γ M p)⟩
/-- the list in a slot's cell will change no more -/
theorem as_frz (i : Nat) {p : Addr} {xs : List Val} (hΓ : Γ[i]? = some (some (.ptr p))) (h : aSs X sts (Γ.set i (some (.lst xs))) M k) : aSs X sts Γ ((p, .lst xs) :: M) k := fun Hi H σ ok en D q => by
  obtain ⟨e0, o, ho, vs, rfl, ra⟩ := ok.ce p _ List.mem_cons_self
  have s2 := same_upd (o := .lst vs) e0
  obtain ⟨v, hv, rv⟩ := en.2 i _ hΓ
  cases rv
  have en2 := (en.mono s2).set (i := i) (d := .lst xs) (v := .ref p) (.lst (SqL.of upd_same) (ra.mono s2))
  have e : σ.set i (some (V.ref p)) = σ := by
    apply List.ext_getElem?
    intro j
    by_cases hij : i = j
    · subst hij
      rw [List.getElem?_set_self (List.getElem?_eq_some_iff.mp hv).1, hv]
    · rw [List.getElem?_set_ne hij]
  rw [e] at en2
  exact h _ H σ (ok.freeze ho) en2 D (q.up s2)
/-- forget a cell, slots -/
theorem as_drop {c : Addr × Cell} (h : aSs X sts Γ M k) : aSs X sts Γ (c :: M) k := fun Hi H σ ok en D q => h Hi H σ (Ok.tail (p := c.1) (c := c.2) ok) en D q

/-! ### statements -/
theorem as_expr (h : aE X e Γ M fun _ M' => k.nx Γ M') (hs : swapsWith e none pos.line X.env = pure false := by rfl) : aS X (.Expr e pos) Γ M k := fun Hi H σ ok en D q => by
  refine ⟨_, ps_expr pe_we hs, ?_⟩
  exact h Hi H σ ok en _ fun x M1 v Hi1 H1 h1 s1 ok1 r1 => q.nx _ _ σ Hi1 H1 h1 s1 ok1 (en.mono s1)
theorem as_ret (h : aE X e Γ M k.rt) : aS X (.Return (some e) pos) Γ M k := fun Hi H σ ok en D q => by
  refine ⟨_, ps_ret pe_we, ?_⟩
  exact h Hi H σ ok en _ fun x M1 v Hi1 H1 h1 s1 ok1 r1 => q.rt _ _ v Hi1 H1 h1 s1 ok1 r1
theorem as_retN (h : k.rt .non M) : aS X (.Return none pos) Γ M k := fun Hi H σ ok en D q => ⟨_, ps_retN, q.rt _ _ _ Hi H h (Same.refl _) ok .non⟩
theorem as_pass (h : k.nx Γ M) : aS X (.Pass pos) Γ M k := fun Hi H σ ok en D q => ⟨_, ps_pass, q.nx Γ M σ Hi H h (Same.refl _) ok en⟩
theorem as_break (h : k.bk Γ M) : aS X (.Break pos) Γ M k := fun Hi H σ ok en D q => ⟨_, ps_break, q.bk Γ M σ Hi H h (Same.refl _) ok en⟩
theorem as_continue (h : k.ct Γ M) : aS X (.Continue pos) Γ M k := fun Hi H σ ok en D q => ⟨_, ps_continue, q.ct Γ M σ Hi H h (Same.refl _) ok en⟩
theorem as_if {s1 s2 : List Stmt} (h : aT X c Γ M fun b M' => (b = true → aSs X s1 Γ M' k) ∧ (b = false → aSs X s2 Γ M' k)) : aS X (.If c s1 s2 pos) Γ M k := fun Hi H σ ok en D q => by
  refine ⟨_, ps_if pt_wt pss_wb pss_wb, ?_⟩
  refine h Hi H σ ok en _ fun x M1 Hi1 H1 h1 s1 ok1 => ?_
  cases x with
  | true => exact iteT (h1.1 rfl Hi1 H1 σ ok1 (en.mono s1) D (q.up s1))
  | false => exact iteF (h1.2 rfl Hi1 H1 σ ok1 (en.mono s1) D (q.up s1))
theorem as_ifd {s1 s2 : List Stmt} {p : Prop} [Decidable p] (hc : aB X c Γ M (decide p)) (h1 : p → aSs X s1 Γ M k) (h2 : ¬ p → aSs X s2 Γ M k) : aS X (.If c s1 s2 pos) Γ M k :=
  as_if (hc.val ⟨fun z => h1 (of_decide_eq_true z), fun z => h2 (of_decide_eq_false z)⟩)
theorem as_ift {s1 s2 : List Stmt} (hc : aB X c Γ M true) (h1 : aSs X s1 Γ M k) : aS X (.If c s1 s2 pos) Γ M k := as_if (hc.val ⟨fun _ => h1, fun z => nomatch z⟩)
theorem as_iff {s1 s2 : List Stmt} (hc : aB X c Γ M false) (h2 : aSs X s2 Γ M k) : aS X (.If c s1 s2 pos) Γ M k := as_if (hc.val ⟨(fun z => nomatch z), fun _ => h2⟩)

/-! ### targets -/
def WG (X : Cx) (tg : Expr) : TG := fun v σ H Q => ∃ t, PG X tg t ∧ t v σ H Q
theorem pg_wg : PG X e (WG X e) := ⟨fun pins s σ H v u Q I r ⟨t, p, h⟩ => p.run pins s σ H v u Q I r h⟩
def aG (X : Cx) (tg : Expr) (d : Val) (Γ : Gam) (M : Mem) (R : Gam → Mem → Prop) : Prop := ∀ Hi H σ v, Ok X.K Hi M H → EnvR X.K Hi Γ σ → Rep X.K Hi d v → ∀ Q : L2.St → Hp → Prop, (∀ Γ' M' σ' Hi' H', R Γ' M' → Same Hi Hi' → Ok X.K Hi' M' H' → EnvR X.K Hi' Γ' σ' → Q σ' H') → WG X tg v σ H Q
theorem ag_name {R : Gam → Mem → Prop} (n : Nat) (hN : X.N.Nodup) (h : R (Γ.set n (some d)) M) (hi : X.N[n]? = some x := by rfl) (hx : Loc X.env.scope x := by first | exact Or.inl rfl | exact Or.inr rfl) (hf : X.fn x = true ∨ X.env.scope.names.lookup x = some .local := by first | exact .inl rfl | exact .inr rfl | assumption) :
    aG X (.Name x pos) d Γ M R := fun Hi H σ v ok en r Q q => ⟨_, pg_name hN hi hx hf, q _ _ _ Hi H h (Same.refl _) ok (en.set r)⟩
def aGs (X : Cx) (tgs : List Expr) (ds : List Val) (Γ : Gam) (M : Mem) (R : Gam → Mem → Prop) : Prop := ∀ Hi H σ vs, Ok X.K Hi M H → EnvR X.K Hi Γ σ → RepA X.K Hi ds vs → ∀ Q : L2.St → Hp → Prop, (∀ Γ' M' σ' Hi' H', R Γ' M' → Same Hi Hi' → Ok X.K Hi' M' H' → EnvR X.K Hi' Γ' σ' → Q σ' H') → ∃ t, PGs X tgs t ∧ t vs σ H Q
def WGs (X : Cx) (tgs : List Expr) : TGs := fun v σ H Q => ∃ t, PGs X tgs t ∧ t v σ H Q
theorem pgs_wgs : PGs X es (WGs X es) := ⟨fun pins s σ H v u Q I r ⟨t, p, h⟩ => p.run pins s σ H v u Q I r h⟩
theorem ags_nil {R : Gam → Mem → Prop} (h : R Γ M) : aGs X [] [] Γ M R := fun Hi H σ vs ok en r Q q => by
  cases r
  exact ⟨_, pgs_nil, rfl, q _ _ _ Hi H h (Same.refl _) ok en⟩
theorem ags_cons {R : Gam → Mem → Prop} {ds : List Val} (h : aG X e d Γ M fun Γ' M' => aGs X es ds Γ' M' R) (hs : (assignEach (e :: es) X.env).map (·.2) = assign e X.env :: (assignEach es X.env).map (·.2) := by rfl) : aGs X (e :: es) (d :: ds) Γ M R := fun Hi H σ vs ok en r Q q => by
  cases r with
  | cons r1 r2 =>
    refine ⟨_, pgs_cons pg_wg pgs_wgs hs, _, _, rfl, ?_⟩
    refine h Hi H σ _ ok en r1 _ fun Γ' M' σ' Hi' H' h1 s1 ok1 en1 => ?_
    exact h1 Hi' H' σ' _ ok1 en1 (r2.mono s1) Q fun Γ2 M2 σ2 Hi2 H2 h2 s2 ok2 en2 => q _ _ _ Hi2 H2 h2 (s1.trans s2) ok2 en2
theorem ag_tup {kk : Nat} {R : Gam → Mem → Prop} {ds : List Val} (hc : X.calm = true) (h : aGs X es ds Γ M R) (hl : (assignEach es X.env).length = ds.length := by rfl) (hst : (assignEach es X.env).findIdx? (·.1) = none := by rfl) : aG X (.Tuple es kk pos) (.tup ds) Γ M R := fun Hi H σ v ok en r Q q => by
  cases r with
  | tup hq ra => exact ⟨_, pg_tup hc pgs_wgs rfl hst, _, _, rfl, sameT ok.im hq, ra.length.symm.trans hl.symm, h Hi H σ _ ok en ra Q q⟩
theorem as_asg {tg : Expr} (he : aE X e Γ M fun d M' => aG X tg d Γ M' k.nx) (hs : swapsWithSole [tg] e pos.line X.env = pure false := by rfl) (hw : swappedStores [tg] e X.env = pure none := by rfl) (h1 : (assignEach [tg] X.env).map (·.2) = [assign tg X.env] := by rfl) : aS X (.Assign [tg] e pos) Γ M k := fun Hi H σ ok en D q => by
  refine ⟨_, ps_asg pe_we pg_wg hs hw h1, ?_⟩
  refine he Hi H σ ok en _ fun x M1 v Hi1 H1 h1 s1 ok1 r1 => ?_
  exact h1 Hi1 H1 σ v ok1 (en.mono s1) r1 _ fun Γ2 M2 σ2 Hi2 H2 h2 s2 ok2 en2 => q.nx _ _ _ Hi2 H2 h2 (s1.trans s2) ok2 en2
theorem as_set {ps : Pos} (n : Nat) (hN : X.N.Nodup) (he : aE X e Γ M fun d M' => k.nx (Γ.set n (some d)) M') (hi : X.N[n]? = some x := by rfl) (hx : Loc X.env.scope x := by first | exact Or.inl rfl | exact Or.inr rfl)
    (hs : swapsWith e (some (.Name x ps)) pos.line X.env = pure false := by rfl) (hf : X.fn x = true ∨ X.env.scope.names.lookup x = some .local := by first | exact .inl rfl | exact .inr rfl | assumption) : aS X (.Assign [.Name x ps] e pos) Γ M k := fun Hi H σ ok en D q => by
  refine ⟨_, ps_set hN hi hx pe_we hs hf, ?_⟩
  exact he Hi H σ ok en _ fun x M1 v Hi1 H1 h1 s1 ok1 r1 => q.nx _ _ _ Hi1 H1 h1 s1 ok1 ((en.mono s1).set r1)
/-- a, b = e1, e2 -/
theorem as_par {px py pt : Pos} {kt k2 pt2} (n m : Nat) (hN : X.N.Nodup) (hc : X.calm = true) (hnm : n ≠ m) (he : aA X [a, b] Γ M fun ds M' => ∃ d1 d2, ds = [d1, d2] ∧ k.nx ((Γ.set n (some d1)).set m (some d2)) M')
    (hi : X.N[n]? = some x := by rfl) (hj : X.N[m]? = some y := by rfl) (hx : X.env.scope.names.lookup x = some .local := by rfl) (hy : X.env.scope.names.lookup y = some .local := by rfl)
    (hw : swappedStores [.Tuple [.Name x px, .Name y py] kt pt] (.Tuple [a, b] k2 pt2) X.env = pure (some [x, y]) := by rfl)
    (hs : swapsWithSole [.Tuple [.Name x px, .Name y py] kt pt] (.Tuple [a, b] k2 pt2) pos.line X.env = pure false := by rfl) : aS X (.Assign [.Tuple [.Name x px, .Name y py] kt pt] (.Tuple [a, b] k2 pt2) pos) Γ M k := fun Hi H σ ok en D q => by
  refine ⟨_, ps_par hc hN hi hj hnm hx hy pa_wa hw hs, ?_⟩
  refine he Hi H σ ok en _ fun ds M1 vs Hi1 H1 h1 s1 ok1 r1 => ?_
  obtain ⟨d1, d2, rfl, h2⟩ := h1
  cases r1 with
  | cons r1 r2 =>
    cases r2 with
    | cons r2 r3 =>
      cases r3
      exact ⟨_, _, rfl, q.nx _ _ _ Hi1 H1 h2 s1 ok1 (((en.mono s1).set r1).set r2)⟩
/-- x += e, whole numbers -/
theorem as_augI {op : Operator} {g : Int → Int → Int} {ps : Pos} (n : Nat) (hN : X.N.Nodup) (ho : PIp X op (ipI g)) (hΓ : Γ[n]? = some (some (.int i))) (he : aE X e Γ M fun d M' => ∃ j, d = .int j ∧ k.nx (Γ.set n (some (.int (g i j)))) M') (hi : X.N[n]? = some x := by rfl) (hx : Loc X.env.scope x := by first | exact Or.inl rfl | exact Or.inr rfl)
    (hf : X.fn x = true ∨ X.env.scope.names.lookup x = some .local := by first | exact .inl rfl | exact .inr rfl | assumption) : aS X (.AugAssign (.Name x ps) op e pos) Γ M k := fun Hi H σ ok en D q => by
  refine ⟨_, ps_aug hN hi hx pe_we ho hf, ?_⟩
  obtain ⟨v, hv, rv⟩ := en.2 n _ hΓ
  cases rv
  refine ⟨_, hv, ?_⟩
  refine he Hi H σ ok en _ fun x M1 v Hi1 H1 h1 s1 ok1 r1 => ?_
  obtain ⟨j, rfl, h2⟩ := h1
  cases r1
  exact ⟨i, j, rfl, rfl, q.nx _ _ _ Hi1 H1 h2 s1 ok1 ((en.mono s1).set (.int _))⟩
/-- xs[i] = e -/
theorem ag_sub {n : Nat} {p : Addr} {xs : List Val} {jj : Nat} {R : Gam → Mem → Prop} (ha : aV X a Γ M (.ptr p)) (hb : aV X b Γ M (.int i)) (hm : M[n]? = some (p, .lst xs)) (hj : ixN xs.length i = some jj) (h : R Γ (M.set n (p, .lst (xs.set jj d))))
    (hsl : ∀ v, assign (.Subscript a b pos) X.env v = (do
      let ov ← holding [v] (eval a X.env)
      let iv ← holding [v, ov] (eval b X.env)
      standAt pos
      holding [v, ov, iv] (setItem ov iv v)
      release [v, ov, iv] []) := by intro _; rfl) : aG X (.Subscript a b pos) d Γ M R := fun Hi H σ v ok en r Q q => by
  refine ⟨_, pg_sub pe_we pe_we set_list hsl, ?_⟩
  refine ha Hi H σ ok en _ fun x M1 v1 Hi1 H1 h1 s1 ok1 r1 => ?_
  obtain ⟨rfl, rfl⟩ := h1
  refine hb Hi1 H1 σ ok1 (en.mono s1) _ fun y M2 w Hi2 H2 h2 s2 ok2 r2 => ?_
  obtain ⟨rfl, rfl⟩ := h2
  cases r1
  cases r2
  obtain ⟨_, o, ho, ys, rfl, ra⟩ := ok2.get hm
  have s12 := s1.trans s2
  exact ⟨p, ys, i, jj, rfl, rfl, ho, by rw [← ra.length]; exact hj, q _ _ _ Hi2 _ h s12 (ok2.set hm ⟨_, rfl, ra.set (r.mono s12) jj⟩) (en.mono s12)⟩

/-! ### fields stored -/
theorem as_fld {C : Addr} {ps : Pos} (c : Cls X.K C) (na : NoAttr X.K C f) (he : aE X e Γ M fun d M' => aE X a Γ M' fun o M2 => ∃ n p fs, o = .ptr p ∧ M2[n]? = some (p, .ins C fs) ∧ fs.length < 1000 ∧ k.nx Γ (M2.set n (p, .ins C (putV f d fs))))
    (hs : swapsWith e (some (.Attribute a f ps)) pos.line X.env = pure false := by rfl) : aS X (.Assign [.Attribute a f ps] e pos) Γ M k := fun Hi H σ ok en D q => by
  refine ⟨_, ps_fld pe_we pe_we hs, ?_⟩
  refine he Hi H σ ok en _ fun d M1 v Hi1 H1 h1 s1 ok1 r1 => ?_
  refine h1 Hi1 H1 σ ok1 (en.mono s1) _ fun o M2 w Hi2 H2 h2 s2 ok2 r2 => ?_
  obtain ⟨n, p, fs, rfl, hm, hl, hk⟩ := h2
  cases r2
  obtain ⟨_, o, ho, dx, gs, rfl, rf⟩ := ok2.get hm
  refine ⟨p, C, dx, gs, rfl, ho, c, na, by rw [← rf.length]; exact hl, ?_⟩
  have s12 := s1.trans s2
  exact q.nx _ _ σ Hi2 _ hk s12 (ok2.set hm ⟨dx, _, rfl, rf.put (r1.mono s2)⟩) (en.mono s12)

/-! ### append -/
theorem ae_append {n0 : Nat} {p : Addr} {xs0 : List Val} (ha : aV X a Γ M (.ptr p)) (hm0 : M[n0]? = some (p, .lst xs0)) (he : aE X e Γ M fun y M2 => ∃ n xs, M2[n]? = some (p, .lst xs) ∧ xs.length < sizeLine ∧ P .non (M2.set n (p, .lst (xs ++ [y]))))
    (hbase : attributeBase a "append" X.env (eval a X.env) = eval a X.env := by rfl)
    (hfew : ((backTo pos (starEach [e] X.env)).all (fun x => !x.1) && (backToKw pos (keywordEach [] X.env)).all (fun x => x.1.isSome)
      && decide (([e] : List Expr).length + ([] : List Keyword).length + (if ([] : List Keyword).isEmpty then 0 else 1) < 30)) = true := by rfl)
    (hline : (apos.endLine == pos.line) = true := by rfl) (hs : starEach [e] X.env = (false, eval e X.env) :: starEach [] X.env := by rfl) : aE X (.Call (.Attribute a "append" apos) [e] [] pos) Γ M P := fun Hi H σ ok en Q q => by
  refine ⟨_, pe_bm PySem.F.plainAttrs_list PySem.F.slot_list_append PySem.F.type_list_append mt_append pe_we (pa_cons pe_we pa_nil hs) hbase hfew hline hs rfl, ?_⟩
  refine ha Hi H σ ok en _ fun d M1 v Hi1 H1 h1 s1 ok1 r1 => ?_
  obtain ⟨rfl, rfl⟩ := h1
  cases r1
  obtain ⟨_, o, ho, ys, rfl, ra⟩ := ok1.get hm0
  refine ⟨.inl ⟨rfl, _, SqL.of ho⟩, ?_⟩
  refine he Hi1 H1 σ ok1 (en.mono s1) _ fun y M2 w Hi2 H2 h2 s2 ok2 r2 => ?_
  obtain ⟨n, xs, hm, hl, hp⟩ := h2
  obtain ⟨_, o, ho2, zs, rfl, rz⟩ := ok2.get hm
  exact ⟨p, zs, w, rfl, rfl, ho2, by rw [← rz.length]; exact hl, q _ _ _ Hi2 _ hp (s1.trans s2) (ok2.set hm ⟨_, rfl, rz.append (.cons r2 .nil)⟩) .non⟩

/-! ### loops -/
def WI (X : Cx) (tg iter : Expr) : TI := fun σ H R => ∃ t, PI X tg iter t ∧ t σ H R
theorem pi_wi {tg iter : Expr} : PI X tg iter (WI X tg iter) := ⟨fun pins s σ H R I ⟨t, p, h⟩ => p.run pins s σ H R I h⟩
/-- n turns, the i-th gives it i; while G holds of the cells -/
def aI (X : Cx) (tg iter : Expr) (Γ : Gam) (M : Mem) (n : Nat) (it : Nat → Val) (G : Mem → Prop) (P : Mem → Prop) : Prop := ∀ Hi H σ, Ok X.K Hi M H → EnvR X.K Hi Γ σ → ∀ R : It → Hp → Prop,
  (∀ J M1 Hi1 H1, P M1 → Same Hi Hi1 → Ok X.K Hi1 M1 H1 →
    Walk J n (fun H' => ∃ Hi' M', Same Hi1 Hi' ∧ Ok X.K Hi' M' H' ∧ G M') (fun i H' v H'' => ∀ Hi' M', Same Hi1 Hi' → Ok X.K Hi' M' H' → G M' → ∃ Hi'', Same Hi' Hi'' ∧ Ok X.K Hi'' M' H'' ∧ Rep X.K Hi'' (it i) v) → R J H1) → WI X tg iter σ H R
theorem as_for {tg iter : Expr} {body : List Stmt} {n : Nat} {it : Nat → Val} {G : Mem → Prop} (I : Nat → Gam → Mem → Prop) (hp : PassesOwn (model X.prog X.w) X.A X.env X.xe) (hc : X.calm = true) (hi : aI X tg iter Γ M n it G (I 0 Γ)) (hG : ∀ i Γ M, i ≤ n → I i Γ M → G M)
    (hs : ∀ i Γ M, i < n → I i Γ M → aG X tg (it i) Γ M fun Γ2 M2 => aSs X body Γ2 M2 { k with nx := I (i + 1), ct := I (i + 1), bk := k.nx }) (hd : ∀ Γ M, I n Γ M → k.nx Γ M)
    (hf : ∀ x, foldedSetIterable iter X.env x = pure x := by intro _; rfl) : aS X (.For tg iter body [] pos) Γ M k := fun Hi H σ ok en D q => by
  refine ⟨_, ps_for hp hc pi_wi pg_wg pss_wb hf, ?_⟩
  refine hi Hi H σ ok en _ fun J M1 Hi1 H1 h1 s1 ok1 w => ?_
  refine for_it w (fun i σ' H' => ∃ Γ' M' Hi', I i Γ' M' ∧ Same Hi1 Hi' ∧ Ok X.K Hi' M' H' ∧ EnvR X.K Hi' Γ' σ') ⟨Γ, M1, Hi1, h1, Same.refl _, ok1, en.mono s1⟩ ?_ ?_ ?_
  · rintro i σ' H' hi ⟨Γ', M', Hi', h2, s2, ok2, en2⟩
    exact ⟨Hi', M', s2, ok2, hG i Γ' M' hi h2⟩
  · rintro i v σ' H' H'' hi ⟨Γ', M', Hi', h2, s2, ok2, en2⟩ hy
    obtain ⟨Hi3, s3, ok3, r3⟩ := hy Hi' M' s2 ok2 (hG i Γ' M' (Nat.le_of_lt hi) h2)
    have s13 := (s1.trans s2).trans s3
    refine hs i Γ' M' hi h2 Hi3 H'' σ' v ok3 (en2.mono s3) r3 _ fun Γ4 M4 σ4 Hi4 H4 h4 s4 ok4 en4 => ?_
    have s24 := (s2.trans s3).trans s4
    exact h4 Hi4 H4 σ4 ok4 en4 _ ⟨fun Γ5 M5 σ5 Hi5 H5 h5 s5 ok5 en5 => ⟨Γ5, M5, Hi5, h5, s24.trans s5, ok5, en5⟩, (q.up (s13.trans s4)).rt, (q.up (s13.trans s4)).nx, fun Γ5 M5 σ5 Hi5 H5 h5 s5 ok5 en5 => ⟨Γ5, M5, Hi5, h5, s24.trans s5, ok5, en5⟩⟩
  · rintro σ' H' ⟨Γ', M', Hi', h2, s2, ok2, en2⟩
    exact q.nx Γ' M' σ' Hi' H' (hd Γ' M' h2) (s1.trans s2) ok2 en2
theorem as_while {body : List Stmt} (I : Nat → Gam → Mem → Prop) (n : Nat) (hp : PassesOwn (model X.prog X.w) X.A X.env X.xe) (h0 : I n Γ M)
    (hs : ∀ n Γ M, I n Γ M → aT X c Γ M fun b M1 => (b = true → aSs X body Γ M1 { k with nx := fun Γ' M' => ∃ m, m < n ∧ I m Γ' M', ct := fun Γ' M' => ∃ m, m < n ∧ I m Γ' M', bk := k.nx }) ∧ (b = false → k.nx Γ M1)) : aS X (.While c body [] pos) Γ M k := fun Hi H σ ok en D q => by
  refine ⟨_, ps_while hp pt_wt pss_wb, ?_⟩
  refine ⟨fun m σ' H' => ∃ Γ' M' Hi', I m Γ' M' ∧ Same Hi Hi' ∧ Ok X.K Hi' M' H' ∧ EnvR X.K Hi' Γ' σ', ⟨n, Γ, M, Hi, h0, Same.refl _, ok, en⟩, ?_⟩
  rintro m σ' H' ⟨Γ', M', Hi', h2, s2, ok2, en2⟩
  refine hs m Γ' M' h2 Hi' H' σ' ok2 en2 _ fun b M3 Hi3 H3 h3 s3 ok3 => ?_
  cases b with
  | true =>
    refine iteT ⟨fun σ5 H5 => ∃ Γ5 M5 Hi5, (∃ m', m' < m ∧ I m' Γ5 M5) ∧ Same Hi3 Hi5 ∧ Ok X.K Hi5 M5 H5 ∧ EnvR X.K Hi5 Γ5 σ5, ?_, ?_⟩
    · rintro σ5 H5 ⟨Γ5, M5, Hi5, ⟨m', hl, h5⟩, s5, ok5, en5⟩
      exact ⟨m', hl, Γ5, M5, Hi5, h5, (s2.trans s3).trans s5, ok5, en5⟩
    · have q3 := q.up (s2.trans s3)
      exact h3.1 rfl Hi3 H3 σ' ok3 (en2.mono s3) _ ⟨fun Γ5 M5 σ5 Hi5 H5 h5 s5 ok5 en5 => ⟨Γ5, M5, Hi5, h5, s5, ok5, en5⟩, q3.rt, q3.nx, fun Γ5 M5 σ5 Hi5 H5 h5 s5 ok5 en5 => ⟨Γ5, M5, Hi5, h5, s5, ok5, en5⟩⟩
  | false => exact iteF (q.nx Γ' M3 σ' Hi3 H3 (h3.2 rfl) (s2.trans s3) ok3 (en2.mono s3))

/-! ### what is walked -/
theorem Sq.at {K : PySem.W.Frag} {H : Hp} {ds : List Val} {vs : List V} {i : Nat} {v : V} (r : RepA K H ds vs) (h : vs[i]? = some v) : Rep K H (ds.getD i .non) v := by
  obtain ⟨d, h1, h2⟩ := r.getV h
  rw [List.getD_eq_getElem?_getD, h1]
  exact h2
theorem ai_lst {tg : Expr} {R : Mem → Prop} {xs : List Val} (ha : aE X a Γ M fun d M' => d = .lst xs ∧ R M') : aI X tg a Γ M xs.length (fun i => xs.getD i .non) (fun _ => True) R := fun Hi H σ ok en R' q => by
  refine ⟨_, pi_list pe_we, ?_⟩
  refine ha Hi H σ ok en _ fun d M1 v Hi1 H1 h1 s1 ok1 r1 => ?_
  obtain ⟨rfl, hp⟩ := h1
  cases r1 with
  | @lst p ys _ hq ra =>
    refine ⟨p, rfl, ⟨ys, ok1.im.seq hq⟩, q _ M1 Hi1 H1 hp s1 ok1 ?_⟩
    rw [ra.length]
    refine walk_list.mono (fun H' hG => ?_) fun i H' v H'' hi hG hy Hi' M' s2 ok2 _ => ?_
    · obtain ⟨Hi', M', s2, ok2, _⟩ := hG
      exact ok2.im.seq (s2.seq hq)
    · obtain ⟨rfl, hv⟩ := hy
      exact ⟨Hi', Same.refl _, ok2, (Sq.at ra hv).mono s2⟩
theorem ai_tup {tg : Expr} {R : Mem → Prop} {xs : List Val} (ha : aE X a Γ M fun d M' => d = .tup xs ∧ R M') : aI X tg a Γ M xs.length (fun i => xs.getD i .non) (fun _ => True) R := fun Hi H σ ok en R' q => by
  refine ⟨_, pi_tup pe_we, ?_⟩
  refine ha Hi H σ ok en _ fun d M1 v Hi1 H1 h1 s1 ok1 r1 => ?_
  obtain ⟨rfl, hp⟩ := h1
  cases r1 with
  | @tup p ys _ hq ra =>
    refine ⟨p, rfl, ⟨ys, sameT ok1.im hq⟩, q _ M1 Hi1 H1 hp s1 ok1 ?_⟩
    rw [ra.length]
    refine walk_tup.mono (fun H' hG => ?_) fun i H' v H'' hi hG hy Hi' M' s2 ok2 _ => ?_
    · obtain ⟨Hi', M', s2, ok2, _⟩ := hG
      exact sameT ok2.im (sameT s2 hq)
    · obtain ⟨rfl, hv⟩ := hy
      exact ⟨Hi', Same.refl _, ok2, (Sq.at ra hv).mono s2⟩
theorem ai_range1 {tg : Expr} {R : Mem → Prop} {n : Nat} (hm : X.mg "range" = none) (ha : aE X a Γ M fun d M' => ∃ j : Int, d = .int j ∧ j.toNat = n ∧ -(2 ^ 62) ≤ j ∧ j < 2 ^ 62 ∧ R M') (hg : Gl X "range" := by rfl) (hs : starEach [a] X.env = [(false, eval a X.env)] := by rfl) :
    aI X tg (.Call (.Name "range" p1) [a] [] pos) Γ M n (fun i => .int (0 + i)) (fun _ => True) R := fun Hi H σ ok en R' q => by
  refine ⟨_, pi_range1 hg hm (pa_cons pe_we pa_nil hs) hs, ?_⟩
  refine ha Hi H σ ok en _ fun d M1 v Hi1 H1 h1 s1 ok1 r1 => ?_
  obtain ⟨j, rfl, rfl, hl, hh, hp⟩ := h1
  cases r1
  refine ⟨j, rfl, hl, hh, q _ M1 Hi1 H1 hp s1 ok1 ?_⟩
  refine walk_range.mono (fun _ _ => trivial) fun i H' v H'' hi hG hy Hi' M' s2 ok2 _ => ?_
  obtain ⟨rfl, rfl⟩ := hy
  exact ⟨Hi', Same.refl _, ok2, .int _⟩
theorem ai_range2 {tg : Expr} {R : Mem → Prop} {n : Nat} {lo : Int} (hm : X.mg "range" = none) (ha : aA X [a, b] Γ M fun ds M' => ∃ hi : Int, ds = [.int lo, .int hi] ∧ (hi - lo).toNat = n ∧ (-(2 ^ 62) ≤ lo ∧ lo < 2 ^ 62 ∧ -(2 ^ 62) ≤ hi ∧ hi < 2 ^ 62) ∧ R M') (hg : Gl X "range" := by rfl)
    (hs : starEach [a, b] X.env = [(false, eval a X.env), (false, eval b X.env)] := by rfl) (hs2 : starEach [b] X.env = [(false, eval b X.env)] := by rfl) :
    aI X tg (.Call (.Name "range" p1) [a, b] [] pos) Γ M n (fun i => .int (lo + i)) (fun _ => True) R := fun Hi H σ ok en R' q => by
  refine ⟨_, pi_range2 hg hm pa_wa hs hs2, ?_⟩
  refine ha Hi H σ ok en _ fun d M1 v Hi1 H1 h1 s1 ok1 r1 => ?_
  obtain ⟨hi, rfl, rfl, hb, hp⟩ := h1
  cases r1 with
  | cons r1 r2 =>
    cases r2 with
    | cons r2 r3 =>
      cases r3
      cases r1
      cases r2
      refine ⟨lo, hi, rfl, hb, q _ M1 Hi1 H1 hp s1 ok1 ?_⟩
      refine walk_range.mono (fun _ _ => trivial) fun i H' v H'' hi hG hy Hi' M' s2 ok2 _ => ?_
      obtain ⟨rfl, rfl⟩ := hy
      exact ⟨Hi', Same.refl _, ok2, .int _⟩
theorem ai_enumL {elts : List Expr} {kk : Nat} {tpos : Pos} {R : Mem → Prop} {xs : List Val} (hm : X.mg "enumerate" = none) (ha : aE X a Γ M fun d M' => d = .lst xs ∧ R M') (hg : Gl X "enumerate" := by rfl) (hs : starEach [a] X.env = [(false, eval a X.env)] := by rfl) :
    aI X (.Tuple elts kk tpos) (.Call (.Name "enumerate" p1) [a] [] pos) Γ M xs.length (fun i => .tup [.int i, xs.getD i .non]) (fun _ => True) R := fun Hi H σ ok en R' q => by
  refine ⟨_, pi_enum hg hm (pa_cons pe_we pa_nil hs) hs, ?_⟩
  refine ha Hi H σ ok en _ fun d M1 v Hi1 H1 h1 s1 ok1 r1 => ?_
  obtain ⟨rfl, hp⟩ := h1
  cases r1 with
  | @lst p ys _ hq ra =>
    refine ⟨p, ys, rfl, ok1.im.seq hq, q _ M1 Hi1 H1 hp s1 ok1 ?_⟩
    rw [ra.length]
    refine walk_enum.mono (fun H' hG => ?_) fun i H' v H'' hi hG hy Hi' M' s2 ok2 _ => ?_
    · obtain ⟨Hi', M', s2, ok2, _⟩ := hG
      exact ok2.im.seq (s2.seq hq)
    · obtain ⟨T, x, y, rfl, hT, rfl, hx, hy⟩ := hy
      cases hx
      have s3 := same_upd (o := .tup [.int (i : Nat), y]) (ok2.none hT)
      exact ⟨_, s3, ok2.imm hT, .tup (SqT.of upd_same) (.cons (.int _) (.cons ((Sq.at ra hy).mono (s2.trans s3)) .nil))⟩
end
end Ab

namespace Ab
open PySem PySem.Spec PyProof.Rows L2

/-! ### promises -/
/-- positional arguments, cells, what follows -/
abbrev ASp := List Val → Mem → (Val → Mem → Prop) → Prop
/-- .. and the keywords' values -/
abbrev ASx := List Val → List Val → Mem → (Val → Mem → Prop) → Prop
def spA (K : PySem.W.Frag) (s : ASp) : Sp := fun vs H Q _ => ∃ Hi M ds P, RepA K Hi ds vs ∧ Ok K Hi M H ∧ s ds M P ∧ Post K Hi P Q
def spX (K : PySem.W.Frag) (s : ASx) (vs zs : List V) (H : Hp) (Q : VK) : Prop := ∃ Hi M ds es P, RepA K Hi ds vs ∧ RepA K Hi es zs ∧ Ok K Hi M H ∧ s ds es M P ∧ Post K Hi P Q
/-- the end of a def: cells of its own are forgotten, or will change no more -/
inductive Ret (P : Val → Mem → Prop) : Val → Mem → Prop
  | ok {d : Val} {M : Mem} : P d M → Ret P d M
  | drop {d : Val} {M : Mem} {c : Addr × Cell} : Ret P d M → Ret P d (c :: M)
  | frz {p : Addr} {xs : List Val} {M : Mem} : Ret P (.lst xs) M → Ret P (.ptr p) ((p, .lst xs) :: M)
  | obj {p C : Addr} {fs : List (Str × Val)} {M : Mem} : Ret P (.obj C fs) M → Ret P (.ptr p) ((p, .ins C fs) :: M)
theorem Ret.post {K : PySem.W.Frag} {P : Val → Mem → Prop} {Q : VK} {d : Val} {M : Mem} (h : Ret P d M) : ∀ {Hi Hi' H' : Hp} {v : V}, Post K Hi P Q → Same Hi Hi' → Ok K Hi' M H' → Rep K Hi' d v → Q v H' := by
  induction h with
  | ok hp => exact fun q s ok r => q _ _ _ _ _ hp s ok r
  | drop _ ih => exact fun q s ok r => ih q s (Ok.tail ok) r
  | frz _ ih =>
    intro Hi Hi' H' v q s ok r
    obtain ⟨e0, o, ho, vs, rfl, ra⟩ := ok.ce _ _ List.mem_cons_self
    cases r
    have s2 := same_upd (o := .lst vs) e0
    exact ih q (s.trans s2) (ok.freeze ho) (.lst (SqL.of upd_same) (ra.mono s2))
  | @obj p C fs M _ ih =>
    intro Hi Hi' H' v q s ok r
    obtain ⟨e0, o, ho, dx, gs, rfl, ra⟩ := ok.ce _ _ List.mem_cons_self
    cases r
    have s2 := same_upd (o := .ins C dx gs) e0
    exact ih q (s.trans s2) (ok.freeze ho) (.obj upd_same (ra.mono s2))

/-- the slots at a def's entry -/
def gam (N : List Str) (ds : List Val) : Gam := ds.map some ++ List.replicate (N.length - ds.length) none
theorem env_start {K : PySem.W.Frag} {H : Hp} {N : List Str} {ds : List Val} {vs : List V} (r : RepA K H ds vs) : EnvR K H (gam N ds) (L2.start N vs) := by
  refine ⟨by simp [gam, L2.start, r.length], fun i d h => ?_⟩
  unfold gam at h
  unfold L2.start
  by_cases hi : i < ds.length
  · rw [List.getElem?_append_left (by simpa using hi), List.getElem?_map] at h
    obtain ⟨d', h1, h2⟩ := Option.map_eq_some_iff.mp h
    cases h2
    obtain ⟨v, h3, h4⟩ := r.get h1
    refine ⟨v, ?_, h4⟩
    rw [List.getElem?_append_left (by rw [List.length_map, ← r.length]; exact hi), List.getElem?_map, h3]
    rfl
  · rw [List.getElem?_append_right (by simpa using Nat.le_of_not_lt hi)] at h
    have := List.mem_of_getElem? h
    rw [List.mem_replicate] at this
    cases this.2
abbrev kOf (P : Val → Mem → Prop) : AK := { nx := fun _ M => Ret P .non M, rt := Ret P }
/-- the context of a def's body -/
abbrev bcx (P : Program) (w : World) (K : PySem.W.Frag) (mg : Str → Option Value) (base : Heap) (N : List Str) (qual : Str) (sc : Scope) (f : Addr) (cdv : Value) (A : Around) (outer : List Env) (s : Shared) (H : Hp) (E : XK) : Cx := (cxOf CX0 P w K mg base N qual sc f cdv A outer s H E).nox
/-- room for k calls, nothing guarded -/
structure Rm (k : Nat) (A : Around) : Prop where
  room : Room k A
  gd : A.guards = some []
theorem Rm.mono {j k : Nat} {A : Around} (r : Rm k A) (h : j ≤ k) : Rm j A := ⟨r.room.mono h, r.gd⟩
theorem Rm.deeper {k : Nat} {A : Around} (r : Rm (k + 1) A) (env : Env) : Rm k (A.deeper env) := ⟨r.room.deeper env, r.gd⟩
theorem Rm.in1 {k : Nat} {A : Around} (r : Rm (k + 1) A) : Rm k A.in1 := ⟨r.room.in1, r.gd⟩
theorem Rm.make {k : Nat} {A : Around} (r : Rm (k + 1) A) (C : Addr) (us : List Value) (kw : List (Str × Value)) : Rm k (A.under (.builtin "type.__call__" ⟨.ref C :: us, kw⟩)) := ⟨r.room.make C us kw, by
  show pushGuards (Code.builtin "type.__call__" ⟨.ref C :: us, kw⟩).guards A.guards = some []
  rw [r.gd]
  first | rfl | simp [Code.guards, pushGuards]⟩
theorem Rm.u1 {k : Nat} {A : Around} (r : Rm k A) : A.units + 1 < cLine := hu_of r.room
theorem Rm.u64 {k : Nat} {A : Around} (r : Rm k A) : A.units + 64 < cLine := Nat.lt_of_le_of_lt (by omega) r.room.un
section
variable {P : Program} {w : World} {K : PySem.W.Frag} {mg : Str → Option Value} {base : Heap}
theorem body_of {N : List Str} {qual : Str} {sc : Scope} {f : Addr} {cdv : Value} {A : Around} {outer : List Env} {s : Shared} {H : Hp} {E : XK} {body : List Stmt} {s0 : ASp} {vs : List V} {Q : VK}
    (hb : ∀ ds M R, s0 ds M R → aSs (bcx P w K mg base N qual sc f cdv A outer s H E) body (gam N ds) M (kOf R)) (h : spA K s0 vs H Q E) :
    ∃ t, PSs (bcx P w K mg base N qual sc f cdv A outer s H E) body t ∧ t { nx := fun _ H' => Q .non H', rt := Q } (L2.start N vs) H := by
  obtain ⟨Hi, M, ds, R, r, ok, hs, q⟩ := h
  refine hb ds M R hs Hi H _ ok (env_start r) _ ⟨fun Γ M' σ Hi' H' h1 s1 ok1 _ => h1.post q s1 ok1 .non, fun d M' v Hi' H' h1 s1 ok1 r1 => h1.post q s1 ok1 r1, fun _ _ _ _ _ z => z.elim, fun _ _ _ _ _ z => z.elim⟩
/-- a def by its call: ks the keywords of the call -/
structure FnX (P : Program) (w : World) (K : PySem.W.Frag) (mg : Str → Option Value) (base : Heap) (k : Nat) (f : Addr) (ks : List Str) (sp : List V → List V → Hp → VK → Prop) : Prop where
  run : ∀ (A : Around) (outer : List Env) (s : Shared) (H : Hp) (us ws : List Value) (vs zs : List V) (Q : VK), Rm k A → Env0 P w K mg base A outer s H → Vals vs us → Vals zs ws → zs.length = ks.length → sp vs zs H Q →
    codeAny (model P w) A (.call (.ref f) ⟨us, ks.zip ws⟩) (CR CX0 outer P w H s Q E0) s
theorem FnX.mono {j k : Nat} {f : Addr} {ks : List Str} {sp : List V → List V → Hp → VK → Prop} (F : FnX P w K mg base j f ks sp) (h : j ≤ k) : FnX P w K mg base k f ks sp := ⟨fun A outer s H us ws vs zs Q hr => F.run A outer s H us ws vs zs Q (hr.mono h)⟩
/-- what a def's body must do, in every context in which it may be called -/
abbrev BodyOk (P : Program) (w : World) (K : PySem.W.Frag) (mg : Str → Option Value) (base : Heap) (k : Nat) (f : Addr) (N : List Str) (qual : Str) (sc : Scope) (body : List Stmt) (s0 : ASp) : Prop :=
  ∀ cdv A outer s H E, Rm k (A.deeper (envOfC qual sc s.heap.objs.size f cdv)) → ∀ ds M R, s0 ds M R → aSs (bcx P w K mg base N qual sc f cdv A outer s H E) body (gam N ds) M (kOf R)
theorem fnx_kbn {x qual : Str} {params : Arguments} {body : List Stmt} {sc : Scope} {dvs : List V} {kws : List (Str × V)} {f : Addr} {fd : FuncData} {N ps ks : List Str} {k n : Nat} {s0 : ASp} {g : List Value → List Value → List Value} {gV : List V → List V → List V} (gA : List Val → List Val → List Val)
    (F : FunD K x qual params body sc dvs kws f fd) (S : FnScope N ps sc) (b : KBn K fd ps n ks g gV)
    (hrel : ∀ H ds vs es zs, RepA K H ds vs → RepA K H es zs → ds.length = n → es.length = ks.length → RepA K H (gA ds es) (gV vs zs)) (len : ∀ ds M R, s0 ds M R → ds.length = ps.length)
    (hb : BodyOk P w K mg base k f N qual sc body s0) : FnX P w K mg base (k + 1) f ks (spX K fun ds es M R => ds.length = n ∧ s0 (gA ds es) M R) := by
  refine ⟨fun A outer s H us ws vs zs Q hr e0 r rz hz ⟨Hi, M, ds, es, R, ra, re, ok, ⟨hn, hs⟩, q⟩ => ?_⟩
  obtain ⟨oc, od, dV, kV, doc, pm, an, cdv, ct, osl, rfl, lk, hcd, _, _⟩ := F.ex
  have KX : K.In s.heap := e0.mod.kin.keeps fun b o e => (e0.bs b o e).1
  have hbt := b.to s us ws KX (by rw [← r.length, ← ra.length]; exact hn) (by rw [← rz.length]; exact hz)
  have rg := hrel Hi ds vs es zs ra re hn (re.length.trans hz)
  have hl : (gV vs zs).length = ps.length := rg.length.symm.trans (len _ _ _ hs)
  refine StX.run_bnd (CX := CX0) (E := E0) (G := fun vs' H2 => vs' = gV vs zs ∧ H2 = H) lk hcd S hr.room e0 (fun A' Ex Q' h => ?_) fun s2 H2 vs' hG hr' => ?_
  · exact hbt _ _ _ _ (h s H (gV vs zs) (g us ws) e0 Un.refl rfl (fun _ _ z => z) (b.rel r rz) hl ⟨rfl, rfl⟩)
  · obtain ⟨rfl, rfl⟩ := hG
    obtain ⟨t, p, z⟩ := body_of (hb cdv A outer s2 H2 E0 (hr.deeper _)) (Q := Q) (vs := gV vs zs) ⟨Hi, M, gA ds es, R, rg, ok, hs, q⟩
    exact ⟨t, p.nox, z⟩
theorem kbn_pos {fd : FuncData} {ps : List Str} (b : Binds K fd ps []) : KBn K fd ps ps.length [] (fun us _ => us) (fun vs _ => vs) := ⟨fun s us ws KX hl hw => by
  have h := b s us KX (by simpa using hl)
  rw [List.append_nil] at h
  have e : ws = [] := List.length_eq_zero_iff.mp hw
  subst e
  exact h, fun r _ => r⟩
theorem fun_d {x qual : Str} {st : Stmt} {f : Addr} {fd : FuncData} (F : Fun K x qual st f fd) : FunD K x qual (defArgs st) (defBody st) (defScope st) [] [] f fd := by
  obtain ⟨⟨oc, od, kV, doc, pm, an, cdv, ct, osl, rfl, lk, hcd⟩, kp⟩ := F
  exact ⟨⟨oc, od, .none, kV, doc, pm, an, cdv, ct, osl, rfl, lk, hcd, .inl ⟨rfl, rfl⟩, .inl rfl⟩, kp⟩
/-- a def without defaults, called by positions -/
theorem fnx_pos {x qual : Str} {st : Stmt} {f : Addr} {fd : FuncData} {N ps : List Str} {k : Nat} {s0 : ASp} (F : Fun K x qual st f fd) (b : Binds K fd ps []) (S : FnScope N ps (defScope st)) (len : ∀ ds M R, s0 ds M R → ds.length = ps.length)
    (hb : BodyOk P w K mg base k f N qual (defScope st) (defBody st) s0) : FnX P w K mg base (k + 1) f [] (spX K fun ds _ => s0 ds) := by
  have F1 := fnx_kbn (fun ds _ => ds) (fun_d F) S (kbn_pos b) (fun H ds vs es zs r _ _ _ => r) len hb
  exact ⟨fun A outer s H us ws vs zs Q hr e0 r rz hz ⟨Hi, M, ds, es, R, ra, re, ok, hs, q⟩ => F1.run A outer s H us ws vs zs Q hr e0 r rz hz ⟨Hi, M, ds, es, R, ra, re, ok, ⟨len _ _ _ hs, hs⟩, q⟩⟩
end

/-! ### calls -/
section
variable {X : Cx} {Γ : Gam} {M : Mem} {P : Val → Mem → Prop} {e a b c o : Expr} {es : List Expr} {kws : List Keyword} {pos p1 p2 apos kpos : Pos} {k : AK} {d d1 d2 d3 : Val} {i j : Int} {x y m : Str} {n : Nat} {f C : Addr} {ks : List Str} {sx : ASx} {nm : Option Str}
theorem run_x {pins : List (Addr × Obj)} {σ : L2.St} {H : Hp} {s : Shared} {Q : VK} {us ws : List Value} {vs zs : List V} {sp : List V → List V → Hp → VK → Prop} (F : FnX X.prog X.w X.K X.mg X.base n f ks sp) (hr : Rm n X.A)
    (I : Inv X pins σ H s) (r : Vals vs us) (rz : Vals zs ws) (l2 : zs.length = ks.length) (h : sp vs zs H Q) : wpAny (model X.prog X.w) X.A (call (.ref f) us (ks.zip ws)) (EP X pins σ Q) X.xe s := by
  refine wpAny_call (codeAny_mono (F.run X.A X.stack s H us ws vs zs Q hr I.env0 r rz l2 h) fun r s' hq => ?_)
  cases r with
  | error e => exact False.elim hq
  | ok fl =>
    cases fl with
    | ret u => exact I.after hq
    | next => exact False.elim hq
    | brk => exact False.elim hq
    | cont => exact False.elim hq
def aKw (X : Cx) (kws : List Keyword) (Γ : Gam) (M : Mem) (P : List Val → Mem → Prop) : Prop := ∀ Hi H σ, Ok X.K Hi M H → EnvR X.K Hi Γ σ → ∀ Q, PostA X.K Hi P Q → ∃ t, PK X kws t ∧ t σ H Q
def WK (X : Cx) (kws : List Keyword) : TA := fun σ H Q => ∃ t, PK X kws t ∧ t σ H Q
theorem pk_wk : PK X kws (WK X kws) := ⟨fun pos pins s σ H Q I ⟨t, p, h⟩ => p.run pos pins s σ H Q I h⟩
theorem ak_nil {P : List Val → Mem → Prop} (h : P [] M) : aKw X [] Γ M P := fun Hi H σ ok en Q q => ⟨_, pk_nil, q _ _ _ Hi H h (Same.refl _) ok .nil⟩
theorem ak_cons {P : List Val → Mem → Prop} (h : aE X e Γ M fun x M1 => aKw X kws Γ M1 fun xs M2 => P (x :: xs) M2) : aKw X (⟨nm, e, kpos⟩ :: kws) Γ M P := fun Hi H σ ok en Q q => by
  refine ⟨_, pk_cons pe_we pk_wk, ?_⟩
  refine h Hi H σ ok en _ fun x M1 v Hi1 H1 h1 s1 ok1 r1 => ?_
  exact h1 Hi1 H1 σ ok1 (en.mono s1) _ fun xs M2 vs Hi2 H2 h2 s2 ok2 r2 => q _ _ _ Hi2 H2 h2 (s1.trans s2) ok2 (.cons (r1.mono s2) r2)
/-- f(e, .., k = v, ..) -/
theorem ae_call (F : FnX X.prog X.w X.K X.mg X.base n f ks (spX X.K sx)) (hr : Rm n X.A) (hm : X.mg x = some (.ref f)) (hk : PySem.W.keepIn X.K (.ref f) = true) (h : aA X (e :: es) Γ M fun ds M1 => aKw X kws Γ M1 fun zs M2 => zs.length = ks.length ∧ sx ds zs M2 P)
    (hg : Gl X x := by rfl) (hall : (backToKw pos (keywordEach kws X.env)).all (·.1.isSome) = true := by rfl) (hks : (backToKw pos (keywordEach kws X.env)).filterMap (·.1) = ks := by rfl) (hdb : (x == ("__debug__" : Str)) = false := by decide)
    (he : starEach (e :: es) X.env = (false, eval e X.env) :: starEach es X.env := by rfl) (hpl : ((backTo pos (starEach (e :: es) X.env)).any (·.1) || (backToKw pos (keywordEach kws X.env)).any (·.1.isNone)) = false := by rfl) : aE X (.Call (.Name x p1) (e :: es) kws pos) Γ M P := fun Hi H σ ok en Q q => by
  refine ⟨fun σ H Q => WA X (e :: es) σ H fun vs H1 => WK X kws σ H1 fun zs H2 => zs.length = ks.length ∧ spX X.K sx vs zs H2 Q, ⟨fun pins s σ H Q I h => ?_⟩, ?_⟩
  · refine wpAny_Call_Name_kw (ld_glob I hg hm ?_ hdb)
    refine PySem.W.callWith_KW (h₀ := X.base) I.ok.mod.kin hk hall (thn (pa_wa.run pos pins s σ H _ I h) fun us s1 ⟨vs, H1, I1, r, q⟩ => ?_) hpl he
    refine thn (pk_wk.run pos pins s1 σ H1 _ I1 q) fun ws s2 ⟨zs, H2, I2, rz, l2, q2⟩ => ⟨I2.kIn, ?_⟩
    rw [hks]
    exact run_x F hr I2 r rz l2 q2
  · refine h Hi H σ ok en _ fun ds M1 vs Hi1 H1 h1 s1 ok1 r1 => ?_
    refine h1 Hi1 H1 σ ok1 (en.mono s1) _ fun zs M2 ws Hi2 H2 h2 s2 ok2 r2 => ?_
    exact ⟨r2.length.symm.trans h2.1, Hi2, M2, ds, zs, P, r1.mono s2, r2, ok2, h2.2, q.up (s1.trans s2)⟩
theorem ae_call0 (F : FnX X.prog X.w X.K X.mg X.base n f ks (spX X.K sx)) (hr : Rm n X.A) (hm : X.mg x = some (.ref f)) (hk : PySem.W.keepIn X.K (.ref f) = true) (h : aKw X kws Γ M fun zs M2 => zs.length = ks.length ∧ sx [] zs M2 P)
    (hg : Gl X x := by rfl) (hall : (backToKw pos (keywordEach kws X.env)).all (·.1.isSome) = true := by rfl) (hks : (backToKw pos (keywordEach kws X.env)).filterMap (·.1) = ks := by rfl) (hdb : (x == ("__debug__" : Str)) = false := by decide)
    (hpl : ((backTo pos (starEach [] X.env)).any (·.1) || (backToKw pos (keywordEach kws X.env)).any (·.1.isNone)) = false := by rfl) : aE X (.Call (.Name x p1) [] kws pos) Γ M P := fun Hi H σ ok en Q q => by
  refine ⟨fun σ H Q => WK X kws σ H fun zs H2 => zs.length = ks.length ∧ spX X.K sx [] zs H2 Q, ⟨fun pins s σ H Q I h => ?_⟩, ?_⟩
  · refine wpAny_Call_Name_kw (ld_glob I hg hm ?_ hdb)
    refine PySem.W.callWith_KW0 (h₀ := X.base) I.ok.mod.kin hk hall ?_ hpl
    refine thn (pk_wk.run pos pins s σ H _ I h) fun ws s2 ⟨zs, H2, I2, rz, l2, q2⟩ => ⟨I2.kIn, ?_⟩
    rw [hks]
    exact run_x F hr I2 .nil rz l2 q2
  · refine h Hi H σ ok en _ fun zs M2 ws Hi2 H2 h2 s2 ok2 r2 => ?_
    exact ⟨r2.length.symm.trans h2.1, Hi2, M2, [], zs, P, .nil, r2, ok2, h2.2, q.up s2⟩
/-- o.m(e, .., k = v, ..) -/
theorem ae_meth {pl : Sem Bool} {fs : List (Str × Val)} (c : Cls X.K C) (hm : Meth X.K C m f) (F : FnX X.prog X.w X.K X.mg X.base n f ks (spX X.K sx)) (hr : Rm n X.A) (ho : aV X o Γ M d) (hob : Ob M C d fs) (hl : fs.lookup m = none)
    (h : aA X (e :: es) Γ M fun ds M1 => aKw X kws Γ M1 fun zs M2 => zs.length = ks.length ∧ sx (d :: ds) zs M2 P)
    (hall : (backToKw pos (keywordEach kws X.env)).all (·.1.isSome) = true := by rfl) (hks : (backToKw pos (keywordEach kws X.env)).filterMap (·.1) = ks := by rfl)
    (he : starEach (e :: es) X.env = (false, eval e X.env) :: starEach es X.env := by rfl) (hpl : ((backTo pos (starEach (e :: es) X.env)).any (·.1) || (backToKw pos (keywordEach kws X.env)).any (·.1.isNone)) = false := by rfl)
    (ht : eval (.Call (.Attribute o m apos) (e :: es) kws pos) X.env = (do
      let ov ← eval o X.env
      standAt apos.atName
      let (f, first) ← holding [ov] (getMethod ov m pl)
      callWith pos f first (backTo pos (starEach (e :: es) X.env)) (backToKw pos (keywordEach kws X.env))) := by rfl) : aE X (.Call (.Attribute o m apos) (e :: es) kws pos) Γ M P := fun Hi H σ ok en Q q => by
  refine ⟨fun σ H Q => WE X o σ H fun x H0 => ∃ a dx fs, x = .ref a ∧ H0 a = some (.ins C dx fs) ∧ fs.lookup m = none ∧ WA X (e :: es) σ H0 fun vs H1 => WK X kws σ H1 fun zs H2 => zs.length = ks.length ∧ spX X.K sx (x :: vs) zs H2 Q, ⟨fun pins s σ H Q I h => ?_⟩, ?_⟩
  · refine PySem.W.methodCall_KW (pl := pl) (thn (pe_we.run pins s σ H _ I h) fun u s1 ⟨x, H1, I1, rx, a, dx, fs, ex, ea, l, q⟩ => ?_) ht
    subst ex
    obtain rfl : u = Value.ref a := rx
    refine getmeth_ok I1 ea c hm l ?_
    refine PySem.W.callWith_KW (first := [.ref a]) (h₀ := X.base) I.ok.mod.kin hm.kp hall (thn (pa_wa.run pos pins s1 σ H1 _ I1 q) fun us s2 ⟨vs, H2, I2, r, q2⟩ => ?_) hpl he
    refine thn (pk_wk.run pos pins s2 σ H2 _ I2 q2) fun ws s3 ⟨zs, H3, I3, rz, l2, q3⟩ => ⟨I3.kIn, ?_⟩
    rw [hks]
    exact run_x (us := .ref a :: us) (vs := .ref a :: vs) F hr I3 (.cons rfl r) rz l2 q3
  · refine ho Hi H σ ok en _ fun x M0 v0 Hi0 H0 h0 s0 ok0 r0 => ?_
    obtain ⟨rfl, rfl⟩ := h0
    obtain ⟨p, dx, gs, rfl, hp, rf⟩ := hob.rep ok0 r0
    refine ⟨p, dx, gs, rfl, hp, rf.none hl, ?_⟩
    refine h Hi0 H0 σ ok0 (en.mono s0) _ fun ds M1 vs Hi1 H1 h1 s1 ok1 r1 => ?_
    refine h1 Hi1 H1 σ ok1 (en.mono (s0.trans s1)) _ fun zs M2 ws Hi2 H2 h2 s2 ok2 r2 => ?_
    exact ⟨r2.length.symm.trans h2.1, Hi2, M2, _ :: ds, zs, P, .cons (r0.mono (s1.trans s2)) (r1.mono s2), r2, ok2, h2.2, q.up ((s0.trans s1).trans s2)⟩
theorem ae_meth0 {pl : Sem Bool} {fs : List (Str × Val)} (c : Cls X.K C) (hm : Meth X.K C m f) (F : FnX X.prog X.w X.K X.mg X.base n f ks (spX X.K sx)) (hr : Rm n X.A) (ho : aV X o Γ M d) (hob : Ob M C d fs) (hl : fs.lookup m = none)
    (h : aKw X kws Γ M fun zs M2 => zs.length = ks.length ∧ sx [d] zs M2 P)
    (hall : (backToKw pos (keywordEach kws X.env)).all (·.1.isSome) = true := by rfl) (hks : (backToKw pos (keywordEach kws X.env)).filterMap (·.1) = ks := by rfl)
    (hpl : ((backTo pos (starEach [] X.env)).any (·.1) || (backToKw pos (keywordEach kws X.env)).any (·.1.isNone)) = false := by rfl)
    (ht : eval (.Call (.Attribute o m apos) [] kws pos) X.env = (do
      let ov ← eval o X.env
      standAt apos.atName
      let (f, first) ← holding [ov] (getMethod ov m pl)
      callWith pos f first (backTo pos (starEach [] X.env)) (backToKw pos (keywordEach kws X.env))) := by rfl) : aE X (.Call (.Attribute o m apos) [] kws pos) Γ M P := fun Hi H σ ok en Q q => by
  refine ⟨fun σ H Q => WE X o σ H fun x H0 => ∃ a dx fs, x = .ref a ∧ H0 a = some (.ins C dx fs) ∧ fs.lookup m = none ∧ WK X kws σ H0 fun zs H2 => zs.length = ks.length ∧ spX X.K sx [x] zs H2 Q, ⟨fun pins s σ H Q I h => ?_⟩, ?_⟩
  · refine PySem.W.methodCall_KW (pl := pl) (thn (pe_we.run pins s σ H _ I h) fun u s1 ⟨x, H1, I1, rx, a, dx, fs, ex, ea, l, q⟩ => ?_) ht
    subst ex
    obtain rfl : u = Value.ref a := rx
    refine getmeth_ok I1 ea c hm l ?_
    refine PySem.W.callWith_KW0 (first := [.ref a]) (h₀ := X.base) I.ok.mod.kin hm.kp hall ?_ hpl
    refine thn (pk_wk.run pos pins s1 σ H1 _ I1 q) fun ws s3 ⟨zs, H3, I3, rz, l2, q3⟩ => ⟨I3.kIn, ?_⟩
    rw [hks]
    exact run_x (us := [.ref a]) (vs := [.ref a]) F hr I3 (.cons rfl .nil) rz l2 q3
  · refine ho Hi H σ ok en _ fun x M0 v0 Hi0 H0 h0 s0 ok0 r0 => ?_
    obtain ⟨rfl, rfl⟩ := h0
    obtain ⟨p, dx, gs, rfl, hp, rf⟩ := hob.rep ok0 r0
    refine ⟨p, dx, gs, rfl, hp, rf.none hl, ?_⟩
    refine h Hi0 H0 σ ok0 (en.mono s0) _ fun zs M2 ws Hi2 H2 h2 s2 ok2 r2 => ?_
    exact ⟨r2.length.symm.trans h2.1, Hi2, M2, [_], zs, P, .cons (r0.mono s2) .nil, r2, ok2, h2.2, q.up (s0.trans s2)⟩
/-- C(e, .., k = v, ..) -/
theorem run_mk {pins : List (Addr × Obj)} {σ : L2.St} {H : Hp} {s : Shared} {Q : VK} {us ws : List Value} {vs zs : List V} {sp : List V → List V → Hp → VK → Prop} (Mk_ : Mk X.K C f) (F : FnX X.prog X.w X.K X.mg X.base n f ks sp) (hr : Rm (n + 1) X.A)
    (I : Inv X pins σ H s) (r : Vals vs us) (rz : Vals zs ws) (l2 : zs.length = ks.length)
    (h : ∀ x dx, H x = none → H dx = none → dx ≠ x → sp (.ref x :: vs) zs (upd (upd H dx (.own x)) x (.ins C dx [])) (fun v H2 => v = .non ∧ Q (.ref x) H2)) :
    wpAny (model X.prog X.w) X.A (call (.ref C) us (ks.zip ws)) (EP X pins σ Q) X.xe s := by
  have hq := h (s.heap.objs.size + 1) s.heap.objs.size (I.hok.fresh (Nat.le_succ _)) (I.hok.fresh (Nat.le_refl _)) (Nat.ne_of_lt (Nat.lt_succ_self _))
  have I2 := Inv.made (C := C) I
  have r1 : Vals (V.ref (s.heap.objs.size + 1) :: vs) (Value.ref (s.heap.objs.size + 1) :: us) := .cons rfl r
  refine wpAny_call (make_map (f := f) I.kIn Mk_.makes Mk_.init (beq_iff_eq.mp Mk_.fn) (codeAny_mono (F.run _ X.stack _ _ (Value.ref (s.heap.objs.size + 1) :: us) ws _ zs _ (hr.make C us (ks.zip ws))
    (I2.env0.make C us (ks.zip ws)) r1 rz l2 hq) fun r s' hq' => ?_))
  cases r with
  | error e => exact False.elim hq'
  | ok fl =>
    cases fl with
    | ret u =>
      obtain ⟨v, H', I3, rv, ev, q3⟩ := I2.after hq'
      subst ev
      exact ⟨rv, ⟨V.ref (s.heap.objs.size + 1), H', I3, rfl, q3⟩⟩
    | next => exact False.elim hq'
    | brk => exact False.elim hq'
    | cont => exact False.elim hq'
theorem ae_make (Mk_ : Mk X.K C f) (F : FnX X.prog X.w X.K X.mg X.base n f ks (spX X.K sx)) (hr : Rm (n + 1) X.A) (hm : X.mg x = some (.ref C))
    (h : aA X (e :: es) Γ M fun ds M1 => aKw X kws Γ M1 fun zs M2 => zs.length = ks.length ∧ ∀ p, p ∉ M2.map (·.1) → sx (.ptr p :: ds) zs ((p, .ins C []) :: M2) (fun v M3 => v = .non ∧ P (.ptr p) M3))
    (hg : Gl X x := by rfl) (hall : (backToKw pos (keywordEach kws X.env)).all (·.1.isSome) = true := by rfl) (hks : (backToKw pos (keywordEach kws X.env)).filterMap (·.1) = ks := by rfl) (hdb : (x == ("__debug__" : Str)) = false := by decide)
    (he : starEach (e :: es) X.env = (false, eval e X.env) :: starEach es X.env := by rfl) (hpl : ((backTo pos (starEach (e :: es) X.env)).any (·.1) || (backToKw pos (keywordEach kws X.env)).any (·.1.isNone)) = false := by rfl) : aE X (.Call (.Name x p1) (e :: es) kws pos) Γ M P := fun Hi H σ ok en Q q => by
  refine ⟨fun σ H Q => WA X (e :: es) σ H fun vs H1 => WK X kws σ H1 fun zs H2 => zs.length = ks.length ∧ ∀ x dx, H2 x = none → H2 dx = none → dx ≠ x → spX X.K sx (.ref x :: vs) zs (upd (upd H2 dx (.own x)) x (.ins C dx [])) (fun v H3 => v = .non ∧ Q (.ref x) H3), ⟨fun pins s σ H Q I h => ?_⟩, ?_⟩
  · refine wpAny_Call_Name_kw (ld_glob I hg hm ?_ hdb)
    refine PySem.W.callWith_KW (h₀ := X.base) I.ok.mod.kin Mk_.kp hall (thn (pa_wa.run pos pins s σ H _ I h) fun us s1 ⟨vs, H1, I1, r, q⟩ => ?_) hpl he
    refine thn (pk_wk.run pos pins s1 σ H1 _ I1 q) fun ws s2 ⟨zs, H2, I2, rz, l2, q2⟩ => ⟨I2.kIn, ?_⟩
    rw [hks]
    exact run_mk Mk_ F hr I2 r rz l2 q2
  · refine h Hi H σ ok en _ fun ds M1 vs Hi1 H1 h1 s1 ok1 r1 => ?_
    refine h1 Hi1 H1 σ ok1 (en.mono s1) _ fun zs M2 ws Hi2 H2 h2 s2 ok2 r2 => ?_
    refine ⟨r2.length.symm.trans h2.1, fun x dx hx hdx hne => ?_⟩
    have s3 := same_upd (o := .own x) (ok2.none hdx)
    have ok3 : Ok X.K (upd Hi2 dx (.own x)) M2 (upd H2 dx (.own x)) := ok2.imm hdx
    have hx3 : upd H2 dx (.own x) x = none := by rw [upd_ne hne.symm]; exact hx
    refine ⟨_, (x, .ins C []) :: M2, .ptr x :: ds, zs, _, .cons (.ptr x) (r1.mono (s2.trans s3)), r2.mono s3, ok3.new hx3 ⟨dx, [], rfl, .nil⟩, h2.2 x (ok2.fresh hx), ?_⟩
    rintro d M4 v Hi4 H4 ⟨rfl, hp⟩ s4 ok4 r4
    cases r4
    exact ⟨rfl, q _ _ _ Hi4 H4 hp (((s1.trans s2).trans s3).trans s4) ok4 (.ptr x)⟩
end
end Ab

namespace Ab
open PySem PySem.Spec PyProof.Rows L2
open AutoSeq1 (wpAny_loadPart')
/-! enumerate(tuple) -/
theorem enum_newT (l : Addr) (items : Array Value) (n : Nat) (dct : Option Addr) (sl : Array (Option Value)) :
    Meets (Builtin.«enumerate.__new__» ⟨[.type "enumerate", .ref l], []⟩) (fun _ R s => s.heap.get? l = some { cls := .type "tuple", dict := dct, data := .seq items n, slots := sl } ∧
      R (.ok (.ret (.ref (s.heap.push { cls := .type "tuple_iterator", data := .fields #[.ref l, .int 0 0] }).objs.size)))
        { s with heap := (s.heap.push { cls := .type "tuple_iterator", data := .fields #[.ref l, .int 0 0] }).push { cls := .type "enumerate", data := .fields #[.none, .bool false, .ref s.heap.objs.size, rawInt 0, .none, .none] } }) :=
  .of_wp fun prog w A R s h => by
    obtain ⟨hp, g, d, tk, os⟩ := s
    obtain ⟨hl, h⟩ := h
    have hsub := sub_enumerate
    have hT : Heap.IsTuple (Shared.heap ⟨hp, g, d, tk, os⟩) l items := ⟨_, hl, rfl, n, rfl⟩
    wp_walk using wpAny_loadPart' hl
    refine wpAny_stack_any fun st => wpAny_pure ?_
    split
    · rename_i c _ _ _ _ _
      cases (c == Value.type "enumerate") <;> (wp_walk using wpAny_loadPart' hl, wpAny_pyIter_tuple hT; exact ⟨_, rfl, h⟩)
    · wp_walk using wpAny_loadPart' hl, wpAny_pyIter_tuple hT
      exact ⟨_, rfl, h⟩
section
variable {prog : Program} {w : World} {A : Around} {E : Value → Shared → Prop} {s : Shared}
theorem call_enumT {l : Addr} {items : Array Value} {Q : Value → Shared → Prop} (hL : s.heap.IsTuple l items)
    (h : ∀ h', IsEnum h' (s.heap.objs.size + 1) s.heap.objs.size 0 .none → h'.IsTupleIter s.heap.objs.size l 0 →
      (∀ b o, s.heap.get? b = some o → h'.get? b = some o) → Q (.ref (s.heap.objs.size + 1)) { s with heap := h' }) :
    wpAny (model prog w) A (call (.type "enumerate") [.ref l]) Q E s := by
  obtain ⟨⟨c, dct, dt, sl⟩, hl, hc, n, hd⟩ := hL
  obtain rfl : c = .type "tuple" := hc
  obtain rfl : dt = .seq items n := hd
  refine callType_new F.called_enumerate (by decide) (F.typeCall_enumerate_1 _) (F.newCall_enumerate_1 _) (fun obj => F.args_object_init_2 obj _) F.entry_enumerate_new (enum_newT l items n dct sl) ⟨hl, ?_⟩
  have hz : (s.heap.push { cls := .type "tuple_iterator", data := .fields #[.ref l, .int 0 0] }).objs.size = s.heap.objs.size + 1 := Heap.size_push ..
  show _ ∧ _
  rw [hz]
  have he : IsEnum ((s.heap.push { cls := .type "tuple_iterator", data := .fields #[.ref l, .int 0 0] }).push
      { cls := .type "enumerate", data := .fields #[.none, .bool false, .ref s.heap.objs.size, rawInt 0, .none, .none] }) (s.heap.objs.size + 1) s.heap.objs.size 0 .none := by
    have q := Heap.get?_push_size (s.heap.push { cls := .type "tuple_iterator", data := .fields #[.ref l, .int 0 0] })
      (o := { cls := .type "enumerate", data := .fields #[.none, .bool false, .ref s.heap.objs.size, rawInt 0, .none, .none] }) rfl
    rw [hz] at q
    exact q
  exact ⟨⟨_, he, rfl⟩, h _ he ⟨_, Heap.get?_push_of_some _ (Heap.get?_push_size _ rfl), rfl, rfl⟩ fun b o x => Heap.get?_push_of_some _ (Heap.get?_push_of_some _ x)⟩
end
/-- the tuple at a, each item in a new pair -/
def IteT (K : PySem.W.Frag) (a : Addr) : It where
  go := fun i H => ∃ (xs : List V) (x : V), SqT K H a xs ∧ xs[i]? = some x
  yld := fun i H v H' => ∃ T x, v = .ref T ∧ H T = none ∧ H' = upd H T (.tup [.int (i : Nat), x]) ∧ ∀ xs, SqT K H a xs → xs[i]? = some x
  stop := fun i H => ∃ xs : List V, SqT K H a xs ∧ xs.length = i
theorem turn_enumT {P : Program} {w : World} {K : PySem.W.Frag} {elts : List Expr} {kk : Nat} {tpos : Pos} (a e it : Addr) :
    Turn P w K (.Tuple elts kk tpos) (IteT K a) [e, it] e (fun i h => (∃ old, IsEnum h e it ((i : Nat) : Int) old) ∧ h.IsTupleIter it a i ∧ e ≠ it) where
  mem := by simp
  obj := fun i h st b hb => by
    obtain ⟨⟨old, he⟩, ⟨o, ho, hc, hd⟩, _⟩ := st
    have e' : b = e ∨ b = it := by simpa using hb
    rcases e' with z | z
    · rw [z]; exact ⟨_, he, fun v q => nomatch q⟩
    · rw [z]; exact ⟨o, ho, fun v q => by rw [hd] at q; cases q⟩
  keep := fun i h h' st k => let ⟨⟨old, he⟩, hi, hne⟩ := st; ⟨⟨old, k e (by simp) _ he⟩, hi.at fun o q => k it (by simp) o q, hne⟩
  item := by
    intro X hP hw hK hc i pins s σ H E I hf st hg
    subst hP hw hK
    obtain ⟨⟨old, he⟩, hit, hne⟩ := st
    obtain ⟨xs, x, hq, hx⟩ := hg
    obtain ⟨its, rv, p, hz⟩ := I.tuple hq
    have hl := rv.length
    have hlt : i < its.toArray.size := by
      have := (List.getElem?_eq_some_iff.mp hx).1
      simp
      omega
    have hel : e < s.heap.objs.size := Heap.lt_size he
    have hil : it < s.heap.objs.size := by obtain ⟨_, q, _⟩ := hit; exact Heap.lt_size q
    have hta : a ≠ it := fun z => by
      subst z
      obtain ⟨o1, h1, h2, _⟩ := p
      obtain ⟨o2, h3, h4, _⟩ := hit
      rw [h1] at h3
      cases h3
      rw [h2] at h4
      exact absurd h4 (by decide)
    have hte : e ≠ a := fun z => by
      subst z
      obtain ⟨o1, h1, h2, _⟩ := p
      rw [he] at h1
      cases h1
      exact absurd (show Value.type "enumerate" = Value.type "tuple" from h2) (by decide)
    refine wpAny_pyNext_enum_itemC (c := (i : Int)) (Draws.tuple (show X.A.in1.handled = none from I.ok.hd hc) it a hta its.toArray) he ⟨hit, p⟩ hlt hne (by simp [hne, hte]) fun u h' tk hu ho hst' hT hsz hk => ?_
    have ru : RelV x u := by
      obtain ⟨u', hu', ru'⟩ := rv.get hx
      have : its.toArray[i]? = some u' := by simpa using hu'
      rw [this] at hu
      cases hu
      exact ru'
    refine ⟨_, rfl, wpAny_letOwnedTupleGo_enum (s := { s with heap := h', toks := tk + 1 }) ho fun h'' he' sb => ?_⟩
    have hT2 : h''.get? s.heap.objs.size = some { cls := .type "tuple", data := .seq #[.int i tk, u] } := (sb.2 _ (Nat.ne_of_gt hel)).trans hT
    have new : ObjOk X.prog X.w (upd H s.heap.objs.size (.tup [.int (i : Nat), x])) h'' s.heap.objs.size (.tup [.int (i : Nat), x]) :=
      ⟨by show 2 ≤ sizeLine; decide, [.int i tk, u], .cons ⟨_, rfl⟩ (.cons ru .nil), ⟨_, hT2, rfl, _, rfl⟩⟩
    have I1 : Inv X pins σ (upd H s.heap.objs.size (.tup [.int (i : Nat), x])) { s with heap := h'', toks := tk + 1 } :=
      I.turnedNew (ch := [e, it]) (fun b ob hb q => (sb.2 b (fun z => hb (by simp [z]))).trans (hk b ob (fun z => hb (by simp [z])) (fun z => hb (by simp [z])) q)) hf (Nat.le_refl _) new
    refine ⟨.ref s.heap.objs.size, _, I1, rfl, ⟨_, x, rfl, I.hok.fresh (Nat.le_refl _), rfl, fun ys hy => by rw [I.tuple_inj hy hq]; exact hx⟩, ⟨⟨u, ?_⟩, hst'.1.at fun o q => (sb.2 it (Ne.symm hne)).trans q, hne⟩, fun b hb => ?_⟩
    · rw [show ((i + 1 : Nat) : Int) = (i : Int) + 1 by omega]
      exact he'
    · have hb' : b < s.heap.objs.size := by
        have e' : b = e ∨ b = it := by simpa using hb
        rcases e' with z | z
        · rw [z]; exact hel
        · rw [z]; exact hil
      rw [upd_ne (Nat.ne_of_lt hb')]
      exact (hf b hb).1
  done := by
    intro X hP hw hK hc i pins s σ H E I hf st hg
    subst hP hw hK
    obtain ⟨⟨old, he⟩, hit, hne⟩ := st
    obtain ⟨xs, hq, hx⟩ := hg
    obtain ⟨its, rv, p, hz⟩ := I.tuple hq
    obtain ⟨f0, f1, f2, f3, f4, f5⟩ := hf it (by simp)
    have hl := rv.length
    have hi : its.toArray.size = i := by
      simp
      omega
    have hta : a ≠ it := fun z => by
      subst z
      obtain ⟨o1, h1, h2, _⟩ := p
      obtain ⟨o2, h3, h4, _⟩ := hit
      rw [h1] at h3
      cases h3
      rw [h2] at h4
      exact absurd h4 (by decide)
    refine wpAny_pyNext_enum_endD (Draws.tuple (show X.A.in1.handled = none from I.ok.hd hc) it a hta its.toArray) he (by rw [hi]; exact ⟨hit, p⟩) fun h' eb => ⟨rfl, I.turned (t' := s.toks) (fun b o hb q => eb b o hb q) f0 f1 f3 f4 f5⟩
  self := fun A i s Q E st h => let ⟨⟨_, he⟩, _⟩ := st; wpAny_pyIter_enum he h
def iEnumT (K : PySem.W.Frag) (ta : TA) : TI := fun σ H R => ta σ H fun vs H1 => ∃ a xs, vs = [.ref a] ∧ SqT K H1 a xs ∧ R (IteT K a) H1
theorem pi_enumT {X : Cx} {e : Expr} {ta : TA} {p pos tpos : Pos} {elts : List Expr} {kk : Nat} (hg : Gl X "enumerate") (hm : X.mg "enumerate" = none) (ha : PA X [e] ta) (hs : starEach [e] X.env = [(false, eval e X.env)] := by rfl) :
    PI X (.Tuple elts kk tpos) (.Call (.Name "enumerate" p) [e] [] pos) (iEnumT X.K ta) := by
  refine ⟨fun pins s σ H R I h => Call_ (ld_blt I hg hm boot_enumerate (PyProof.Rows.callWith_type1 (thn (ha.run pos pins s σ H _ I h) fun us s1 ⟨vs, H1, I1, r1, q1⟩ => ?_) hs rfl))⟩
  obtain ⟨a, xs, rfl, hq, q⟩ := q1
  cases r1 with
  | cons r rr =>
    cases rr
    cases r
    obtain ⟨its, rv, p', hz⟩ := I1.tuple hq
    refine call_enumT p' fun h' he hit hk => wpAny_pyIter_enum he ?_
    have I2 : Inv X pins σ H1 { s1 with heap := h' } := I1.kept (t' := s1.toks) hk
    refine ⟨s1.heap.objs.size + 1, [s1.heap.objs.size + 1, s1.heap.objs.size], _, _, H1, rfl, I2, turn_enumT a (s1.heap.objs.size + 1) s1.heap.objs.size, ⟨⟨.none, he⟩, hit, Nat.succ_ne_self _⟩, fun b hb => ?_, q⟩
    have e' : b = s1.heap.objs.size + 1 ∨ b = s1.heap.objs.size := by simpa using hb
    have hle : s1.heap.objs.size ≤ b := by
      rcases e' with z | z
      · exact z ▸ Nat.le_succ _
      · exact z ▸ Nat.le_refl _
    exact I1.fpOk hle (I1.hok.fresh hle)
theorem walk_enumT {K : PySem.W.Frag} {a : Addr} {xs : List V} : Walk (IteT K a) xs.length (fun H => SqT K H a xs) (YPair (fun i => some (.int (i : Nat))) (fun i => xs[i]?)) := by
  refine ⟨fun i _ hi q => ⟨xs, xs[i], q, by simp [hi]⟩, fun _ q => ⟨xs, q, rfl⟩, fun i H v H' _ q y => ?_⟩
  obtain ⟨T, x, h1, h2, h3, h4⟩ := y
  exact ⟨T, .int (i : Nat), x, h1, h2, h3, rfl, h4 xs q⟩
section
variable {X : Cx} {Γ : Gam} {M : Mem} {a : Expr} {pos p1 : Pos}
theorem ai_enumT {elts : List Expr} {kk : Nat} {tpos : Pos} {R : Mem → Prop} {xs : List Val} (hm : X.mg "enumerate" = none) (ha : aE X a Γ M fun d M' => d = .tup xs ∧ R M') (hg : Gl X "enumerate" := by rfl) (hs : starEach [a] X.env = [(false, eval a X.env)] := by rfl) :
    aI X (.Tuple elts kk tpos) (.Call (.Name "enumerate" p1) [a] [] pos) Γ M xs.length (fun i => .tup [.int i, xs.getD i .non]) (fun _ => True) R := fun Hi H σ ok en R' q => by
  refine ⟨_, pi_enumT hg hm (pa_cons pe_we pa_nil hs) hs, ?_⟩
  refine ha Hi H σ ok en _ fun d M1 v Hi1 H1 h1 s1 ok1 r1 => ?_
  obtain ⟨rfl, hp⟩ := h1
  cases r1 with
  | @tup p ys _ hq ra =>
    refine ⟨p, ys, rfl, sameT ok1.im hq, q _ M1 Hi1 H1 hp s1 ok1 ?_⟩
    rw [ra.length]
    refine walk_enumT.mono (fun H' hG => ?_) fun i H' v H'' hi hG hy Hi' M' s2 ok2 _ => ?_
    · obtain ⟨Hi', M', s2, ok2, _⟩ := hG
      exact sameT ok2.im (sameT s2 hq)
    · obtain ⟨T, x, y, rfl, hT, rfl, hx, hy⟩ := hy
      cases hx
      have s3 := same_upd (o := .tup [.int (i : Nat), y]) (ok2.none hT)
      exact ⟨_, s3, ok2.imm hT, .tup (SqT.of upd_same) (.cons (.int _) (.cons ((Sq.at ra hy).mono (s2.trans s3)) .nil))⟩
end
end Ab

namespace Ab
open PySem PySem.Spec PyProof.Rows L2
/-! ### comprehensions -/
theorem wipe_set (n : Nat) (x : Option V) : ∀ (vs : List Nat) (σ : L2.St), wipe (σ.set n x) vs = if n ∈ vs then wipe σ vs else (wipe σ vs).set n x
  | [], σ => by simp [wipe]
  | v :: vs, σ => by
    unfold wipe
    rw [wipe_set n x vs σ]
    by_cases h : n ∈ vs
    · rw [if_pos h, if_pos (List.mem_cons_of_mem _ h)]
    · rw [if_neg h]
      by_cases e : n = v
      · subst e
        rw [if_pos List.mem_cons_self, List.set_set]
      · rw [if_neg (by simp [e, h]), List.set_comm _ _ e]
def wipeG (Γ : Gam) : List Nat → Gam
  | [] => Γ
  | v :: vs => (wipeG Γ vs).set v none
theorem env_none {K : PySem.W.Frag} {H : Hp} {Γ : Gam} {σ : L2.St} (n : Nat) (h : EnvR K H Γ σ) : EnvR K H (Γ.set n none) (σ.set n none) := by
  refine ⟨by rw [List.length_set, List.length_set]; exact h.1, fun j e q => ?_⟩
  by_cases hij : n = j
  · subst hij
    by_cases hl : n < Γ.length
    · rw [List.getElem?_set_self hl] at q
      cases q
    · rw [List.getElem?_eq_none_iff.mpr (by rw [List.length_set]; omega)] at q
      cases q
  · rw [List.getElem?_set_ne hij] at q
    obtain ⟨w, h1, h2⟩ := h.2 j e q
    exact ⟨w, by rw [List.getElem?_set_ne hij]; exact h1, h2⟩
theorem env_wipe {K : PySem.W.Frag} {H : Hp} {Γ : Gam} {σ : L2.St} (h : EnvR K H Γ σ) : ∀ vs : List Nat, EnvR K H (wipeG Γ vs) (wipe σ vs)
  | [] => h
  | v :: vs => env_none v (env_wipe h vs)
section
variable {X : Cx} {Γ : Gam} {M : Mem} {P : Val → Mem → Prop} {e a b c o : Expr} {es : List Expr} {kws : List Keyword} {pos p1 p2 apos kpos : Pos} {k : AK} {d d1 d2 d3 : Val} {i j : Int} {x y m : Str} {n : Nat} {f C : Addr}
/-- a target within a comprehension: slots of vs alone -/
def aGw (X : Cx) (vs : List Nat) (tg : Expr) (d : Val) (Γ : Gam) (M : Mem) (R : Gam → Mem → Prop) : Prop := ∀ Hi H σ v, Ok X.K Hi M H → EnvR X.K Hi Γ σ → Rep X.K Hi d v → ∀ Q : L2.St → Hp → Prop, (∀ Γ' M' σ' Hi' H', R Γ' M' → Same Hi Hi' → Ok X.K Hi' M' H' → EnvR X.K Hi' Γ' σ' → wipe σ' vs = wipe σ vs → Q σ' H') → WG X tg v σ H Q
theorem agw_name {vs : List Nat} {R : Gam → Mem → Prop} (n : Nat) (hN : X.N.Nodup) (h : R (Γ.set n (some d)) M) (hn : n ∈ vs := by decide) (hi : X.N[n]? = some x := by rfl) (hx : Loc X.env.scope x := by first | exact Or.inl rfl | exact Or.inr rfl) (hf : X.fn x = true ∨ X.env.scope.names.lookup x = some .local := by first | exact .inl rfl | exact .inr rfl | assumption) :
    aGw X vs (.Name x pos) d Γ M R := fun Hi H σ v ok en r Q q => ⟨_, pg_name hN hi hx hf, q _ _ _ Hi H h (Same.refl _) ok (en.set r) (by rw [wipe_set, if_pos hn])⟩
def aGws (X : Cx) (vs : List Nat) (tgs : List Expr) (ds : List Val) (Γ : Gam) (M : Mem) (R : Gam → Mem → Prop) : Prop := ∀ Hi H σ ws, Ok X.K Hi M H → EnvR X.K Hi Γ σ → RepA X.K Hi ds ws → ∀ Q : L2.St → Hp → Prop, (∀ Γ' M' σ' Hi' H', R Γ' M' → Same Hi Hi' → Ok X.K Hi' M' H' → EnvR X.K Hi' Γ' σ' → wipe σ' vs = wipe σ vs → Q σ' H') → ∃ t, PGs X tgs t ∧ t ws σ H Q
theorem agws_nil {vs : List Nat} {R : Gam → Mem → Prop} (h : R Γ M) : aGws X vs [] [] Γ M R := fun Hi H σ ws ok en r Q q => by
  cases r
  exact ⟨_, pgs_nil, rfl, q _ _ _ Hi H h (Same.refl _) ok en rfl⟩
theorem agws_cons {vs : List Nat} {R : Gam → Mem → Prop} {ds : List Val} (h : aGw X vs e d Γ M fun Γ' M' => aGws X vs es ds Γ' M' R) (hs : (assignEach (e :: es) X.env).map (·.2) = assign e X.env :: (assignEach es X.env).map (·.2) := by rfl) : aGws X vs (e :: es) (d :: ds) Γ M R := fun Hi H σ ws ok en r Q q => by
  cases r with
  | cons r1 r2 =>
    refine ⟨_, pgs_cons pg_wg pgs_wgs hs, _, _, rfl, ?_⟩
    refine h Hi H σ _ ok en r1 _ fun Γ' M' σ' Hi' H' h1 s1 ok1 en1 w1 => ?_
    exact h1 Hi' H' σ' _ ok1 en1 (r2.mono s1) Q fun Γ2 M2 σ2 Hi2 H2 h2 s2 ok2 en2 w2 => q _ _ _ Hi2 H2 h2 (s1.trans s2) ok2 en2 (w2.trans w1)
theorem agw_tup {vs : List Nat} {kk : Nat} {R : Gam → Mem → Prop} {ds : List Val} (hc : X.calm = true) (h : aGws X vs es ds Γ M R) (hl : (assignEach es X.env).length = ds.length := by rfl) (hst : (assignEach es X.env).findIdx? (·.1) = none := by rfl) : aGw X vs (.Tuple es kk pos) (.tup ds) Γ M R := fun Hi H σ v ok en r Q q => by
  cases r with
  | tup hq ra => exact ⟨_, pg_tup hc pgs_wgs rfl hst, _, _, rfl, sameT ok.im hq, ra.length.symm.trans hl.symm, h Hi H σ _ ok en ra Q q⟩
def aTs (X : Cx) (ifs : List Expr) (Γ : Gam) (M : Mem) (P : Bool → Mem → Prop) : Prop := ∀ Hi H σ, Ok X.K Hi M H → EnvR X.K Hi Γ σ → ∀ Q, PostT X.K Hi P Q → ∃ t, PTs X ifs t ∧ t σ H Q
def WTs (X : Cx) (ifs : List Expr) : TT := fun σ H Q => ∃ t, PTs X ifs t ∧ t σ H Q
theorem pts_wts {ifs : List Expr} : PTs X ifs (WTs X ifs) := ⟨fun pins s σ H Q I ⟨t, p, h⟩ => p.run pins s σ H Q I h⟩
theorem ats_nil {P : Bool → Mem → Prop} (h : P true M) : aTs X [] Γ M P := fun Hi H σ ok en Q q => ⟨_, pts_nil, q _ _ Hi H h (Same.refl _) ok⟩
theorem ats_one {P : Bool → Mem → Prop} (h : aT X c Γ M P) : aTs X [c] Γ M P := fun Hi H σ ok en Q q => ⟨_, pts_one pt_wt, h Hi H σ ok en Q q⟩
/-- a comprehension's block -/
abbrev bx (X : Cx) (scope : Scope) (s : Shared) (H : Hp) (C : Addr) (cl : List (Str × Addr)) (fp : List Addr) : Cx := X.blk s H scope (compEnvC scope cl C X.env) fp
def bE (X : Cx) (scope : Scope) (e : Expr) (Γ : Gam) (M : Mem) (P : Val → Mem → Prop) : Prop := ∀ s H C cl fp, aE (bx X scope s H C cl fp) e Γ M P
def bTs (X : Cx) (scope : Scope) (es : List Expr) (Γ : Gam) (M : Mem) (P : Bool → Mem → Prop) : Prop := ∀ s H C cl fp, aTs (bx X scope s H C cl fp) es Γ M P
def bG (X : Cx) (scope : Scope) (vs : List Nat) (tg : Expr) (d : Val) (Γ : Gam) (M : Mem) (R : Gam → Mem → Prop) : Prop := ∀ s H C cl fp, aGw (bx X scope s H C cl fp) vs tg d Γ M R
theorem lc_read {tg iter elt : Expr} {ifs : List Expr} {scope : Scope} {vs : List Nat} {n : Nat} {it : Nat → Val} {G : Mem → Prop} (J : Nat → List Val → Mem → Prop)
    (hi : aI X tg iter Γ M n it G (J 0 [])) (hG : ∀ i acc M, i ≤ n → J i acc M → G M) (hGd : ∀ c M, G M → G (c :: M))
    (hs : ∀ i acc M D, i < n → acc.length ≤ i → J i acc M → bG X scope vs tg (it i) (wipeG Γ vs) ((D, .lst acc) :: M) fun Γ2 M2 => bTs X scope ifs Γ2 M2 fun b M3 =>
      (b = true → bE X scope elt Γ2 M3 fun y M4 => ∃ M5, M4 = (D, .lst acc) :: M5 ∧ J (i + 1) (acc ++ [y]) M5) ∧ (b = false → ∃ M5, M3 = (D, .lst acc) :: M5 ∧ J (i + 1) acc M5))
    (hn : n ≤ 100000) (hd : ∀ D acc M, J n acc M → P (.ptr D) ((D, .lst acc) :: M)) {Hi H : Hp} {σ : L2.St} (ok : Ok X.K Hi M H) (en : EnvR X.K Hi Γ σ) {Q : VK} (q : Post X.K Hi P Q) :
    tLc (WI X tg iter) (fun v σ H Q => ∀ s H' C cl fp, WG (bx X scope s H' C cl fp) tg v σ H Q) (fun σ H Q => ∀ s H' C cl fp, WTs (bx X scope s H' C cl fp) ifs σ H Q) (fun σ H Q => ∀ s H' C cl fp, WE (bx X scope s H' C cl fp) elt σ H Q) vs σ H Q := by
  refine hi Hi H σ ok en _ fun J' M1 Hi1 H1 h1 s1 ok1 w => ?_
  intro D hD
  refine lc_it (g := fun v σ H Q => ∀ s H' C cl fp, WG (bx X scope s H' C cl fp) tg v σ H Q) (tt := fun σ H Q => ∀ s H' C cl fp, WTs (bx X scope s H' C cl fp) ifs σ H Q) (te := fun σ H Q => ∀ s H' C cl fp, WE (bx X scope s H' C cl fp) elt σ H Q) (vs := vs) (σ := σ) (Qd := fun H => Q (V.ref D) H)
    w (fun i H' => ∃ acc M' Hi', J i acc M' ∧ acc.length ≤ i ∧ Same Hi1 Hi' ∧ Ok X.K Hi' ((D, .lst acc) :: M') H') ⟨[], M1, Hi1, h1, Nat.le_refl _, Same.refl _, ok1.new hD ⟨[], rfl, .nil⟩⟩ ?_ ?_ ?_
  · rintro i H' hi ⟨acc, M', Hi', h2, _, s2, ok2⟩
    exact ⟨Hi', M', s2, ok2.tail, hG i acc M' hi h2⟩
  · rintro i v H' H'' hi ⟨acc, M', Hi', h2, hl, s2, ok2⟩ hy
    obtain ⟨Hi3, s3, ok3, r3⟩ := hy Hi' ((D, .lst acc) :: M') s2 ok2 (hGd _ _ (hG i acc M' (Nat.le_of_lt hi) h2))
    intro s0 H0 C0 cl0 fp0
    have s13 := s2.trans s3
    refine hs i acc M' D hi hl h2 s0 H0 C0 cl0 fp0 Hi3 H'' (wipe σ vs) v ok3 (env_wipe (en.mono (s1.trans s13)) vs) r3 _ fun Γ4 M4 σ4 Hi4 H4 h4 s4 ok4 en4 w4 => ⟨?_, ?_⟩
    · rw [w4]
      clear w4 en4
      have idem : ∀ (us : List Nat) (τ : L2.St), wipe (wipe τ us) us = wipe τ us := by
        intro us
        induction us with
        | nil => intro τ; rfl
        | cons u us ih =>
          intro τ
          show (wipe ((wipe τ us).set u none) us).set u none = (wipe τ us).set u none
          rw [wipe_set]
          by_cases hu : u ∈ us
          · rw [if_pos hu, ih]
          · rw [if_neg hu, ih, List.set_set]
      exact idem vs σ
    · intro s5 H5 C5 cl5 fp5
      refine h4 s5 H5 C5 cl5 fp5 Hi4 H4 σ4 ok4 en4 _ fun b M6 Hi6 H6 h6 s6 ok6 => ?_
      cases b with
      | true =>
        refine iteT fun s7 H7 C7 cl7 fp7 => ?_
        refine h6.1 rfl s7 H7 C7 cl7 fp7 Hi6 H6 σ4 ok6 (en4.mono s6) _ fun y M8 v8 Hi8 H8 h8 s8 ok8 r8 => ?_
        obtain ⟨M9, rfl, h9⟩ := h8
        obtain ⟨_, o, ho, xs, rfl, ra⟩ := ok8.ce D _ List.mem_cons_self
        refine ⟨xs, ho, ?_, ?_⟩
        · rw [← ra.length]
          exact Nat.lt_of_lt_of_le (Nat.lt_of_le_of_lt hl (Nat.lt_of_lt_of_le hi hn)) (by decide)
        · exact ⟨acc ++ [y], M9, Hi8, h9, by rw [List.length_append]; exact Nat.succ_le_succ hl, ((s13.trans s4).trans s6).trans s8, ok8.set (i := 0) rfl ⟨_, rfl, ra.append (.cons r8 .nil)⟩⟩
      | false =>
        obtain ⟨M9, rfl, h9⟩ := h6.2 rfl
        exact iteF ⟨acc, M9, Hi6, h9, Nat.le_succ_of_le hl, (s13.trans s4).trans s6, ok6⟩
  · rintro H' ⟨acc, M', Hi', h2, hl, s2, ok2⟩
    exact q _ _ _ Hi' H' (hd D acc M' h2) (s1.trans s2) ok2 (.ptr D)
/-- [elt for tg in iter if ..]: a new cell -/
theorem ae_lcC {tg iter elt : Expr} {ifs : List Expr} {scope : Scope} (own : List (Str × Nat)) {n : Nat} {it : Nat → Val} {G : Mem → Prop} (J : Nat → List Val → Mem → Prop) (hc : X.calm = true) (hN : X.N.Nodup) (ok : BlkOk X.N X.env.scope scope own)
    (hi : aI X tg iter Γ M n it G (J 0 [])) (hG : ∀ i acc M, i ≤ n → J i acc M → G M) (hGd : ∀ c M, G M → G (c :: M))
    (hs : ∀ i acc M D, i < n → acc.length ≤ i → J i acc M → bG X scope (own.map (·.2)) tg (it i) (wipeG Γ (own.map (·.2))) ((D, .lst acc) :: M) fun Γ2 M2 => bTs X scope ifs Γ2 M2 fun b M3 =>
      (b = true → bE X scope elt Γ2 M3 fun y M4 => ∃ M5, M4 = (D, .lst acc) :: M5 ∧ J (i + 1) (acc ++ [y]) M5) ∧ (b = false → ∃ M5, M3 = (D, .lst acc) :: M5 ∧ J (i + 1) acc M5))
    (hn : n ≤ 100000) (hd : ∀ D acc M, J n acc M → P (.ptr D) ((D, .lst acc) :: M)) (hf : ∀ x, foldedSetIterable iter X.env x = pure x := by intro _; rfl) :
    aE X (.ListComp elt [⟨tg, iter, ifs, 0⟩] scope pos) Γ M P := fun Hi H σ ok' en Q q =>
  ⟨_, pe_lc hc hN pi_wi ok (fun s H C cl fp => ⟨fun pins s' σ H v u Q I r h => pg_wg.run pins s' σ H v u Q I r (h _ _ _ _ _)⟩) (fun s H C cl fp => ⟨fun pins s' σ H Q I h => pts_wts.run pins s' σ H Q I (h _ _ _ _ _)⟩) (fun s H C cl fp => ⟨fun pins s' σ H Q I h => pe_we.run pins s' σ H Q I (h _ _ _ _ _)⟩) hf,
    lc_read J hi hG hGd hs hn hd ok' en q⟩
/-- y = [elt for ..] -/
theorem as_lcC {tg iter elt : Expr} {ifs : List Expr} {scope : Scope} {py spos : Pos} (m : Nat) (own : List (Str × Nat)) {n : Nat} {it : Nat → Val} {G : Mem → Prop} (J : Nat → List Val → Mem → Prop) (hc : X.calm = true) (hN : X.N.Nodup) (ok : BlkOk X.N X.env.scope scope own)
    (hi : aI X tg iter Γ M n it G (J 0 [])) (hG : ∀ i acc M, i ≤ n → J i acc M → G M) (hGd : ∀ c M, G M → G (c :: M))
    (hs : ∀ i acc M D, i < n → acc.length ≤ i → J i acc M → bG X scope (own.map (·.2)) tg (it i) (wipeG Γ (own.map (·.2))) ((D, .lst acc) :: M) fun Γ2 M2 => bTs X scope ifs Γ2 M2 fun b M3 =>
      (b = true → bE X scope elt Γ2 M3 fun y M4 => ∃ M5, M4 = (D, .lst acc) :: M5 ∧ J (i + 1) (acc ++ [y]) M5) ∧ (b = false → ∃ M5, M3 = (D, .lst acc) :: M5 ∧ J (i + 1) acc M5))
    (hn : n ≤ 100000) (hd : ∀ D acc M, J n acc M → k.nx (Γ.set m (some (.ptr D))) ((D, .lst acc) :: M)) (hy : X.N[m]? = some y := by rfl) (hyl : X.env.scope.names.lookup y = some .local := by rfl)
    (hsw : swapsWith (.ListComp elt [⟨tg, iter, ifs, 0⟩] scope pos) (some (.Name y py)) spos.line X.env = pure true := by exact sw_true rfl rfl rfl (by decide +kernel))
    (hf : ∀ x, foldedSetIterable iter X.env x = pure x := by intro _; rfl) :
    aS X (.Assign [.Name y py] (.ListComp elt [⟨tg, iter, ifs, 0⟩] scope pos) spos) Γ M k := fun Hi H σ ok' en D q =>
  ⟨_, ps_setLc hc hN hy hyl hsw pi_wi ok (fun s H C cl fp => ⟨fun pins s' σ H v u Q I r h => pg_wg.run pins s' σ H v u Q I r (h _ _ _ _ _)⟩) (fun s H C cl fp => ⟨fun pins s' σ H Q I h => pts_wts.run pins s' σ H Q I (h _ _ _ _ _)⟩) (fun s H C cl fp => ⟨fun pins s' σ H Q I h => pe_we.run pins s' σ H Q I (h _ _ _ _ _)⟩) hf,
    lc_read (P := fun d M' => ∃ D, d = .ptr D ∧ k.nx (Γ.set m (some (.ptr D))) M') J hi hG hGd hs hn (fun D acc M h => ⟨D, rfl, hd D acc M h⟩) ok' en fun d M' v Hi' H' ⟨D', hd', h'⟩ s' ok2 r => by
      subst hd'
      exact q.nx _ _ _ Hi' H' h' s' ok2 ((en.mono s').set r)⟩
end
end Ab

namespace Ab
open PySem PySem.Spec PyProof.Rows L2
section
variable {X : Cx} {Γ : Gam} {M : Mem} {P : Val → Mem → Prop} {e a b c o : Expr} {es : List Expr} {kws : List Keyword} {pos p1 p2 apos kpos : Pos} {k : AK} {d d1 d2 d3 : Val} {i j : Int} {x y m : Str} {n : Nat} {f C : Addr}

/-! ### a class's own things -/
/-- C.NAME -/
theorem ae_const {mc : Value} {fl : Str} {u : Value} {v : V} (hr : ClX.CRead X.K C mc) (hv : ClX.CVal X.K C mc fl v u) (ho : aV X o Γ M (.ptr C)) (rep : ∀ H, Rep X.K H d v) (h : P d M) (hb : attributeBase o fl X.env (eval o X.env) = eval o X.env := by rfl) : aE X (.Attribute o fl pos) Γ M P := fun Hi H σ ok en Q q => by
  refine ⟨_, ClX.pe_cval pe_we hb, ?_⟩
  refine ho Hi H σ ok en _ fun x M1 v1 Hi1 H1 h1 s1 ok1 r1 => ?_
  obtain ⟨rfl, rfl⟩ := h1
  cases r1
  exact ⟨C, mc, v, u, rfl, hr, hv, q _ _ _ Hi1 H1 h s1 ok1 (rep _)⟩
/-- o.f, f a property -/
theorem ae_prop {fl : Str} {p g : Addr} {fs : List (Str × Val)} {sx : ASx} (c : Cls X.K C) (hp : PropOf X.K C fl p g) (F : FnX X.prog X.w X.K X.mg X.base n g [] (spX X.K sx)) (hr : Rm (n + 1) X.A) (ho : aV X o Γ M d) (hob : Ob M C d fs) (h : sx [d] [] M P)
    (hb : attributeBase o fl X.env (eval o X.env) = eval o X.env := by rfl) : aE X (.Attribute o fl pos) Γ M P := fun Hi H σ ok en Q q => by
  refine ⟨fun σ H Q => WE X o σ H fun x H1 => ∃ a dx fs, x = .ref a ∧ H1 a = some (.ins C dx fs) ∧ spX X.K sx [.ref a] [] H1 Q, ⟨fun pins s σ H Q I h => ?_⟩, ?_⟩
  · refine attr_of hb (thn (pe_we.run pins s σ H _ I h) fun u s1 ⟨x, H1, I1, rx, a, dx, fs, ex, ea, q⟩ => ?_)
    subst ex
    obtain rfl : u = Value.ref a := rx
    obtain ⟨mA, O, _, _, _, _⟩ := ins_get I1.hok ea
    obtain ⟨od, J, _⟩ := O.look
    obtain ⟨rest, hrec⟩ := hp.rec_
    have I2 := I1.tok (s1.toks + 1)
    have hc : (PySem.W.clsIn X.K C).isSome = true := by
      obtain ⟨cd, hc, _⟩ := PySem.W.any_some c.hd
      rw [hc]
      rfl
    refine PySem.W.get_bind I1.kIn J (PySem.W.plainGet_of (c.get fl)).1 (PySem.W.findObj_data hc hp.at_ hp.get hp.tak) (PySem.W.plainGet_of (c.get fl)).2 (wpAny_call (PySem.W.prop_get (s := { s1 with toks := s1.toks + 1 }) I1.kIn hrec ?_))
    refine codeAny_mono (F.run X.A.in1 X.stack { s1 with toks := s1.toks + 1 } H1 [.ref a] [] [.ref a] [] Q hr.in1 I2.env0.in1 (.cons rfl .nil) .nil rfl q) fun r s' hq => ?_
    cases r with
    | error er => exact False.elim hq
    | ok fl =>
      cases fl with
      | ret u =>
        obtain ⟨v, H', I3, rv, q3⟩ := I2.after hq
        show wpAny _ _ (handedOut u) _ _ _
        rw [PySem.W.handedOut_of (handed_of rv)]
        exact wpAny_pure ⟨v, H', I3, rv, q3⟩
      | next => exact False.elim hq
      | brk => exact False.elim hq
      | cont => exact False.elim hq
  · refine ho Hi H σ ok en _ fun x M0 v0 Hi0 H0 h0 s0 ok0 r0 => ?_
    obtain ⟨rfl, rfl⟩ := h0
    obtain ⟨p, dx, gs, rfl, hp, rf⟩ := hob.rep ok0 r0
    exact ⟨p, dx, gs, rfl, hp, Hi0, _, [_], [], P, .cons r0 .nil, .nil, ok0, h, q.up s0⟩
/-- C.m is a staticmethod: its record at p, its def at g -/
structure SMet (K : PySem.W.Frag) (C : Addr) (mc : Value) (m : Str) (p g : Addr) : Prop where
  at_ : PySem.W.findCls K (.ref C) mc m = some (.get (.builtin "staticmethod.__get__") (.ref p) .none (.ref C))
  rc : ∃ rest, PySem.W.recIn K p "staticmethod" = some (.ref g :: rest)
  kp : PySem.W.keepIn K (.ref g) = true
theorem ae_smeth {mc : Value} {p g : Addr} {pl : Sem Bool} {ks : List Str} {sx : ASx} (r : ClX.CRead X.K C mc) (sm : SMet X.K C mc m p g) (F : FnX X.prog X.w X.K X.mg X.base n g ks (spX X.K sx)) (hr : Rm n X.A) (ho : aV X o Γ M (.ptr C))
    (h : aA X (e :: es) Γ M fun ds M1 => aKw X kws Γ M1 fun zs M2 => zs.length = ks.length ∧ sx ds zs M2 P)
    (hall : (backToKw pos (keywordEach kws X.env)).all (·.1.isSome) = true := by rfl) (hks : (backToKw pos (keywordEach kws X.env)).filterMap (·.1) = ks := by rfl)
    (he : starEach (e :: es) X.env = (false, eval e X.env) :: starEach es X.env := by rfl) (hpl : ((backTo pos (starEach (e :: es) X.env)).any (·.1) || (backToKw pos (keywordEach kws X.env)).any (·.1.isNone)) = false := by rfl)
    (ht : eval (.Call (.Attribute o m apos) (e :: es) kws pos) X.env = (do
      let ov ← eval o X.env
      standAt apos.atName
      let (f, first) ← holding [ov] (getMethod ov m pl)
      callWith pos f first (backTo pos (starEach (e :: es) X.env)) (backToKw pos (keywordEach kws X.env))) := by rfl) : aE X (.Call (.Attribute o m apos) (e :: es) kws pos) Γ M P := fun Hi H σ ok en Q q => by
  refine ⟨fun σ H Q => WE X o σ H fun x H0 => x = .ref C ∧ WA X (e :: es) σ H0 fun vs H1 => WK X kws σ H1 fun zs H2 => zs.length = ks.length ∧ spX X.K sx vs zs H2 Q, ⟨fun pins s σ H Q I h => ?_⟩, ?_⟩
  · refine PySem.W.methodCall_KW (pl := pl) (thn (pe_we.run pins s σ H _ I h) fun u s1 ⟨x, H1, I1, rx, ex, q⟩ => ?_) ht
    subst ex
    obtain rfl : u = Value.ref C := rx
    obtain ⟨rest, hp⟩ := sm.rc
    refine PySem.W.method_cls I1.kIn r.ga (PySem.W.cls_bind I1.kIn r.rd sm.at_ (wpAny_call (PySem.W.sm_get (s := { s1 with toks := s1.toks + 1 }) I1.kIn hp (PySem.W.handed_on rfl ?_))))
    have I2 := I1.tok (s1.toks + 1)
    refine PySem.W.callWith_KW (first := []) (h₀ := X.base) I.ok.mod.kin sm.kp hall (thn (pa_wa.run pos pins _ σ H1 _ I2 q) fun us s2 ⟨vs, H2, I3, r, q2⟩ => ?_) hpl he
    refine thn (pk_wk.run pos pins s2 σ H2 _ I3 q2) fun ws s3 ⟨zs, H3, I4, rz, l2, q3⟩ => ⟨I4.kIn, ?_⟩
    rw [hks]
    exact run_x F hr I4 r rz l2 q3
  · refine ho Hi H σ ok en _ fun x M0 v0 Hi0 H0 h0 s0 ok0 r0 => ?_
    obtain ⟨rfl, rfl⟩ := h0
    cases r0
    refine ⟨rfl, ?_⟩
    refine h Hi0 H0 σ ok0 (en.mono s0) _ fun ds M1 vs Hi1 H1 h1 s1 ok1 r1 => ?_
    refine h1 Hi1 H1 σ ok1 (en.mono (s0.trans s1)) _ fun zs M2 ws Hi2 H2 h2 s2 ok2 r2 => ?_
    exact ⟨r2.length.symm.trans h2.1, Hi2, M2, ds, zs, P, r1.mono s2, r2, ok2, h2.2, q.up ((s0.trans s1).trans s2)⟩

/-! ### isinstance -/
/-- a value's type -/
inductive TyV (K : PySem.W.Frag) (M : Mem) : Val → Value → Prop
  | non : TyV K M .non (.type "NoneType")
  | bl (b : Bool) : TyV K M (.bl b) (.type "bool")
  | int (i : Int) : TyV K M (.int i) (.type "int")
  | str (x : Str) : TyV K M (.str x) (.type "str")
  | tup (xs : List Val) : TyV K M (.tup xs) (.type "tuple")
  | lst {d : Val} {xs : List Val} : Vw M d (.lst xs) → TyV K M d (.type "list")
  | ob {C : Addr} {d : Val} {fs : List (Str × Val)} : Ob M C d fs → Cls K C → PySem.W.findIn K (.ref C) "__class__" = some (some (.builtin "object.__class__")) → PySem.W.specialIn K (.builtin "object.__class__") "__get__" = some (some (.builtin "getset_descriptor.__get__")) →
      PySem.W.takesIn K (.builtin "object.__class__") = some true → PySem.W.mroIn K C (.type "object") = some true → TyV K M d (.ref C)
theorem tyx_l {K : PySem.W.Frag} {H : Hp} {p : Addr} {xs : List V} (h : SqL K H p xs) : TyX K H (.ref p) (.type "list") := by
  rcases h with (h | ⟨o, h⟩) | h
  · exact .base (.lst h)
  · exact .base (.frz h)
  · obtain ⟨its, _, o, e, c, _⟩ := h
    exact .kList e c
theorem tyx_t {K : PySem.W.Frag} {H : Hp} {p : Addr} {xs : List V} (h : SqT K H p xs) : TyX K H (.ref p) (.type "tuple") := by
  rcases h with (h | ⟨o, h⟩) | h
  · exact .base (.tup h)
  · exact .fTuple h
  · obtain ⟨its, _, o, e, c, _⟩ := h
    exact .kTuple e c
theorem TyV.tyx {K : PySem.W.Frag} {Hi H : Hp} {t : Value} {v : V} (h : TyV K M d t) (ok : Ok K Hi M H) (r : Rep K Hi d v) : TyX K H v t := by
  cases h with
  | non => cases r; exact .base .non
  | bl b => cases r; exact .base (.bl b)
  | int b => cases r; exact .base (.int b)
  | str b => cases r; exact .base (.str b)
  | tup xs => cases r with
    | tup hq ra => exact tyx_t (sameT ok.im hq)
  | lst hv =>
    obtain ⟨p, ys, rfl, hq, _⟩ := hv.repL ok r
    exact tyx_l hq
  | ob ho c h1 h2 h3 h4 =>
    obtain ⟨p, dx, gs, rfl, hq, _⟩ := ho.rep ok r
    exact .base (.ins hq c h1 h2 h3 h4)
/-- a class as a value -/
inductive ClV : Val → Value → Prop
  | ty (n : String) : ClV (.ty n) (.type n)
  | own (C : Addr) : ClV (.ptr C) (.ref C)
theorem ae_isi {t u : Value} {bb : Bool} (hm : X.mg "isinstance" = none) (ha : aV X a Γ M d1) (hb : aV X b Γ M d2) (hc : ClV d2 u) (ht : TyV X.K M d1 t) (hk : PySem.W.kitOne X.K t u = some bb) (h : P (.bl bb) M) (hg : Gl X "isinstance" := by rfl)
    (hs : starEach [a, b] X.env = (false, eval a X.env) :: starEach [b] X.env := by rfl) (hs2 : starEach [b] X.env = (false, eval b X.env) :: starEach [] X.env := by rfl) (hpl : (backTo pos (starEach [b] X.env)).any (·.1) = false := by rfl) : aE X (.Call (.Name "isinstance" p1) [a, b] [] pos) Γ M P :=
  ae_callB call_isi hm (by decide +kernel) (aa_cons (ha.val (aa_cons (hb.val (aa_nil fun Hi H vs ok r Q q => by
    cases r with
    | cons r1 r2 =>
      cases r2 with
      | cons r2 r3 =>
        cases r3
        refine ⟨_, _, t, u, bb, rfl, ?_, ht.tyx ok r1, hk, q _ _ _ Hi H h (Same.refl _) ok (.bl _)⟩
        cases hc with
        | ty n => cases r2; exact .ty n
        | own C => cases r2; exact .own C)) hs2)) hs) hg (he := hs) (hpl := hpl)
/-- a built-in class by its name -/
theorem av_ty {T : String} (hm : X.mg x = none) (hv : bootBuiltins x = some (.type T)) (hg : Gl X x := by rfl) (hn : x ≠ "__name__" := by decide) (hd : (x == ("__debug__" : Str)) = false := by decide) : aV X (.Name x pos) Γ M (.ty T) :=
  ae_c (v := .ty T) (pe_bltn hg hm hv rfl hn hd) (fun _ _ => .ty T) ⟨rfl, rfl⟩

/-! ### all, sum, sorted, min, max -/
theorem ae_all (hm : X.mg "all" = none) (hc : X.calm = true) (ha : aE X a Γ M fun d M' => ∃ bs : List Bool, Vw M' d (.lst (bs.map .bl)) ∧ P (.bl (bs.all id)) M') (hg : Gl X "all" := by rfl) (hst : starEach [a] X.env = [(false, eval a X.env)] := by rfl) : aE X (.Call (.Name "all" p1) [a] [] pos) Γ M P :=
  ae_callB (cr_all hc) hm (by decide +kernel) (aa_cons (ha.mono fun d M' ⟨bs, hv, h⟩ => aa_nil fun Hi H vs ok r Q q => by
    cases r with
    | cons r1 r2 =>
      cases r2
      obtain ⟨p, ys, rfl, hq, ra⟩ := hv.repL ok r1
      rw [ra.bls] at hq
      exact ⟨p, bs, rfl, hq, q _ _ _ Hi H h (Same.refl _) ok (.bl _)⟩) hst) hg (he := hst) (hpl := rfl)
theorem ae_sum (hm : X.mg "sum" = none) (hc : X.calm = true) (ha : aE X a Γ M fun d M' => ∃ ns : List Int, Vw M' d (.lst (ns.map .int)) ∧ P (.int ns.sum) M') (hg : Gl X "sum" := by rfl) (hst : starEach [a] X.env = [(false, eval a X.env)] := by rfl) : aE X (.Call (.Name "sum" p1) [a] [] pos) Γ M P :=
  ae_callB (cr_sum hc) hm (by decide +kernel) (aa_cons (ha.mono fun d M' ⟨bs, hv, h⟩ => aa_nil fun Hi H vs ok r Q q => by
    cases r with
    | cons r1 r2 =>
      cases r2
      obtain ⟨p, ys, rfl, hq, ra⟩ := hv.repL ok r1
      rw [ra.ints] at hq
      exact ⟨p, bs, rfl, hq, q _ _ _ Hi H h (Same.refl _) ok (.int _)⟩) hst) hg (he := hst) (hpl := rfl)
theorem ae_sorted (hm : X.mg "sorted" = none) (ha : aE X a Γ M fun d M' => ∃ ns : List Int, Vw M' d (.lst (ns.map .int)) ∧ ∀ (ns' : List Int) (p : Addr), ns'.Perm ns → ns'.Pairwise (· ≤ ·) → P (.ptr p) ((p, .lst (ns'.map .int)) :: M')) (hg : Gl X "sorted" := by rfl) (hst : starEach [a] X.env = [(false, eval a X.env)] := by rfl) : aE X (.Call (.Name "sorted" p1) [a] [] pos) Γ M P :=
  ae_callB cr_sortedI hm (by decide +kernel) (aa_cons (ha.mono fun d M' ⟨ns, hv, h⟩ => aa_nil fun Hi H vs ok r Q q => by
    cases r with
    | cons r1 r2 =>
      cases r2
      obtain ⟨p, ys, rfl, hq, ra⟩ := hv.repL ok r1
      rw [ra.ints] at hq
      exact ⟨p, ns, rfl, hq, fun ns' l hp hs hl => q _ _ _ _ _ (h ns' l hp hs) (Same.refl _) (ok.new hl ⟨_, rfl, .ofInts ns'⟩) (.ptr l)⟩) hst) hg (he := hst) (hpl := rfl)
theorem ae_min2 (hm : X.mg "min" = none) (hc : X.calm = true) (ha : aV X a Γ M (.int i)) (hb : aV X b Γ M (.int j)) (h : P (.int (if j < i then j else i)) M) (hg : Gl X "min" := by rfl)
    (hs : starEach [a, b] X.env = (false, eval a X.env) :: starEach [b] X.env := by rfl) (hs2 : starEach [b] X.env = (false, eval b X.env) :: starEach [] X.env := by rfl) (hpl : (backTo pos (starEach [b] X.env)).any (·.1) = false := by rfl) : aE X (.Call (.Name "min" p1) [a, b] [] pos) Γ M P :=
  ae_callB (call_min2 hc) hm (by decide +kernel) (aa_cons (ha.val (aa_cons (hb.val (aa_nil fun Hi H vs ok r Q q => by
    cases r with
    | cons r1 r2 =>
      cases r2 with
      | cons r2 r3 =>
        cases r3
        cases r1
        cases r2
        exact ⟨i, j, rfl, q _ _ _ Hi H h (Same.refl _) ok (.int _)⟩)) hs2)) hs) hg (he := hs) (hpl := hpl)
theorem ae_max2 (hm : X.mg "max" = none) (hc : X.calm = true) (ha : aV X a Γ M (.int i)) (hb : aV X b Γ M (.int j)) (h : P (.int (if j > i then j else i)) M) (hg : Gl X "max" := by rfl)
    (hs : starEach [a, b] X.env = (false, eval a X.env) :: starEach [b] X.env := by rfl) (hs2 : starEach [b] X.env = (false, eval b X.env) :: starEach [] X.env := by rfl) (hpl : (backTo pos (starEach [b] X.env)).any (·.1) = false := by rfl) : aE X (.Call (.Name "max" p1) [a, b] [] pos) Γ M P :=
  ae_callB (call_max2 hc) hm (by decide +kernel) (aa_cons (ha.val (aa_cons (hb.val (aa_nil fun Hi H vs ok r Q q => by
    cases r with
    | cons r1 r2 =>
      cases r2 with
      | cons r2 r3 =>
        cases r3
        cases r1
        cases r2
        exact ⟨i, j, rfl, q _ _ _ Hi H h (Same.refl _) ok (.int _)⟩)) hs2)) hs) hg (he := hs) (hpl := hpl)

/-! ### + and * of lists and tuples -/
def rCatL (K : PySem.W.Frag) : R2 := fun x y H Q => ∃ l b xs zs, x = .ref l ∧ y = .ref b ∧ SqL K H l xs ∧ SqL K H b zs ∧ xs.length + zs.length ≤ sizeLine ∧ ∀ p, H p = none → Q (.ref p) (upd H p (.lst (xs ++ zs)))
theorem op_catL : OpR X (binaryOp .Add) (rCatL X.K) := by
  intro pins s σ H x y v u Q I rx ry h
  obtain ⟨l, b, xs, zs, rfl, rfl, hH, hB, hz, q⟩ := h
  cases rx
  cases ry
  obtain ⟨its, r, pl, z⟩ := I.list hH
  obtain ⟨its2, r2, pl2, z2⟩ := I.list hB
  have l1 := r.length
  have l2 := r2.length
  obtain ⟨⟨cl, dd, da, sl⟩, ho, hc, n, hd⟩ := pl.isList
  obtain ⟨⟨cl2, dd2, da2, sl2⟩, ho2, hc2, n2, hd2⟩ := pl2.isList
  obtain rfl : cl = .type "list" := hc
  obtain rfl : cl2 = .type "list" := hc2
  obtain rfl : da = .seq its.toArray n := hd
  obtain rfl : da2 = .seq its2.toArray n2 := hd2
  refine concat_meets ⟨_, ho, rfl⟩ ⟨_, ho2, rfl⟩ noFill_list_add seq_list_add PySem.F.slot_list_add PySem.F.entry_list_add (PySem.F.args_list_add_2 _ _) (list_addW l b its.toArray its2.toArray n n2 dd dd2 sl sl2 (by rw [List.size_toArray, List.size_toArray]; omega)) ⟨ho, ho2, ?_⟩
  rw [show its.toArray ++ its2.toArray = (its ++ its2).toArray by simp]
  exact ⟨.ref _, _, I.lnew (t' := s.toks) (r.append r2) (by rw [List.length_append]; omega), rfl, q _ I.fresh⟩
theorem rv_catL {xs ys : List Val} (h1 : Vw M d1 (.lst xs)) (h2 : Vw M d2 (.lst ys)) (hl : xs.length + ys.length ≤ sizeLine) (h : ∀ p, P (.ptr p) ((p, .lst (xs ++ ys)) :: M)) : RV X (rCatL X.K) d1 d2 M P := fun Hi H v w ok rv rw_ Q q => by
  obtain ⟨p, us, rfl, hq, ra⟩ := h1.repL ok rv
  obtain ⟨p', ws, rfl, hq', ra'⟩ := h2.repL ok rw_
  exact ⟨p, p', us, ws, rfl, rfl, hq, hq', by rw [← ra.length, ← ra'.length]; exact hl, fun l hl => q _ _ _ _ _ (h l) (Same.refl _) (ok.new hl ⟨_, rfl, ra.append ra'⟩) (.ptr l)⟩
theorem rv_catT {xs ys : List Val} (hl : xs.length + ys.length ≤ sizeLine) (h : P (.tup (xs ++ ys)) M) : RV X (rCatA X.K) (.tup xs) (.tup ys) M P := fun Hi H v w ok rv rw_ Q q => by
  cases rv with
  | @tup p us _ hq ra =>
    cases rw_ with
    | @tup p' ws _ hq' ra' =>
      refine ⟨p, p', us, ws, rfl, rfl, sameT ok.im hq, sameT ok.im hq', by rw [← ra.length, ← ra'.length]; exact hl, fun e => ?_, fun _ e => ?_, fun _ _ l hl => ?_⟩
      · subst e
        cases ra
        exact q _ _ _ Hi H h (Same.refl _) ok (.tup hq' ra')
      · subst e
        cases ra'
        rw [List.append_nil] at h
        exact q _ _ _ Hi H h (Same.refl _) ok (.tup hq ra)
      · have s2 := same_upd (o := .tup (us ++ ws)) (ok.none hl)
        exact q _ _ _ _ _ h s2 (ok.imm hl) (.tup (SqT.of upd_same) ((ra.append ra').mono s2))
end
end Ab

namespace Ab
open PySem PySem.Spec PyProof.Rows L2
section
variable {X : Cx} {Γ : Gam} {M : Mem} {P : Val → Mem → Prop} {e a b c o : Expr} {es : List Expr} {kws : List Keyword} {pos p1 p2 apos kpos : Pos} {k : AK} {d d1 d2 d3 : Val} {i j : Int} {x y m : Str} {n : Nat} {f C : Addr}

/-! ### repr of lists and tuples -/
def rRepr (K : PySem.W.Frag) : List V → Hp → VK → Prop := fun xs H Q => ∃ (p : Addr) (d : PyData), xs = [.ref p] ∧ Dp K H (.ref p) d ∧ d.showable = true ∧ d.hasDict = false ∧ d.depth ≤ 60 ∧ d.shown.length ≤ sizeLine ∧ Q (.str d.shown) H
theorem call_repr {n : Nat} (hr : Rm n X.A) : CallR X (.builtin "repr") (rRepr X.K) := by
  intro pins s σ H xs us Q I r h
  obtain ⟨p, d, rfl, hd, h1, h2, h3, h4, q⟩ := h
  obtain ⟨u, rfl, ru⟩ := vals1 r
  obtain rfl : u = Value.ref p := ru
  obtain ⟨as, rd⟩ := Dp.reads I d (.ref p) (.ref p) hd rfl
  have hu := hr.u64
  exact repr_of_reads' rd h1 (PyData.noDict_hsm h2) hr.gd (by omega) (fun _ _ z => z) (fun h' u tk hk => ⟨.str d.shown, H, I.kept (h' := h') (t' := tk) hk, ⟨_, rfl⟩, q⟩) h4
theorem rep_ref {K : PySem.W.Frag} {H : Hp} {d : Val} {v : V} {p : PyData} (r : Rep K H d v) (h : toD d = some p) (hl : (∃ xs, p = .list xs) ∨ ∃ xs, p = .tuple xs) : ∃ a, v = .ref a := by
  cases r <;> first | exact ⟨_, rfl⟩ | (rcases hl with ⟨_, rfl⟩ | ⟨_, rfl⟩ <;> cases h)
theorem ae_repr {n : Nat} (hr : Rm n X.A) (hm : X.mg "repr" = none) (ha : aE X a Γ M fun d M' => ∃ d' p, Vw M' d d' ∧ toD d' = some p ∧ ((∃ xs, p = .list xs) ∨ ∃ xs, p = .tuple xs) ∧ p.showable = true ∧ p.hasDict = false ∧ p.depth ≤ 60 ∧ p.shown.length ≤ sizeLine ∧ P (.str p.shown) M')
    (hg : Gl X "repr" := by rfl) (hst : starEach [a] X.env = [(false, eval a X.env)] := by rfl) : aE X (.Call (.Name "repr" p1) [a] [] pos) Γ M P :=
  ae_callB (call_repr hr) hm (by decide +kernel) (aa_cons (ha.mono fun d M' ⟨d', p, hv, hd, hl, h1, h2, h3, h4, h⟩ => aa_nil fun Hi H vs ok r Q q => by
    cases r with
    | cons r1 r2 =>
      cases r2
      have rH := hv.rep ok r1
      obtain ⟨l, rfl⟩ := rep_ref rH hd hl
      exact ⟨l, p, rfl, rep_dp _ rH hd, h1, h2, h3, h4, q _ _ _ Hi H h (Same.refl _) ok (.str _)⟩) hst) hg (he := hst) (hpl := rfl)

/-! ### [x] * n -/
theorem rv_repL {xs : List Val} {p : Addr} {jj : Int} {n : Nat} (hm : M[n]? = some (p, .lst xs)) (h1 : 0 ≤ jj) (h2 : jj < 2 ^ 31) (hl : xs.length * jj.toNat ≤ sizeLine) (h : ∀ q, P (.ptr q) ((q, .lst (List.replicate jj.toNat xs).flatten) :: M)) : RV X rRep (.ptr p) (.int jj) M P := fun Hi H v w ok rv rw_ Q q => by
  cases rv
  cases rw_
  obtain ⟨_, o, ho, ys, rfl, ra⟩ := ok.get hm
  refine ⟨p, jj, ys, rfl, rfl, ho, by omega, by omega, by rw [← ra.length]; exact hl, fun l hl => q _ _ _ _ _ (h l) (Same.refl _) (ok.new hl ⟨_, rfl, ?_⟩) (.ptr l)⟩
  have : ∀ m : Nat, RepA X.K Hi (List.replicate m xs).flatten (List.replicate m ys).flatten := by
    intro m
    induction m with
    | zero => exact .nil
    | succ m ih =>
      rw [List.replicate_succ, List.replicate_succ, List.flatten_cons, List.flatten_cons]
      exact ra.append ih
  exact this _

/-! ### dict displays -/
def aPr (X : Cx) (ps : List (Expr × Expr)) (Γ : Gam) (M : Mem) (P : List (Key × Val) → Mem → Prop) : Prop := ∀ Hi H σ, Ok X.K Hi M H → EnvR X.K Hi Γ σ → ∀ Q : List (V × V) → Hp → Prop,
  (∀ kvs M' (ws : List (Key × V)) Hi' H', P kvs M' → Same Hi Hi' → Ok X.K Hi' M' H' → RepK X.K Hi' kvs ws → Q (ws.map fun kv => (kV kv.1, kv.2)) H') → tPairs (ps.map fun p => (WE X p.1, WE X p.2)) σ H Q
theorem ap_nil {P : List (Key × Val) → Mem → Prop} (h : P [] M) : aPr X [] Γ M P := fun Hi H σ ok en Q q => q [] M [] Hi H h (Same.refl _) ok .nil
theorem ap_cons {P : List (Key × Val) → Mem → Prop} {kk : Str} {ps : List (Expr × Expr)} (hk : aV X a Γ M (.str kk)) (hv : aV X e Γ M d) (h : aPr X ps Γ M fun kvs M' => P ((.inr kk, d) :: kvs) M') : aPr X ((a, e) :: ps) Γ M P := fun Hi H σ ok en Q q => by
  refine hk Hi H σ ok en _ fun x M1 v1 Hi1 H1 h1 s1 ok1 r1 => ?_
  obtain ⟨rfl, rfl⟩ := h1
  cases r1
  refine hv Hi1 H1 σ ok1 (en.mono s1) _ fun x M2 v2 Hi2 H2 h2 s2 ok2 r2 => ?_
  obtain ⟨rfl, rfl⟩ := h2
  have s12 := s1.trans s2
  refine h Hi2 H2 σ ok2 (en.mono s12) _ fun kvs M' ws Hi' H' h3 s3 ok3 r3 => ?_
  exact q ((.inr kk, _) :: kvs) M' ((.inr kk, v2) :: ws) Hi' H' h3 (s12.trans s3) ok3 (.cons (r2.mono s3) r3)
def mergeA (kvs more : List (Key × Val)) : List (Key × Val) := more.foldl (fun acc kv => dPut acc kv.1 kv.2) kvs
theorem rep_merge {K : PySem.W.Frag} {H : Hp} : ∀ {more : List (Key × Val)} {ws : List (Key × V)} {kvs : List (Key × Val)} {gs : List (Key × V)}, RepK K H more ws → RepK K H kvs gs → RepK K H (mergeA kvs more) (mergeK gs ws)
  | [], _, _, _, .nil, r => r
  | (kk, dd) :: more, _, _, _, .cons (v := v) (gs := gs) a t, r => by
    show RepK K H (mergeA (dPut _ kk dd) more) (mergeK (putK _ kk v) gs)
    exact rep_merge t (r.put a)
theorem disp_of {ps : List (Expr × Expr)} {keys : List (Option Expr)} {values : List Expr} (hpp : PPs X pos keys values (ps.map fun p => (WE X p.1, WE X p.2))) (hall : keys.all (·.isSome) = true) (hl : keys.length = values.length) (h0 : keys ≠ []) (h15 : keys.length ≤ 15)
    (h : ∀ p, aPr X ps Γ ((p, .dk []) :: M) fun kvs M' => ∃ M2, M' = (p, .dk []) :: M2 ∧ kvs.length ≤ 15 ∧ P (.ptr p) ((p, .dk (mergeA [] kvs)) :: M2)) : aE X (.Dict keys values pos) Γ M P := fun Hi H σ ok en Q q => by
  refine ⟨_, pe_disp hpp hall hl h0 h15, fun p hp => ?_⟩
  refine h p Hi _ σ (ok.new hp ⟨[], rfl, .nil⟩) en _ fun kvs M' ws Hi' H' h1 s1 ok1 r1 => ?_
  obtain ⟨M2, rfl, h15', hP⟩ := h1
  obtain ⟨_, o, ho, gs, rfl, rk⟩ := ok1.ce p _ List.mem_cons_self
  cases rk
  exact ⟨ho, ws, rfl, by rw [← r1.length]; exact h15', q _ _ _ Hi' _ hP s1 (ok1.set (i := 0) rfl ⟨_, rfl, rep_merge r1 .nil⟩) (.ptr p)⟩
theorem ae_dict3 {a1 a2 a3 e1 e2 e3 : Expr} (h : ∀ p, aPr X [(a1, e1), (a2, e2), (a3, e3)] Γ ((p, .dk []) :: M) fun kvs M' => ∃ M2, M' = (p, .dk []) :: M2 ∧ kvs.length ≤ 15 ∧ P (.ptr p) ((p, .dk (mergeA [] kvs)) :: M2)) : aE X (.Dict [some a1, some a2, some a3] [e1, e2, e3] pos) Γ M P :=
  disp_of (pps_cons pe_we pe_we (pps_cons pe_we pe_we (pps_cons pe_we pe_we pps_nil))) rfl rfl (fun z => nomatch z) (Nat.le_of_ble_eq_true rfl) h

/-! ### a, b, c = e1, e2, e3 -/
theorem ps_par3 {n1 n2 n3 : Nat} {x y z : Str} {e1 e2 e3 : Expr} {ta : TA} {px py pz pt : Pos} {kt k2 pt2} (hc : X.calm = true) (hN : X.N.Nodup) (hi : X.N[n1]? = some x) (hj : X.N[n2]? = some y) (hk : X.N[n3]? = some z) (h12 : n1 ≠ n2) (h13 : n1 ≠ n3) (h23 : n2 ≠ n3)
    (hx : X.env.scope.names.lookup x = some .local) (hy : X.env.scope.names.lookup y = some .local) (hz : X.env.scope.names.lookup z = some .local) (ha : PA X [e1, e2, e3] ta)
    (hw : swappedStores [.Tuple [.Name x px, .Name y py, .Name z pz] kt pt] (.Tuple [e1, e2, e3] k2 pt2) X.env = pure (some [x, y, z]))
    (hs : swapsWithSole [.Tuple [.Name x px, .Name y py, .Name z pz] kt pt] (.Tuple [e1, e2, e3] k2 pt2) pos.line X.env = pure false) :
    PS X (.Assign [.Tuple [.Name x px, .Name y py, .Name z pz] kt pt] (.Tuple [e1, e2, e3] k2 pt2) pos) (fun D σ H => ta σ H fun vs H1 => ∃ v1 v2 v3, vs = [v1, v2, v3] ∧ D.nx (((σ.set n1 (some v1)).set n2 (some v2)).set n3 (some v3)) H1) := by
  refine ⟨fun pins s σ H D I h => ?_⟩
  rw [exec_Assign_arm, hs]
  refine wpAny_bind (wpAny_standAt (wpAny_bind (wpAny_pure ?_)))
  rw [if_neg (by decide)]
  refine wpAny_bind (Tuple_ (thn (ha.run _ pins s σ H _ I h) fun us s1 ⟨vs, H1, I1, r1, v1, v2, v3, e1, q1⟩ => ?_))
  subst e1
  obtain ⟨u1, u2, u3, rfl, ru1, ru2, ru3⟩ : ∃ u1 u2 u3, us = [u1, u2, u3] ∧ RelV v1 u1 ∧ RelV v2 u2 ∧ RelV v3 u3 := by
    cases r1 with
    | cons p q =>
      cases q with
      | cons p' q' =>
        cases q' with
        | cons p'' q'' =>
          cases q''
          exact ⟨_, _, _, rfl, p, p', p''⟩
  refine wpAny_newObj_type ?_ (by show 3 ≤ sizeLine; decide)
  have I2 : Inv X pins σ H1 { s1 with heap := s1.heap.push { cls := .type "tuple", data := .seq [u1, u2, u3].toArray } } := I1.kept (t' := s1.toks) fun b o e => Heap.get?_push_of_some _ e
  rw [hw]
  refine wpAny_bind (wpAny_pure ?_)
  show wpAny (model X.prog X.w) X.A (do rule "assign.swapped-stores"; let items ← unpackItems (.ref s1.heap.objs.size) 3 none; assignInOrder [fun v => bindName X.env z v, fun v => bindName X.env y v, fun v => bindName X.env x v] items.reverse; pure Flow.next) _ _ _
  refine wpAny_bind (wpAny_rule (wpAny_bind (unpackItems_tuple (items := #[u1, u2, u3]) (I.ok.hd hc) (IsTup.new s1.heap _) fun h' hx' => ?_)))
  have I3 := I2.kept (h' := h') (t' := s1.toks) fun b o e => hx' b o (Nat.ne_of_lt (Heap.lt_size e)) e
  show wpAny _ _ (assignInOrder [fun v => bindName X.env z v, fun v => bindName X.env y v, fun v => bindName X.env x v] [u3, u2, u1] >>= fun _ => pure Flow.next) _ _ _
  refine wpAny_bind (assignInOrder_cons (wpAny_bindName (store_ok I3 hN hk (.inl hz) ru3 (fun s2 I4 => ?_) (.inr hz))))
  refine assignInOrder_cons (wpAny_bindName (store_ok I4 hN hj (.inl hy) ru2 (fun s3 I5 => ?_) (.inr hy)))
  refine assignInOrder_cons (wpAny_bindName (store_ok I5 hN hi (.inl hx) ru1 (fun s4 I6 => assignInOrder_nil (wpAny_pure ?_)) (.inr hx)))
  have e : ((σ.set n3 (some v3)).set n2 (some v2)).set n1 (some v1) = ((σ.set n1 (some v1)).set n2 (some v2)).set n3 (some v3) := by
    rw [List.set_comm _ _ (Ne.symm h12), List.set_comm _ _ (Ne.symm h13), List.set_comm _ _ (Ne.symm h23)]
  rw [e] at I6
  exact ⟨_, H1, I6, q1⟩
theorem as_par3 {x y z : Str} {e1 e2 e3 : Expr} {px py pz pt : Pos} {kt k2 pt2} (n1 n2 n3 : Nat) (hN : X.N.Nodup) (hc : X.calm = true) (he : aA X [e1, e2, e3] Γ M fun ds M' => ∃ d1 d2 d3, ds = [d1, d2, d3] ∧ k.nx (((Γ.set n1 (some d1)).set n2 (some d2)).set n3 (some d3)) M')
    (h12 : n1 ≠ n2 := by decide) (h13 : n1 ≠ n3 := by decide) (h23 : n2 ≠ n3 := by decide) (hi : X.N[n1]? = some x := by rfl) (hj : X.N[n2]? = some y := by rfl) (hk : X.N[n3]? = some z := by rfl) (hx : X.env.scope.names.lookup x = some .local := by rfl) (hy : X.env.scope.names.lookup y = some .local := by rfl) (hz : X.env.scope.names.lookup z = some .local := by rfl)
    (hw : swappedStores [.Tuple [.Name x px, .Name y py, .Name z pz] kt pt] (.Tuple [e1, e2, e3] k2 pt2) X.env = pure (some [x, y, z]) := by rfl)
    (hs : swapsWithSole [.Tuple [.Name x px, .Name y py, .Name z pz] kt pt] (.Tuple [e1, e2, e3] k2 pt2) pos.line X.env = pure false := by rfl) : aS X (.Assign [.Tuple [.Name x px, .Name y py, .Name z pz] kt pt] (.Tuple [e1, e2, e3] k2 pt2) pos) Γ M k := fun Hi H σ ok en D q => by
  refine ⟨_, ps_par3 hc hN hi hj hk h12 h13 h23 hx hy hz pa_wa hw hs, ?_⟩
  refine he Hi H σ ok en _ fun ds M1 vs Hi1 H1 h1 s1 ok1 r1 => ?_
  obtain ⟨d1, d2, d3, rfl, h2⟩ := h1
  cases r1 with
  | cons r1 r2 =>
    cases r2 with
    | cons r2 r3 =>
      cases r3 with
      | cons r3 r4 =>
        cases r4
        exact ⟨_, _, _, rfl, q.nx _ _ _ Hi1 H1 h2 s1 ok1 ((((en.mono s1).set r1).set r2).set r3)⟩
end

/-! ### a def with a star and keyword-only parameters -/
section
variable {P : Program} {w : World} {K : PySem.W.Frag} {mg : Str → Option Value} {base : Heap}
/-- def f(a, *v, k): called f(x, .., k = y) -/
theorem fnx_star {x qual : Str} {params : Arguments} {body : List Stmt} {sc : Scope} {kws : List (Str × V)} {f : Addr} {fd : FuncData} {N : List Str} {pa pv pk : Str} {k : Nat} {s0 : ASp} (F : FunD K x qual params body sc [] kws f fd) (S : FnScope N [pa, pk, pv] sc)
    (hb : ∀ (kV doc pm : Value) (an : Option Addr) (cdv ct u w : Value) (us : List Value), bindArgs (PySem.W.fnOf x qual params body sc .none kV doc pm an cdv ct) ⟨u :: us, [(pk, w)]⟩ = (newTuple us >>= fun t => pure [(pa, u), (pk, w), (pv, t)]))
    (hbody : BodyOk P w K mg base k f N qual sc body s0) : FnX P w K mg base (k + 1) f [pk] (spX K fun ds es M R => ∃ d ds' e, ds = d :: ds' ∧ es = [e] ∧ ds'.length ≤ sizeLine ∧ s0 [d, e, .tup ds'] M R) := by
  refine ⟨fun A outer s H us ws vs zs Q hr e0 r rz hz hsp => ?_⟩
  obtain ⟨Hi, M, ds, es, R, ra, re, ok, ⟨d, ds', ed, e1, e2, hl, hs⟩, q⟩ := hsp
  subst e1 e2
  obtain ⟨oc, od, dV, kV, doc, pm, an, cdv, ct, osl, rfl, lk, hcd, hD, _⟩ := F.ex
  obtain ⟨_, rfl⟩ : ([] : List V) = [] ∧ dV = .none := by
    rcases hD with h | ⟨e, _⟩
    · exact h
    · exact absurd rfl e
  cases ra with
  | @cons _ v0 _ vs' r0 ra =>
  cases re with
  | @cons _ z0 _ zs' rz0 re =>
  cases re
  cases r with
  | @cons _ u0 _ us' ru0 r =>
  cases rz with
  | @cons _ w0 _ ws' rw0 rz =>
  cases rz
  have hn : H s.heap.objs.size = none := e0.hok.fresh (Nat.le_refl _)
  have hl2 : us'.length ≤ sizeLine := by rw [← r.length, ← ra.length]; exact hl
  refine StX.run_bnd (CX := CX0) (E := E0) (G := fun xs H2 => ∃ p, H p = none ∧ xs = [v0, z0, .ref p] ∧ H2 = upd H p (.tup vs')) lk hcd S hr.room e0 (fun A' Ex Q' h => ?_) fun s2 H2 xs hG hr' => ?_
  · show wpAny (model P w) A' (bindArgs _ ⟨u0 :: us', [(pk, w0)]⟩) Q' Ex s
    rw [hb]
    refine wpAny_bind (wpAny_newTuple (wpAny_pure ?_) hl2)
    have new : ObjOk P w (upd H s.heap.objs.size (.tup vs')) (s.heap.push ({ cls := .type "tuple", data := .seq us'.toArray } : Obj)) s.heap.objs.size (.tup vs') := ⟨by rw [← ra.length]; exact hl, us', r, ⟨_, Heap.get?_push_size _ rfl, rfl, _, rfl⟩⟩
    have un := StX.un_laid (fs := frs outer) (s := s) (o := ({ cls := .type "tuple", data := .seq us'.toArray } : Obj)) (u := .tup vs') hn
    exact h _ _ [v0, z0, .ref s.heap.objs.size] [u0, w0, .ref s.heap.objs.size] (StX.env0_laid e0 new) un rfl (fun _ _ z => z) (.cons ru0 (.cons rw0 (.cons rfl .nil))) rfl ⟨_, hn, rfl, rfl⟩
  · obtain ⟨p, hp, rfl, rfl⟩ := hG
    have s2' := same_upd (o := .tup vs') (ok.none hp)
    obtain ⟨t, pp, z⟩ := body_of (hbody cdv A outer s2 _ E0 (hr.deeper _)) (Q := Q) (vs := [v0, z0, .ref p]) ⟨_, M, [d, ed, .tup ds'], R, .cons (r0.mono s2') (.cons (rz0.mono s2') (.cons (.tup (SqT.of upd_same) (ra.mono s2')) .nil)), ok.imm hp, hs, q.up s2'⟩
    exact ⟨t, pp.nox, z⟩
end
end Ab

namespace Ab
open PySem PySem.Spec PyProof.Rows L2
/-! the end of a law: its def runs in the claim's own surroundings, where nothing is guarded -/
/-- only the script is known of -/
def hpS (a : Addr) (o : Obj) (xs : List V) : Hp := fun b => if b = a then some (.frz o (.lst xs)) else none
theorem run_law {P : Program} {w : World} {K : PySem.W.Frag} {mg mb : Str → Option Value} {k : Nat} {fa a : Addr} {sp : List V → List V → Hp → VK → Prop} {s : Shared} {vs : List Value} {ns : List Int}
    (KX : K.In s.heap) (hns : s.heap.Ns mainGlobals mg) (hbl : s.heap.Ns builtinsNs mb) (hbb : ∀ x : Str, x ≠ "__name__" → mb x = bootBuiltins x) (hlim : s.heap.NoLimit) (hg : s.gens = #[])
    (ha : s.heap.get? a = some { cls := .type "list", data := .seq vs.toArray }) (hi : IntsAre vs ns) (hl : ns.length ≤ sizeLine) (hr : Rm k callerA)
    (F : ∀ bs : Heap, K.In bs → bs.Ns mainGlobals mg → FnX P w K mg bs k fa [] sp) (hsp : ∀ H : Hp, SqL K H a (ns.map V.int) → sp [.ref a] [] H (fun v _ => v = .bl true)) :
    codeAny (model P w) callerA (.call (.ref fa) ⟨[.ref a], []⟩) (fun r s' => r = .ok (.ret (.bool true)) ∧ OldK s.heap s'.heap ∧ s'.os = s.os ∧ AllBare s'.gens) s := by
  -- H: nothing, or the script alone; frozen things come out as they went in
  have go : ∀ H : Hp, (∀ b o, H b = some o → b = a ∧ K.lookup a = none ∧ ∃ ob xs, o = .frz ob (.lst xs)) → HOk P w H s.heap → SqL K H a (ns.map V.int) →
      codeAny (model P w) callerA (.call (.ref fa) ⟨[.ref a], []⟩) (fun r s' => r = .ok (.ret (.bool true)) ∧ OldK s.heap s'.heap ∧ s'.os = s.os ∧ AllBare s'.gens) s := by
    intro H only hok hS
    have free : ∀ {b : Addr} {o : Obj} {es : Array DictEntry} {ep : Nat}, s.heap.get? b = some o → o.data = .dict es ep → H b = none := fun {b o es ep} e dd => by
      cases q : H b with
      | none => rfl
      | some u =>
        obtain ⟨rfl, _⟩ := only b u q
        rw [ha] at e
        cases e
        exact nomatch (show Data.seq vs.toArray _ = Data.dict es ep from dd)
    have nsOf : ∀ {b : Addr} {m : Str → Option Value}, s.heap.Ns b m → (hidT s.heap H).Ns b m := fun {b m} ⟨o, es, ep, e, dd, r⟩ => ⟨o, es, ep, hidT_get e (free e dd), dd, r⟩
    have kin : K.In (hidT s.heap H) := fun b o e => hidT_get (KX b o e) (by
      cases q : H b with
      | none => rfl
      | some u =>
        obtain ⟨rfl, hk, _⟩ := only b u q
        rw [hk] at e
        cases e)
    obtain ⟨mc, l1, l2⟩ := hlim
    have e0 : Env0 P w K mg (hidT s.heap H) callerA [] s H := ⟨rfl, ⟨kin, nsOf hns, ⟨mb, nsOf hbl, hbb⟩, mc, nsOf l1, l2⟩, fun b o e => of_hidT e, Nat.le_of_eq (hidT_size _ _), trivial, (fun b hb => nomatch hb), hok, .of_eq hg⟩
    refine codeAny_mono ((F _ kin (nsOf hns)).run callerA [] s H [.ref a] [] [.ref a] [] _ hr e0 (.cons rfl .nil) .nil rfl (hsp H hS)) fun r s' h => ?_
    cases r with
    | error e => exact False.elim h
    | ok fl =>
      cases fl with
      | ret u =>
        obtain ⟨v, H', os, bare, un, hok', rv, rfl⟩ := h
        obtain rfl : u = Value.bool true := rv
        refine ⟨rfl, OldK.of_keep fun b o e => ?_, os, bare⟩
        cases q : H b with
        | none => exact un.keep b o e q (fun z => nomatch z) (fun z => nomatch z)
        | some u =>
          obtain ⟨rfl, _, ob, xs, rfl⟩ := only b u q
          have e1 := (hok _ _ q).1
          rw [e] at e1
          cases e1
          exact (hok' _ _ (un.frzs _ _ _ q)).1
      | next => exact False.elim h
      | brk => exact False.elim h
      | cont => exact False.elim h
  have rv := vals_ints hi
  cases hk : K.lookup a with
  | some o =>
    have e := KX a o hk
    rw [ha] at e
    cases e
    refine go (fun _ => none) (fun _ _ z => nomatch z) (fun _ _ z => nomatch z) (.inr ⟨_, vs.toArray, _, hk, rfl, rfl, rfl, ?_, by simpa using rv⟩)
    rw [List.size_toArray, hi.length]
    exact hl
  | none =>
    refine go (hpS a { cls := .type "list", data := .seq vs.toArray } (ns.map V.int)) (fun b o z => ?_) (fun b o z => ?_) (.inl (.inr ⟨_, if_pos rfl⟩))
    · unfold hpS at z
      by_cases hb : b = a
      · rw [if_pos hb] at z
        cases z
        exact ⟨hb, hk, _, _, rfl⟩
      · rw [if_neg hb] at z
        cases z
    · unfold hpS at z
      by_cases hb : b = a
      · rw [if_pos hb] at z
        cases z
        subst hb
        exact ⟨ha, by rw [List.length_map]; exact hl, vs, _, rv, ha⟩
      · rw [if_neg hb] at z
        cases z
/-- a law's promise: the script's ints in, True out -/
def aLaw : ASx := fun ds _ M R => ∃ ns : List Int, ds = [.lst (ns.map .int)] ∧ ns.length ≤ 63 ∧ R (.bl true) M
theorem walk_x {l : PySem.W.OpenLaw} {k : Nat} {q : Program} {loose : List Str} {XP : (Str → Option Value) → Heap → Prop} {YP : World → Heap → Prop} {d : DefRec} {K : Params → PySem.W.Frag}
    (hn : l.most = some 63) (hdf : d.params.defaults = []) (hr : Room k callerA) (hY : ∀ (w : World) (h : Heap), YP w h → (K w.params).In h)
    (F : ∀ (w : World) (mg : Str → Option Value) (fa : Addr) (h : Heap), (K w.params).In h → h.Ns mainGlobals mg → mg d.name = some (.ref fa) →
        ∀ bs : Heap, (K w.params).In bs → bs.Ns mainGlobals mg → FnX l.prog w (K w.params) mg bs k fa [] (spX (K w.params) aLaw)) :
    PySem.W.WalkO q loose XP YP l.row.toRowW d [] (fun f vs => PySem.call f vs) := by
  refine Att.attach_call hn hdf fun w s₀ s₁ mg mb fa o pm cd doc a vs ns G Y ho hd hcd hmg hobj hints hlen hg => ?_
  have KX := hY w _ Y
  refine run_law KX G.T.g G.T.b G.T.builtins G.T.nolimit hg hobj hints (Nat.le_trans hlen (by decide)) ⟨hr, rfl⟩ (F w mg fa _ KX G.T.g hmg) fun H hS => ?_
  refine ⟨H, [], [.lst (ns.map .int)], [], fun d _ => d = .bl true, .cons (.lst hS (.ofInts ns)) .nil, .nil, Ok.all H, ⟨ns, rfl, hlen, rfl⟩, ?_⟩
  rintro d M' v Hi' H' rfl _ _ r
  cases r
  rfl
end Ab

namespace Ab
open PySem PySem.Spec PyProof.Rows L2
section
variable {X : Cx} {Γ : Gam} {M : Mem} {P : Val → Mem → Prop} {e a b c o : Expr} {es : List Expr} {pos p1 p2 apos kpos : Pos} {k : AK} {d d1 d2 d3 : Val} {i j : Int} {x y m : Str} {n : Nat} {f C : Addr}
theorem av_neg (h : aV X a Γ M (.int i)) : aV X (.UnaryOp .USub a pos) Γ M (.int (-i)) := fun Hi H σ ok en Q q => by
  refine ⟨_, pe_un un_neg pe_we, ?_⟩
  refine h Hi H σ ok en _ fun x M1 v Hi1 H1 h1 s1 ok1 r1 => ?_
  obtain ⟨rfl, rfl⟩ := h1
  cases r1
  exact ⟨i, rfl, q _ _ _ Hi1 H1 ⟨rfl, rfl⟩ s1 ok1 (.int _)⟩
/-- a comprehension whose items are told by their number, and that changes nothing -/
theorem ae_lcP {tg iter elt : Expr} {scope : Scope} (own : List (Str × Nat)) {n : Nat} {it : Nat → Val} (g : Nat → Val) (hc : X.calm = true) (hN : X.N.Nodup) (ok : BlkOk X.N X.env.scope scope own)
    (hi : aI X tg iter Γ M n it (fun _ => True) (fun M' => M' = M))
    (hs : ∀ i acc D, i < n → bG X scope (own.map (·.2)) tg (it i) (wipeG Γ (own.map (·.2))) ((D, .lst acc) :: M) fun Γ2 M2 => bE X scope elt Γ2 M2 fun y M4 => y = g i ∧ M4 = (D, .lst acc) :: M)
    (hn : n ≤ 100000) (hd : P (.lst ((List.range n).map g)) M) (hf : ∀ x, foldedSetIterable iter X.env x = pure x := by intro _; rfl) :
    aE X (.ListComp elt [⟨tg, iter, [], 0⟩] scope pos) Γ M P := by
  refine ae_frz (ae_lcC (it := it) own (fun i acc M' => M' = M ∧ acc = (List.range i).map g) hc hN ok ?_ (fun _ _ _ _ _ => trivial) (fun _ _ _ => trivial) ?_ hn ?_ hf)
  · intro Hi H σ ok en R q
    exact hi Hi H σ ok en R fun J M1 Hi1 H1 h1 => q J M1 Hi1 H1 ⟨h1, rfl⟩
  · rintro i acc M' D hi' _ ⟨rfl, rfl⟩ s H C cl fp
    intro Hi1 H1 σ1 v1 ok1 en1 r1 Q1 q1
    refine hs i _ D hi' s H C cl fp Hi1 H1 σ1 v1 ok1 en1 r1 Q1 fun Γ2 M2 σ2 Hi2 H2 h2 => q1 Γ2 M2 σ2 Hi2 H2 fun s' H' C' cl' fp' => ats_nil ⟨fun _ s2 H2 C2 cl2 fp2 => (h2 s2 H2 C2 cl2 fp2).mono fun y M4 hy => ?_, fun z => nomatch z⟩
    obtain ⟨rfl, rfl⟩ := hy
    exact ⟨_, rfl, rfl, by rw [List.range_succ, List.map_append]; rfl⟩
  · rintro D acc M' ⟨rfl, rfl⟩
    exact ⟨D, _, _, rfl, rfl, hd⟩
end
theorem range_getD {α β : Type} (xs : List α) (h : α → β) (dd : β) : (List.range xs.length).map (fun i => (xs.map h).getD i dd) = xs.map h := by
  apply List.ext_getElem?
  intro i
  rw [List.getElem?_map, List.getElem?_map]
  by_cases hi : i < xs.length
  · rw [List.getElem?_range hi, List.getElem?_eq_getElem hi]
    simp [List.getD_eq_getElem?_getD, List.getElem?_eq_getElem hi]
  · rw [List.getElem?_eq_none_iff.mpr (by simp; omega), List.getElem?_eq_none_iff.mpr (by omega)]
    rfl
end Ab

namespace Ab
open PySem PySem.Spec PyProof.Rows L2
section
variable {X : Cx} {Γ : Gam} {M : Mem} {P : Val → Mem → Prop} {e a b c o : Expr} {es : List Expr} {pos p1 p2 apos kpos : Pos} {k : AK} {d d1 d2 d3 : Val} {i j : Int} {x y m : Str} {n : Nat} {f C : Addr}
/-! ### loops whose turns are known only when what they walk has been reckoned -/
def aJ (X : Cx) (tg iter : Expr) (Γ : Gam) (M : Mem) (P : Nat → (Nat → Val) → Mem → Prop) : Prop := ∀ Hi H σ, Ok X.K Hi M H → EnvR X.K Hi Γ σ → ∀ R : It → Hp → Prop,
  (∀ J n it M1 Hi1 H1, P n it M1 → Same Hi Hi1 → Ok X.K Hi1 M1 H1 →
    Walk J n (fun H' => ∃ Hi' M', Same Hi1 Hi' ∧ Ok X.K Hi' M' H') (fun i H' v H'' => ∀ Hi' M', Same Hi1 Hi' → Ok X.K Hi' M' H' → ∃ Hi'', Same Hi' Hi'' ∧ Ok X.K Hi'' M' H'' ∧ Rep X.K Hi'' (it i) v) → R J H1) → WI X tg iter σ H R
theorem aj_ai {tg iter : Expr} {n : Nat} {it : Nat → Val} {R : Mem → Prop} {P : Nat → (Nat → Val) → Mem → Prop} (h : aI X tg iter Γ M n it (fun _ => True) R) (hp : ∀ M1, R M1 → P n it M1) : aJ X tg iter Γ M P := fun Hi H σ ok en R' q =>
  h Hi H σ ok en R' fun J M1 Hi1 H1 h1 s1 ok1 w => q J n it M1 Hi1 H1 (hp M1 h1) s1 ok1 (w.mono (fun H' ⟨Hi', M', a, b⟩ => ⟨Hi', M', a, b, trivial⟩) fun i H' v H'' _ _ hy Hi' M' a b => hy Hi' M' a b trivial)
theorem aj_lst {tg : Expr} {P : Nat → (Nat → Val) → Mem → Prop} (ha : aE X a Γ M fun d M' => ∃ xs, d = .lst xs ∧ P xs.length (fun i => xs.getD i .non) M') : aJ X tg a Γ M P := fun Hi H σ ok en R' q => by
  refine ⟨_, pi_list pe_we, ?_⟩
  refine ha Hi H σ ok en _ fun d M1 v Hi1 H1 h1 s1 ok1 r1 => ?_
  obtain ⟨xs, rfl, hp⟩ := h1
  cases r1 with
  | @lst p ys _ hq ra =>
    refine ⟨p, rfl, ⟨ys, ok1.im.seq hq⟩, q _ xs.length _ M1 Hi1 H1 hp s1 ok1 ?_⟩
    rw [ra.length]
    refine walk_list.mono (fun H' hG => ?_) fun i H' v H'' hi hG hy Hi' M' s2 ok2 => ?_
    · obtain ⟨Hi', M', s2, ok2⟩ := hG
      exact ok2.im.seq (s2.seq hq)
    · obtain ⟨rfl, hv⟩ := hy
      exact ⟨Hi', Same.refl _, ok2, (Sq.at ra hv).mono s2⟩
theorem aj_range1 {tg : Expr} {P : Nat → (Nat → Val) → Mem → Prop} (hm : X.mg "range" = none) (ha : aE X a Γ M fun d M' => ∃ j : Int, d = .int j ∧ -(2 ^ 62) ≤ j ∧ j < 2 ^ 62 ∧ P j.toNat (fun i => .int (0 + i)) M') (hg : Gl X "range" := by rfl) (hs : starEach [a] X.env = [(false, eval a X.env)] := by rfl) :
    aJ X tg (.Call (.Name "range" p1) [a] [] pos) Γ M P := fun Hi H σ ok en R' q => by
  refine ⟨_, pi_range1 hg hm (pa_cons pe_we pa_nil hs) hs, ?_⟩
  refine ha Hi H σ ok en _ fun d M1 v Hi1 H1 h1 s1 ok1 r1 => ?_
  obtain ⟨j, rfl, hl, hh, hp⟩ := h1
  cases r1
  refine ⟨j, rfl, hl, hh, q _ _ _ M1 Hi1 H1 hp s1 ok1 ?_⟩
  refine walk_range.mono (fun _ _ => trivial) fun i H' v H'' hi hG hy Hi' M' s2 ok2 => ?_
  obtain ⟨rfl, rfl⟩ := hy
  exact ⟨Hi', Same.refl _, ok2, .int _⟩
theorem aj_range2 {tg : Expr} {P : Nat → (Nat → Val) → Mem → Prop} (hm : X.mg "range" = none) (ha : aA X [a, b] Γ M fun ds M' => ∃ lo hi : Int, ds = [.int lo, .int hi] ∧ (-(2 ^ 62) ≤ lo ∧ lo < 2 ^ 62 ∧ -(2 ^ 62) ≤ hi ∧ hi < 2 ^ 62) ∧ P (hi - lo).toNat (fun i => .int (lo + i)) M') (hg : Gl X "range" := by rfl)
    (hs : starEach [a, b] X.env = [(false, eval a X.env), (false, eval b X.env)] := by rfl) (hs2 : starEach [b] X.env = [(false, eval b X.env)] := by rfl) : aJ X tg (.Call (.Name "range" p1) [a, b] [] pos) Γ M P := fun Hi H σ ok en R' q => by
  refine ⟨_, pi_range2 hg hm pa_wa hs hs2, ?_⟩
  refine ha Hi H σ ok en _ fun d M1 v Hi1 H1 h1 s1 ok1 r1 => ?_
  obtain ⟨lo, hi, rfl, hb, hp⟩ := h1
  cases r1 with
  | cons r1 r2 =>
    cases r2 with
    | cons r2 r3 =>
      cases r3
      cases r1
      cases r2
      refine ⟨lo, hi, rfl, hb, q _ _ _ M1 Hi1 H1 hp s1 ok1 ?_⟩
      refine walk_range.mono (fun _ _ => trivial) fun i H' v H'' hi hG hy Hi' M' s2 ok2 => ?_
      obtain ⟨rfl, rfl⟩ := hy
      exact ⟨Hi', Same.refl _, ok2, .int _⟩
/-- a for, its invariant told behind what it walks -/
theorem as_forJ {tg iter : Expr} {body : List Stmt} (hp : PassesOwn (model X.prog X.w) X.A X.env X.xe) (hc : X.calm = true)
    (hi : aJ X tg iter Γ M fun n it M1 => ∃ I : Nat → Gam → Mem → Prop, I 0 Γ M1 ∧ (∀ i Γ M, i < n → I i Γ M → aG X tg (it i) Γ M fun Γ2 M2 => aSs X body Γ2 M2 { k with nx := I (i + 1), ct := I (i + 1), bk := k.nx }) ∧ ∀ Γ M, I n Γ M → k.nx Γ M)
    (hf : ∀ x, foldedSetIterable iter X.env x = pure x := by intro _; rfl) : aS X (.For tg iter body [] pos) Γ M k := fun Hi H σ ok en D q => by
  refine ⟨_, ps_for hp hc pi_wi pg_wg pss_wb hf, ?_⟩
  refine hi Hi H σ ok en _ fun J n it M1 Hi1 H1 h1 s1 ok1 w => ?_
  obtain ⟨I, h0, hs, hd⟩ := h1
  refine for_it w (fun i σ' H' => ∃ Γ' M' Hi', I i Γ' M' ∧ Same Hi1 Hi' ∧ Ok X.K Hi' M' H' ∧ EnvR X.K Hi' Γ' σ') ⟨Γ, M1, Hi1, h0, Same.refl _, ok1, en.mono s1⟩ ?_ ?_ ?_
  · rintro i σ' H' hi ⟨Γ', M', Hi', h2, s2, ok2, en2⟩
    exact ⟨Hi', M', s2, ok2⟩
  · rintro i v σ' H' H'' hi ⟨Γ', M', Hi', h2, s2, ok2, en2⟩ hy
    obtain ⟨Hi3, s3, ok3, r3⟩ := hy Hi' M' s2 ok2
    have s13 := (s1.trans s2).trans s3
    refine hs i Γ' M' hi h2 Hi3 H'' σ' v ok3 (en2.mono s3) r3 _ fun Γ4 M4 σ4 Hi4 H4 h4 s4 ok4 en4 => ?_
    have s24 := (s2.trans s3).trans s4
    exact h4 Hi4 H4 σ4 ok4 en4 _ ⟨fun Γ5 M5 σ5 Hi5 H5 h5 s5 ok5 en5 => ⟨Γ5, M5, Hi5, h5, s24.trans s5, ok5, en5⟩, (q.up (s13.trans s4)).rt, (q.up (s13.trans s4)).nx, fun Γ5 M5 σ5 Hi5 H5 h5 s5 ok5 en5 => ⟨Γ5, M5, Hi5, h5, s24.trans s5, ok5, en5⟩⟩
  · rintro σ' H' ⟨Γ', M', Hi', h2, s2, ok2, en2⟩
    exact q.nx Γ' M' σ' Hi' H' (hd Γ' M' h2) (s1.trans s2) ok2 en2
/-- what a comprehension must show, behind what it walks -/
abbrev LcJ (X : Cx) (scope : Scope) (vs : List Nat) (tg elt : Expr) (ifs : List Expr) (Γ : Gam) (P : Val → Mem → Prop) : Nat → (Nat → Val) → Mem → Prop := fun n it M1 => n ≤ 100000 ∧ ∃ J : Nat → List Val → Mem → Prop, J 0 [] M1 ∧
  (∀ i acc M D, i < n → acc.length ≤ i → J i acc M → bG X scope vs tg (it i) (wipeG Γ vs) ((D, .lst acc) :: M) fun Γ2 M2 => bTs X scope ifs Γ2 M2 fun b M3 =>
    (b = true → bE X scope elt Γ2 M3 fun y M4 => ∃ M5, M4 = (D, .lst acc) :: M5 ∧ J (i + 1) (acc ++ [y]) M5) ∧ (b = false → ∃ M5, M3 = (D, .lst acc) :: M5 ∧ J (i + 1) acc M5)) ∧
  ∀ D acc M, J n acc M → P (.ptr D) ((D, .lst acc) :: M)
theorem lc_readJ {tg iter elt : Expr} {ifs : List Expr} {scope : Scope} {vs : List Nat} (hi : aJ X tg iter Γ M (LcJ X scope vs tg elt ifs Γ P)) {Hi H : Hp} {σ : L2.St} (ok : Ok X.K Hi M H) (en : EnvR X.K Hi Γ σ) {Q : VK} (q : Post X.K Hi P Q) :
    tLc (WI X tg iter) (fun v σ H Q => ∀ s H' C cl fp, WG (bx X scope s H' C cl fp) tg v σ H Q) (fun σ H Q => ∀ s H' C cl fp, WTs (bx X scope s H' C cl fp) ifs σ H Q) (fun σ H Q => ∀ s H' C cl fp, WE (bx X scope s H' C cl fp) elt σ H Q) vs σ H Q := by
  refine hi Hi H σ ok en _ fun J' n it M1 Hi1 H1 h1 s1 ok1 w => ?_
  obtain ⟨hn, J, h0, hs, hd⟩ := h1
  intro D hD
  refine lc_it (g := fun v σ H Q => ∀ s H' C cl fp, WG (bx X scope s H' C cl fp) tg v σ H Q) (tt := fun σ H Q => ∀ s H' C cl fp, WTs (bx X scope s H' C cl fp) ifs σ H Q) (te := fun σ H Q => ∀ s H' C cl fp, WE (bx X scope s H' C cl fp) elt σ H Q) (vs := vs) (σ := σ) (Qd := fun H => Q (V.ref D) H)
    w (fun i H' => ∃ acc M' Hi', J i acc M' ∧ acc.length ≤ i ∧ Same Hi1 Hi' ∧ Ok X.K Hi' ((D, .lst acc) :: M') H') ⟨[], M1, Hi1, h0, Nat.le_refl _, Same.refl _, ok1.new hD ⟨[], rfl, .nil⟩⟩ ?_ ?_ ?_
  · rintro i H' hi ⟨acc, M', Hi', h2, _, s2, ok2⟩
    exact ⟨Hi', M', s2, ok2.tail⟩
  · rintro i v H' H'' hi ⟨acc, M', Hi', h2, hl, s2, ok2⟩ hy
    obtain ⟨Hi3, s3, ok3, r3⟩ := hy Hi' ((D, .lst acc) :: M') s2 ok2
    intro s0 H0 C0 cl0 fp0
    have s13 := s2.trans s3
    refine hs i acc M' D hi hl h2 s0 H0 C0 cl0 fp0 Hi3 H'' (wipe σ vs) v ok3 (env_wipe (en.mono (s1.trans s13)) vs) r3 _ fun Γ4 M4 σ4 Hi4 H4 h4 s4 ok4 en4 w4 => ⟨?_, ?_⟩
    · rw [w4]
      clear w4 en4
      have idem : ∀ (us : List Nat) (τ : L2.St), wipe (wipe τ us) us = wipe τ us := by
        intro us
        induction us with
        | nil => intro τ; rfl
        | cons u us ih =>
          intro τ
          show (wipe ((wipe τ us).set u none) us).set u none = (wipe τ us).set u none
          rw [wipe_set]
          by_cases hu : u ∈ us
          · rw [if_pos hu, ih]
          · rw [if_neg hu, ih, List.set_set]
      exact idem vs σ
    · intro s5 H5 C5 cl5 fp5
      refine h4 s5 H5 C5 cl5 fp5 Hi4 H4 σ4 ok4 en4 _ fun b M6 Hi6 H6 h6 s6 ok6 => ?_
      cases b with
      | true =>
        refine iteT fun s7 H7 C7 cl7 fp7 => ?_
        refine h6.1 rfl s7 H7 C7 cl7 fp7 Hi6 H6 σ4 ok6 (en4.mono s6) _ fun y M8 v8 Hi8 H8 h8 s8 ok8 r8 => ?_
        obtain ⟨M9, rfl, h9⟩ := h8
        obtain ⟨_, o, ho, xs, rfl, ra⟩ := ok8.ce D _ List.mem_cons_self
        refine ⟨xs, ho, ?_, ?_⟩
        · rw [← ra.length]
          exact Nat.lt_of_lt_of_le (Nat.lt_of_le_of_lt hl (Nat.lt_of_lt_of_le hi hn)) (by decide)
        · exact ⟨acc ++ [y], M9, Hi8, h9, by rw [List.length_append]; exact Nat.succ_le_succ hl, ((s13.trans s4).trans s6).trans s8, ok8.set (i := 0) rfl ⟨_, rfl, ra.append (.cons r8 .nil)⟩⟩
      | false =>
        obtain ⟨M9, rfl, h9⟩ := h6.2 rfl
        exact iteF ⟨acc, M9, Hi6, h9, Nat.le_succ_of_le hl, (s13.trans s4).trans s6, ok6⟩
  · rintro H' ⟨acc, M', Hi', h2, hl, s2, ok2⟩
    exact q _ _ _ Hi' H' (hd D acc M' h2) (s1.trans s2) ok2 (.ptr D)
theorem ae_lcJ {tg iter elt : Expr} {ifs : List Expr} {scope : Scope} (own : List (Str × Nat)) (hc : X.calm = true) (hN : X.N.Nodup) (ok : BlkOk X.N X.env.scope scope own)
    (hi : aJ X tg iter Γ M (LcJ X scope (own.map (·.2)) tg elt ifs Γ P)) (hf : ∀ x, foldedSetIterable iter X.env x = pure x := by intro _; rfl) :
    aE X (.ListComp elt [⟨tg, iter, ifs, 0⟩] scope pos) Γ M P := fun Hi H σ ok' en Q q =>
  ⟨_, pe_lc hc hN pi_wi ok (fun s H C cl fp => ⟨fun pins s' σ H v u Q I r h => pg_wg.run pins s' σ H v u Q I r (h _ _ _ _ _)⟩) (fun s H C cl fp => ⟨fun pins s' σ H Q I h => pts_wts.run pins s' σ H Q I (h _ _ _ _ _)⟩) (fun s H C cl fp => ⟨fun pins s' σ H Q I h => pe_we.run pins s' σ H Q I (h _ _ _ _ _)⟩) hf,
    lc_readJ hi ok' en q⟩
theorem as_lcJ {tg iter elt : Expr} {ifs : List Expr} {scope : Scope} {py spos : Pos} (m : Nat) (own : List (Str × Nat)) (hc : X.calm = true) (hN : X.N.Nodup) (ok : BlkOk X.N X.env.scope scope own)
    (hi : aJ X tg iter Γ M (LcJ X scope (own.map (·.2)) tg elt ifs Γ fun d M' => k.nx (Γ.set m (some d)) M')) (hy : X.N[m]? = some y := by rfl) (hyl : X.env.scope.names.lookup y = some .local := by rfl)
    (hsw : swapsWith (.ListComp elt [⟨tg, iter, ifs, 0⟩] scope pos) (some (.Name y py)) spos.line X.env = pure true := by exact sw_true rfl rfl rfl (by decide +kernel))
    (hf : ∀ x, foldedSetIterable iter X.env x = pure x := by intro _; rfl) :
    aS X (.Assign [.Name y py] (.ListComp elt [⟨tg, iter, ifs, 0⟩] scope pos) spos) Γ M k := fun Hi H σ ok' en D q =>
  ⟨_, ps_setLc hc hN hy hyl hsw pi_wi ok (fun s H C cl fp => ⟨fun pins s' σ H v u Q I r h => pg_wg.run pins s' σ H v u Q I r (h _ _ _ _ _)⟩) (fun s H C cl fp => ⟨fun pins s' σ H Q I h => pts_wts.run pins s' σ H Q I (h _ _ _ _ _)⟩) (fun s H C cl fp => ⟨fun pins s' σ H Q I h => pe_we.run pins s' σ H Q I (h _ _ _ _ _)⟩) hf,
    lc_readJ hi ok' en fun d M' v Hi' H' h' s' ok2 r => q.nx _ _ _ Hi' H' h' s' ok2 ((en.mono s').set r)⟩
end
end Ab

namespace Ab
open PySem PySem.Spec PyProof.Rows L2
section
variable {X : Cx} {Γ : Gam} {M : Mem} {P : Val → Mem → Prop} {e a b c o : Expr} {es : List Expr} {pos p1 p2 apos kpos : Pos} {k : AK} {d d1 d2 d3 : Val} {i j : Int} {x y m : Str} {n : Nat} {f C : Addr}
/-! ### operands that change cells -/
def WC (X : Cx) (g : Value → Value → Sem Value) : R2 := fun x y H Q => ∃ r, OpR X g r ∧ r x y H Q
theorem op_wc {g : Value → Value → Sem Value} : OpR X g (WC X g) := fun pins s σ H x y v u Q I rx ry ⟨r, ho, h⟩ => ho pins s σ H x y v u Q I rx ry h
def BinV (X : Cx) (op : Operator) (M : Mem) (x y : Val) (P : Val → Mem → Prop) : Prop := ∃ r, OpR X (binaryOp op) r ∧ RV X r x y M P
theorem ae_bin {op : Operator} (h : aE X a Γ M fun x M1 => aE X b Γ M1 fun y M2 => BinV X op M2 x y P) : aE X (.BinOp a op b pos) Γ M P :=
  ae_op op_wc (h.mono fun x M1 h1 => h1.mono fun y M2 ⟨r, ho, hr⟩ Hi H v w ok rv rw_ Q q => ⟨r, ho, hr Hi H v w ok rv rw_ Q q⟩)
theorem bv_add (h : P (.int (i + j)) M) : BinV X .Add M (.int i) (.int j) P := ⟨_, op_add, rv_I0 (f := fun i j => .int (i + j)) (fun _ _ => .int _) h⟩
theorem bv_sub (h : P (.int (i - j)) M) : BinV X .Sub M (.int i) (.int j) P := ⟨_, op_sub, rv_I0 (f := fun i j => .int (i - j)) (fun _ _ => .int _) h⟩
theorem bv_catL {xs ys : List Val} (h1 : Vw M d1 (.lst xs)) (h2 : Vw M d2 (.lst ys)) (hl : xs.length + ys.length ≤ sizeLine) (h : ∀ p, P (.ptr p) ((p, .lst (xs ++ ys)) :: M)) : BinV X .Add M d1 d2 P := ⟨_, op_catL, rv_catL h1 h2 hl h⟩
theorem bv_catT {xs ys : List Val} (hl : xs.length + ys.length ≤ sizeLine) (h : P (.tup (xs ++ ys)) M) : BinV X .Add M (.tup xs) (.tup ys) P := ⟨_, op_catA, rv_catT hl h⟩
theorem bv_mulI (hc : CMul i j) (h : P (.int (i * j)) M) : BinV X .Mult M (.int i) (.int j) P := ⟨_, op_mul, rv_I (f := fun i j => .int (i * j)) hc (fun _ _ => .int _) h⟩
theorem bv_repL {xs : List Val} {p : Addr} {jj : Int} {n : Nat} (hm : M[n]? = some (p, .lst xs)) (h1 : 0 ≤ jj) (h2 : jj < 2 ^ 31) (hl : xs.length * jj.toNat ≤ sizeLine) (h : ∀ q, P (.ptr q) ((q, .lst (List.replicate jj.toNat xs).flatten) :: M)) : BinV X .Mult M (.ptr p) (.int jj) P := ⟨_, op_rep, rv_repL hm h1 h2 hl h⟩
theorem at_cmpM {op : CmpOp} {P : Bool → Mem → Prop} (h : aE X a Γ M fun x M1 => aE X b Γ M1 fun y M2 => ∃ k, Cmp X op M2 x y k ∧ P k M2) (hm : behindInMarks op b = false := by first | exact nomark _ | rfl) : aT X (.Compare a [op] [b] pos) Γ M P := fun Hi H σ ok en Q q => by
  refine ⟨_, pt_cmpR op_wc pe_we pe_we hm, ?_⟩
  refine h Hi H σ ok en _ fun x M1 v Hi1 H1 h1 s1 ok1 r1 => ?_
  refine h1 Hi1 H1 σ ok1 (en.mono s1) _ fun y M2 w Hi2 H2 h2 s2 ok2 r2 => ?_
  obtain ⟨kk, ⟨r, ho, hr⟩, hp⟩ := h2
  refine ⟨r, ho, hr Hi2 H2 v w ok2 (r1.mono s2) r2 _ fun z M' v' Hi3 H3 h3 s3 ok3 r3 => ?_⟩
  obtain ⟨rfl, rfl⟩ := h3
  cases r3
  exact ⟨kk, rfl, q _ _ Hi3 H3 hp ((s1.trans s2).trans s3) ok3⟩
theorem ae_cmpM {op : CmpOp} (h : aE X a Γ M fun x M1 => aE X b Γ M1 fun y M2 => ∃ k, Cmp X op M2 x y k ∧ P (.bl k) M2) (hm : behindInMarks op b = false := by first | exact nomark _ | rfl) : aE X (.Compare a [op] [b] pos) Γ M P := fun Hi H σ ok en Q q => by
  refine ⟨_, pe_cmpR op_wc pe_we pe_we hm, ?_⟩
  refine h Hi H σ ok en _ fun x M1 v Hi1 H1 h1 s1 ok1 r1 => ?_
  refine h1 Hi1 H1 σ ok1 (en.mono s1) _ fun y M2 w Hi2 H2 h2 s2 ok2 r2 => ?_
  obtain ⟨kk, ⟨r, ho, hr⟩, hp⟩ := h2
  refine ⟨r, ho, hr Hi2 H2 v w ok2 (r1.mono s2) r2 _ fun z M' v' Hi3 H3 h3 s3 ok3 r3 => ?_⟩
  obtain ⟨rfl, rfl⟩ := h3
  exact q _ _ v' Hi3 H3 hp ((s1.trans s2).trans s3) ok3 r3
/-- xs[i] -/
theorem ae_ixM (h : aE X a Γ M fun x M1 => aE X b Γ M1 fun y M2 => ∃ i xs d, y = .int i ∧ Sq M2 x xs ∧ atI xs i = some d ∧ P d M2) (hs : PlainIx b := by exact fun _ _ => rfl) : aE X (.Subscript a b pos) Γ M P := fun Hi H σ ok en Q q => by
  refine ⟨_, pe_ix ix_seq pe_we pe_we hs, ?_⟩
  refine h Hi H σ ok en _ fun x M1 v Hi1 H1 h1 s1 ok1 r1 => ?_
  refine h1 Hi1 H1 σ ok1 (en.mono s1) _ fun y M2 w Hi2 H2 h2 s2 ok2 r2 => ?_
  obtain ⟨i, xs, d, rfl, hsq, hat, hp⟩ := h2
  cases r2
  obtain ⟨p, ys, rfl, hq, ra⟩ := hsq.rep ok2 (r1.mono s2)
  obtain ⟨z, hz, rz⟩ := rep_at ra hat
  have fin := q _ _ z Hi2 H2 hp (s1.trans s2) ok2 rz
  rcases hq with hq | hq
  · exact .inl ⟨p, ys, i, z, rfl, rfl, hq, hz, fin⟩
  · exact .inr (.inl ⟨p, ys, i, z, rfl, rfl, hq, hz, fin⟩)
/-- ints as data -/
theorem toDs_ints : ∀ ns : List Int, toDs (ns.map .int) = some (ns.map PyData.int)
  | [] => rfl
  | n :: ns => by
    rw [List.map_cons, List.map_cons]
    unfold toDs
    rw [toDs_ints ns]
    rfl
theorem toD_tup {xs : List Val} {ds : List PyData} (h : toDs xs = some ds) : toD (.tup xs) = some (.tuple ds) := by
  unfold toD
  rw [h]
  rfl
theorem toD_lst {xs : List Val} {ds : List PyData} (h : toDs xs = some ds) : toD (.lst xs) = some (.list ds) := by
  unfold toD
  rw [h]
  rfl
theorem lay_ints : ∀ ns : List Int, PyData.canLayAll0 (ns.map PyData.int) = true
  | [] => rfl
  | n :: ns => by
    rw [List.map_cons]
    unfold PyData.canLayAll0
    rw [lay_ints ns]
    rfl
theorem dep_ints : ∀ ns : List Int, PyData.depthAll (ns.map PyData.int) = 0
  | [] => rfl
  | n :: ns => by
    rw [List.map_cons]
    unfold PyData.depthAll
    rw [dep_ints ns]
    rfl
theorem shaped_tupI (ns : List Int) : SeqAt.shaped (.tuple (ns.map PyData.int)) = true := by
  unfold SeqAt.shaped PyData.canLay0 PyData.depth
  rw [lay_ints, dep_ints]
  rfl
theorem shaped_lstI (ns : List Int) : SeqAt.shaped (.list (ns.map PyData.int)) = true := by
  unfold SeqAt.shaped PyData.canLay0 PyData.depth
  rw [lay_ints, dep_ints]
  rfl
theorem eqv_ints : ∀ ns ms : List Int, PyData.eqvAll (ns.map PyData.int) (ms.map PyData.int) = decide (ns = ms)
  | [], [] => rfl
  | [], _ :: _ => rfl
  | _ :: _, [] => rfl
  | n :: ns, m :: ms => by
    rw [List.map_cons, List.map_cons]
    unfold PyData.eqvAll PyData.eqv
    rw [eqv_ints ns ms]
    by_cases h : n = m
    · subst h
      simp
    · simp [h]
/-- lists, tuples of ints compared -/
theorem cmp_eqLI {ns ms : List Int} (v1 : Vw M d1 (.lst (ns.map .int))) (v2 : Vw M d2 (.lst (ms.map .int))) (hu : X.A.units + 64 < cLine) : Cmp X .Eq M d1 d2 (decide (ns = ms)) := by
  have h := cmp_eqD v1 v2 (toD_lst (toDs_ints ns)) (toD_lst (toDs_ints ms)) (shaped_lstI ns) (shaped_lstI ms) hu
  rw [show PyData.eqv (.list (ns.map PyData.int)) (.list (ms.map PyData.int)) = decide (ns = ms) from eqv_ints ns ms] at h
  exact h
theorem cmp_neLI {ns ms : List Int} (v1 : Vw M d1 (.lst (ns.map .int))) (v2 : Vw M d2 (.lst (ms.map .int))) (hu : X.A.units + 64 < cLine) : Cmp X .NotEq M d1 d2 (!decide (ns = ms)) := by
  have h := cmp_neD v1 v2 (toD_lst (toDs_ints ns)) (toD_lst (toDs_ints ms)) (shaped_lstI ns) (shaped_lstI ms) hu
  rw [show PyData.eqv (.list (ns.map PyData.int)) (.list (ms.map PyData.int)) = decide (ns = ms) from eqv_ints ns ms] at h
  exact h
theorem cmp_eqTI {ns ms : List Int} (hu : X.A.units + 64 < cLine) : Cmp X .Eq M (.tup (ns.map .int)) (.tup (ms.map .int)) (decide (ns = ms)) := by
  have h := cmp_eqD (X := X) (M := M) (.self (.tup (ns.map .int))) (.self (.tup (ms.map .int))) (toD_tup (toDs_ints ns)) (toD_tup (toDs_ints ms)) (shaped_tupI ns) (shaped_tupI ms) hu
  rw [show PyData.eqv (.tuple (ns.map PyData.int)) (.tuple (ms.map PyData.int)) = decide (ns = ms) from eqv_ints ns ms] at h
  exact h
theorem cmp_neTI {ns ms : List Int} (hu : X.A.units + 64 < cLine) : Cmp X .NotEq M (.tup (ns.map .int)) (.tup (ms.map .int)) (!decide (ns = ms)) := by
  have h := cmp_neD (X := X) (M := M) (.self (.tup (ns.map .int))) (.self (.tup (ms.map .int))) (toD_tup (toDs_ints ns)) (toD_tup (toDs_ints ms)) (shaped_tupI ns) (shaped_tupI ms) hu
  rw [show PyData.eqv (.tuple (ns.map PyData.int)) (.tuple (ms.map PyData.int)) = decide (ns = ms) from eqv_ints ns ms] at h
  exact h
/-- an empty tuple against any tuple of data -/
theorem cmp_eqT0 {xs : List Val} {ds : List PyData} (h1 : toDs xs = some ds) (h2 : SeqAt.shaped (.tuple ds) = true) (hu : X.A.units + 64 < cLine) : Cmp X .Eq M (.tup xs) (.tup []) xs.isEmpty := by
  have h := cmp_eqD (X := X) (M := M) (.self (.tup xs)) (.self (.tup [])) (toD_tup h1) (toD_tup rfl) h2 rfl hu
  refine h.eq ?_
  cases xs with
  | nil => cases h1; rfl
  | cons x r =>
    unfold toDs at h1
    obtain ⟨d', _, h3⟩ := Option.bind_eq_some_iff.mp h1
    obtain ⟨ds', _, rfl⟩ := Option.map_eq_some_iff.mp h3
    rfl
theorem cmp_neT0 {xs : List Val} {ds : List PyData} (h1 : toDs xs = some ds) (h2 : SeqAt.shaped (.tuple ds) = true) (hu : X.A.units + 64 < cLine) : Cmp X .NotEq M (.tup xs) (.tup []) (!xs.isEmpty) := by
  have h := cmp_neD (X := X) (M := M) (.self (.tup xs)) (.self (.tup [])) (toD_tup h1) (toD_tup rfl) h2 rfl hu
  refine h.eq ?_
  cases xs with
  | nil => cases h1; rfl
  | cons x r =>
    unfold toDs at h1
    obtain ⟨d', _, h3⟩ := Option.bind_eq_some_iff.mp h1
    obtain ⟨ds', _, rfl⟩ := Option.map_eq_some_iff.mp h3
    rfl
end
end Ab

namespace Ab
open PySem PySem.Spec PyProof.Rows L2
section
variable {X : Cx} {Γ : Gam} {M : Mem} {P : Val → Mem → Prop} {e a b c o : Expr} {es : List Expr} {pos p1 p2 apos kpos : Pos} {k : AK} {d d1 d2 d3 : Val} {i j : Int} {x y m : Str} {n : Nat} {f C : Addr}
/-! ### lists that are never changed, as values -/
theorem av_lst {ds : List Val} (h : aVs X es Γ M ds) (hl : ds.length ≤ sizeLine) : aV X (.List es pos) Γ M (.lst ds) := ae_lst (h.val ⟨hl, rfl, rfl⟩)
theorem av_sliceL {xs : List Val} {elo ehi : Option Expr} {lo hi : Option Int} (ha : aV X a Γ M d) (hl : aO X elo Γ M lo) (hh : aO X ehi Γ M hi) (hv : Vw M d (.lst xs)) : aV X (.Subscript a (.Slice elo ehi none p2) pos) Γ M (.lst (cutA xs lo hi)) :=
  ae_frz (ae_sliceL ha hl hh hv fun p => ⟨p, _, _, rfl, rfl, rfl, rfl⟩)
theorem av_sliceT {xs : List Val} {elo ehi : Option Expr} {lo hi : Option Int} (ha : aV X a Γ M (.tup xs)) (hl : aO X elo Γ M lo) (hh : aO X ehi Γ M hi) : aV X (.Subscript a (.Slice elo ehi none p2) pos) Γ M (.tup (cutA xs lo hi)) :=
  ae_sliceT ha hl hh ⟨rfl, rfl⟩
theorem av_catL {xs ys : List Val} (ha : aV X a Γ M d1) (hb : aV X b Γ M d2) (h1 : Vw M d1 (.lst xs)) (h2 : Vw M d2 (.lst ys)) (hl : xs.length + ys.length ≤ sizeLine) : aV X (.BinOp a .Add b pos) Γ M (.lst (xs ++ ys)) :=
  ae_frz (ae_bin (ha.val (hb.val (bv_catL h1 h2 hl fun p => ⟨p, _, _, rfl, rfl, rfl, rfl⟩))))
theorem av_catT {xs ys : List Val} (ha : aV X a Γ M (.tup xs)) (hb : aV X b Γ M (.tup ys)) (hl : xs.length + ys.length ≤ sizeLine) : aV X (.BinOp a .Add b pos) Γ M (.tup (xs ++ ys)) :=
  ae_bin (ha.val (hb.val (bv_catT hl ⟨rfl, rfl⟩)))
theorem av_tuple {xs : List Val} (hm : X.mg "tuple" = none) (ha : aV X a Γ M d) (hs : Sq M d xs) (hg : Gl X "tuple" := by rfl) (hst : starEach [a] X.env = [(false, eval a X.env)] := by rfl) : aV X (.Call (.Name "tuple" p1) [a] [] pos) Γ M (.tup xs) :=
  ae_tuple hm (ha.val ⟨xs, hs, rfl, rfl⟩) hg hst
theorem av_list {xs : List Val} (hm : X.mg "list" = none) (ha : aV X a Γ M d) (hs : Sq M d xs) (hg : Gl X "list" := by rfl) (hst : starEach [a] X.env = [(false, eval a X.env)] := by rfl) : aV X (.Call (.Name "list" p1) [a] [] pos) Γ M (.lst xs) :=
  ae_frz (ae_list hm (ha.val ⟨xs, hs, fun p => ⟨p, _, _, rfl, rfl, rfl, rfl⟩⟩) hg hst)
/-- xs[:e], the bound changing cells -/
theorem ae_sliceM {xs : List Val} (ha : aV X a Γ M (.lst xs)) (hh : aE X e Γ M fun d M1 => ∃ j : Int, d = .int j ∧ P (.lst (cutA xs none (some j))) M1) : aE X (.Subscript a (.Slice none (some e) none p2) pos) Γ M P :=
  ae_frz fun Hi H σ ok en Q q => by
    refine ⟨_, pe_slice sl_list pe_we po_none (po_some pe_we), ?_⟩
    refine ha Hi H σ ok en _ fun x M1 v Hi1 H1 h1 s1 ok1 r1 => ?_
    obtain ⟨rfl, rfl⟩ := h1
    refine hh Hi1 H1 σ ok1 (en.mono s1) _ fun d M2 w Hi2 H2 h2 s2 ok2 r2 => ?_
    obtain ⟨j, rfl, hp⟩ := h2
    cases r2
    refine ⟨j, rfl, ?_⟩
    cases r1.mono s2 with
    | @lst p ys _ hq ra => exact ⟨p, ys, rfl, ok2.im.seq hq, fun l hl => q _ _ _ _ _ ⟨l, _, _, rfl, rfl, hp⟩ (s1.trans s2) (ok2.new hl ⟨_, rfl, rep_cut ra none (some j)⟩) (.ptr l)⟩
/-! ### slices of lists of ints -/
def cutI (g : List Int) (lo hi : Option Int) : List Int := (g.drop (HT.sIx g.length 0 lo)).take (HT.sIx g.length g.length hi - HT.sIx g.length 0 lo)
theorem cut_map {g : List Int} {lo hi : Option Int} : cutA (g.map Val.int) lo hi = (cutI g lo hi).map Val.int := by
  unfold cutA cutI
  rw [List.length_map, ← List.map_drop, ← List.map_take]
theorem cut_mem {g : List Int} {lo hi : Option Int} {v : Int} (h : v ∈ cutI g lo hi) : v ∈ g := List.mem_of_mem_drop (List.mem_of_mem_take h)
theorem cut_len {g : List Int} {lo hi : Option Int} : (cutI g lo hi).length ≤ g.length := by
  unfold cutI
  rw [List.length_take, List.length_drop]
  omega
theorem cut_hi {g : List Int} {j : Int} (h0 : 0 ≤ j) (h1 : j ≤ g.length) : cutI g none (some j) = g.take j.toNat := by
  obtain ⟨n, rfl⟩ := Int.eq_ofNat_of_zero_le h0
  unfold cutI
  rw [HT.sIx_nat, HT.sIx_none, List.drop_zero, Nat.sub_zero, Nat.min_eq_left (by omega), Int.toNat_natCast]
theorem cut_lo {g : List Int} {j : Int} (h0 : 0 ≤ j) (h1 : j ≤ g.length) : cutI g (some j) none = g.drop j.toNat := by
  obtain ⟨n, rfl⟩ := Int.eq_ofNat_of_zero_le h0
  unfold cutI
  rw [HT.sIx_nat, HT.sIx_none, Nat.min_eq_left (by omega), Int.toNat_natCast]
  exact List.take_of_length_le (by rw [List.length_drop]; omega)
end
end Ab

namespace Ab
open PySem PySem.Spec PyProof.Rows L2
section
variable {X : Cx} {Γ : Gam} {M : Mem} {P : Val → Mem → Prop} {e a b c o : Expr} {es : List Expr} {pos p1 p2 apos kpos : Pos} {k : AK} {d d1 d2 d3 : Val} {i j : Int} {x y m : Str} {n : Nat} {f C : Addr}
/-- a cell of the expression's own is forgotten -/
theorem ae_dropc (h : aE X e Γ M fun d M' => ∃ c M'', M' = c :: M'' ∧ P d M'') : aE X e Γ M P := fun Hi H σ ok en Q q => by
  refine h Hi H σ ok en _ fun d M1 v Hi1 H1 h1 s1 ok1 r1 => ?_
  obtain ⟨c, M2, rfl, hp⟩ := h1
  exact q _ _ _ Hi1 H1 hp s1 (Ok.tail (p := c.1) (c := c.2) ok1) r1
/-- an instance that will change no more -/
theorem ae_frzO (h : aE X e Γ M fun d M' => ∃ p C fs M'', d = .ptr p ∧ M' = (p, .ins C fs) :: M'' ∧ P (.obj C fs) M'') : aE X e Γ M P := fun Hi H σ ok en Q q => by
  refine h Hi H σ ok en _ fun d M1 v Hi1 H1 h1 s1 ok1 r1 => ?_
  obtain ⟨p, C, fs, M2, rfl, rfl, hp⟩ := h1
  obtain ⟨e0, o, ho, dx, gs, rfl, ra⟩ := ok1.ce p _ List.mem_cons_self
  cases r1
  have s2 := same_upd (o := .ins C dx gs) e0
  exact q _ _ _ _ _ hp (s1.trans s2) (ok1.freeze ho) (.obj upd_same (ra.mono s2))
/-- [x, ..] * n -/
theorem av_repL {ds : List Val} (h : aVs X es Γ M ds) (hl : ds.length ≤ sizeLine) (hb : ∀ M', aV X b Γ M' (.int j)) (h1 : 0 ≤ j) (h2 : j < 2 ^ 31) (hl2 : ds.length * j.toNat ≤ sizeLine) : aV X (.BinOp (.List es p1) .Mult b pos) Γ M (.lst (List.replicate j.toNat ds).flatten) :=
  ae_dropc (ae_frz (ae_bin (ae_lstC (h.val ⟨hl, fun q => (hb _).val (bv_repL (n := 0) rfl h1 h2 hl2 fun z => ⟨z, _, _, rfl, rfl, _, _, rfl, rfl, rfl⟩)⟩))))
theorem Ret.drops {P : Val → Mem → Prop} {d : Val} {M : Mem} : ∀ {cs : Mem}, Ret P d M → Ret P d (cs ++ M)
  | [], h => h
  | _ :: _, h => .drop (Ret.drops h)
/-! ### ints are shown -/
theorem log_lt {n : Nat} (h : n < 2 ^ 1920) : n.log2 < 1920 := by
  by_cases h0 : n = 0
  · subst h0
    decide
  · exact (Nat.log2_lt h0).mpr h
def showI (v : Int) : Prop := v.natAbs.log2 < 1920
theorem show_ints : ∀ {ns : List Int}, (∀ v ∈ ns, showI v) → PyData.showableAll (ns.map PyData.int) = true
  | [], _ => rfl
  | n :: ns, h => by
    rw [List.map_cons]
    unfold PyData.showableAll PyData.showable
    rw [show_ints (fun v hv => h v (List.mem_cons_of_mem _ hv))]
    rw [Bool.and_true]
    exact decide_eq_true (h n List.mem_cons_self)
theorem shownI_le {v : Int} (h : showI v) : (PyData.shown (.int v)).length ≤ 1921 := int_text_len_1921 h
theorem shown_sum : ∀ {ns : List Int}, (∀ v ∈ ns, showI v) → ((PyData.shownAll (ns.map PyData.int)).map (·.length)).sum ≤ 1921 * ns.length
  | [], _ => Nat.le_refl _
  | n :: ns, h => by
    have h1 := shown_sum (ns := ns) (fun v hv => h v (List.mem_cons_of_mem _ hv))
    have h2 := shownI_le (h n List.mem_cons_self)
    rw [List.map_cons]
    unfold PyData.shownAll
    rw [List.map_cons, List.sum_cons, List.length_cons]
    omega
theorem shown_len : ∀ (ds : List PyData), (PyData.shownAll ds).length = ds.length
  | [] => rfl
  | d :: ds => by
    unfold PyData.shownAll
    rw [List.length_cons, List.length_cons, shown_len ds]
theorem shown_tupI {ns : List Int} (h : ∀ v ∈ ns, showI v) (hl : ns.length ≤ 3000) : (PyData.shown (.tuple (ns.map PyData.int))).length ≤ sizeLine := by
  have h1 := tupleText_len_le (PyData.shownAll (ns.map PyData.int))
  have h2 := shown_sum h
  rw [shown_len, List.length_map] at h1
  have e : PyData.shown (.tuple (ns.map PyData.int)) = tupleText (PyData.shownAll (ns.map PyData.int)) := by unfold PyData.shown; rfl
  rw [e]
  have : sizeLine = 16777216 := rfl
  omega
theorem nodict_ints : ∀ (ns : List Int), PyData.hasDictAll (ns.map PyData.int) = false
  | [] => rfl
  | n :: ns => by
    rw [List.map_cons]
    unfold PyData.hasDictAll PyData.hasDict
    rw [nodict_ints ns]
    rfl
/-- repr of a tuple of ints -/
theorem av_reprTI {n : Nat} {ns : List Int} (hr : Rm n X.A) (hm : X.mg "repr" = none) (ha : aV X a Γ M (.tup (ns.map .int))) (h : ∀ v ∈ ns, showI v) (hl : ns.length ≤ 3000)
    (hg : Gl X "repr" := by rfl) (hst : starEach [a] X.env = [(false, eval a X.env)] := by rfl) : aV X (.Call (.Name "repr" p1) [a] [] pos) Γ M (.str (PyData.shown (.tuple (ns.map PyData.int)))) :=
  ae_repr hr hm (ha.val ⟨_, _, .self _, toD_tup (toDs_ints ns), .inr ⟨_, rfl⟩, by unfold PyData.showable; exact show_ints h, by unfold PyData.hasDict; exact nodict_ints ns, by unfold PyData.depth; rw [dep_ints]; decide, shown_tupI h hl, rfl, rfl⟩) hg hst
end
end Ab

namespace Ab
open PySem PySem.Spec PyProof.Rows L2
/-! defs out of the head's facts -/
section
variable {P : Program} {w : World} {K : PySem.W.Frag} {mg : Str → Option Value} {base : Heap} {x qual : Str} {st : Stmt} {f : Addr} {oc : Value} {od an : Option Addr} {osl : Array (Option Value)} {kV doc pm cdv ct : Value} {fd : FuncData}
theorem fd_mk (l : K.lookup f = some ⟨oc, od, .func (PySem.W.fnOf x qual (defArgs st) (defBody st) (defScope st) .none kV doc pm an cdv ct), osl⟩)
    (c : PySem.W.codeIn K cdv qual = true) (k : PySem.W.keepIn K (.ref f) = true) : FunD K x qual (defArgs st) (defBody st) (defScope st) [] [] f (PySem.W.fnOf x qual (defArgs st) (defBody st) (defScope st) .none kV doc pm an cdv ct) :=
  fun_d (fun_mk l c k)
/-- two keyword-only defaults -/
theorem fd_kw2 {D : Addr} {k1 k2 : Str} {v1 v2 : V} {u1 u2 : Value} (l : K.lookup f = some ⟨oc, od, .func (PySem.W.fnOf x qual (defArgs st) (defBody st) (defScope st) .none (.ref D) doc pm an cdv ct), osl⟩)
    (c : PySem.W.codeIn K cdv qual = true) (k : PySem.W.keepIn K (.ref f) = true) (n1 : PySem.W.nsIn K D k1 = some (some u1)) (n2 : PySem.W.nsIn K D k2 = some (some u2)) (r1 : RelV v1 u1) (r2 : RelV v2 u2) :
    FunD K x qual (defArgs st) (defBody st) (defScope st) [] [(k1, v1), (k2, v2)] f (PySem.W.fnOf x qual (defArgs st) (defBody st) (defScope st) .none (.ref D) doc pm an cdv ct) :=
  ⟨⟨oc, od, .none, .ref D, doc, pm, an, cdv, ct, osl, rfl, l, c, .inl ⟨rfl, rfl⟩, .inr ⟨D, rfl, fun q hq => by
    rcases List.mem_cons.mp hq with e | hq
    · subst e
      exact ⟨u1, n1, r1⟩
    · rcases List.mem_cons.mp hq with e | hq
      · subst e
        exact ⟨u2, n2, r2⟩
      · cases hq⟩⟩, k⟩
/-- a def called by positions and keywords, every parameter written -/
theorem kbn_kw {params : Arguments} {body : List Stmt} {sc : Scope} {kws : List (Str × V)} {ps ks : List Str} {n : Nat} (F : FunD K x qual params body sc [] kws f fd)
    (h : ∀ (kV doc pm : Value) (an : Option Addr) (cdv ct : Value) (us ws : List Value), us.length = n → ws.length = ks.length → bindArgs (PySem.W.fnOf x qual params body sc .none kV doc pm an cdv ct) ⟨us, ks.zip ws⟩ = pure (ps.zip (us ++ ws))) :
    KBn K fd ps n ks (fun us ws => us ++ ws) (fun vs zs => vs ++ zs) := by
  obtain ⟨oc, od, dV, kV, doc, pm, an, cdv, ct, osl, rfl, lk, hcd, hD, _⟩ := F.ex
  obtain ⟨_, rfl⟩ : ([] : List V) = [] ∧ dV = .none := by
    rcases hD with h | ⟨e, _⟩
    · exact h
    · exact absurd rfl e
  exact ⟨fun s us ws _ h1 h2 => .of_eq (h kV doc pm an cdv ct us ws h1 h2), fun r1 r2 => r1.append r2⟩
/-- .. and its promise -/
theorem fnx_kw {params : Arguments} {body : List Stmt} {sc : Scope} {kws : List (Str × V)} {N ps ks : List Str} {k n : Nat} {s0 : ASp} (F : FunD K x qual params body sc [] kws f fd) (S : FnScope N ps sc)
    (h : ∀ (kV doc pm : Value) (an : Option Addr) (cdv ct : Value) (us ws : List Value), us.length = n → ws.length = ks.length → bindArgs (PySem.W.fnOf x qual params body sc .none kV doc pm an cdv ct) ⟨us, ks.zip ws⟩ = pure (ps.zip (us ++ ws)))
    (len : ∀ ds M R, s0 ds M R → ds.length = ps.length) (hb : BodyOk P w K mg base k f N qual sc body s0) : FnX P w K mg base (k + 1) f ks (spX K fun ds es M R => ds.length = n ∧ s0 (ds ++ es) M R) :=
  fnx_kbn (fun ds es => ds ++ es) F S (kbn_kw F h) (fun H ds vs es zs r1 r2 _ _ => r1.append r2) len hb
/-- .. by positions alone -/
theorem fnx_pos' {params : Arguments} {body : List Stmt} {sc : Scope} {kws : List (Str × V)} {N ps : List Str} {k : Nat} {s0 : ASp} (F : FunD K x qual params body sc [] kws f fd) (S : FnScope N ps sc)
    (h : ∀ (kV doc pm : Value) (an : Option Addr) (cdv ct : Value) (us : List Value), us.length = ps.length → bindArgs (PySem.W.fnOf x qual params body sc .none kV doc pm an cdv ct) ⟨us, []⟩ = pure (ps.zip us))
    (len : ∀ ds M R, s0 ds M R → ds.length = ps.length) (hb : BodyOk P w K mg base k f N qual sc body s0) : FnX P w K mg base (k + 1) f [] (spX K fun ds _ => s0 ds) := by
  have F1 := fnx_kbn (n := ps.length) (ks := []) (fun ds _ => ds) F S (g := fun us _ => us) (gV := fun vs _ => vs) (by
    obtain ⟨oc, od, dV, kV, doc, pm, an, cdv, ct, osl, rfl, lk, hcd, hD, _⟩ := F.ex
    obtain ⟨_, rfl⟩ : ([] : List V) = [] ∧ dV = .none := by
      rcases hD with h | ⟨e, _⟩
      · exact h
      · exact absurd rfl e
    refine ⟨fun s us ws _ h1 h2 => .of_eq ?_, fun r1 _ => r1⟩
    obtain rfl := List.length_eq_zero_iff.mp h2
    exact h kV doc pm an cdv ct us h1) (fun H ds vs es zs r _ _ _ => r) len hb
  exact ⟨fun A outer s H us ws vs zs Q hr e0 r rz hz ⟨Hi, M, ds, es, R, ra, re, ok, hs, q⟩ => F1.run A outer s H us ws vs zs Q hr e0 r rz hz ⟨Hi, M, ds, es, R, ra, re, ok, ⟨len _ _ _ hs, hs⟩, q⟩⟩
end
end Ab

namespace K36
open PySem L2 Ab
def topS (i : Nat) : Stmt := PySem.Challenge.pw_nestcount_k36_equations_checked.main.body.getD i (.Pass ⟨0, 0, 0, 0⟩)
abbrev sWhole : Stmt := topS 9
abbrev sWrong : Stmt := topS 10
abbrev sInit : Stmt := inClass (topS 11) 2
abbrev sBegn : Stmt := inClass (topS 11) 4
abbrev sTerm : Stmt := inClass (topS 11) 5
abbrev sHolds : Stmt := inClass (topS 11) 15
abbrev sFail : Stmt := inClass (topS 11) 16
abbrev sLBegin : Stmt := topS 13
abbrev sLDraw : Stmt := topS 14
abbrev sLTerms : Stmt := topS 15
abbrev sLFirst : Stmt := topS 16
abbrev sLMade : Stmt := topS 17
abbrev sLRun : Stmt := topS 18
abbrev sLHolds : Stmt := topS 19
abbrev sLFail : Stmt := topS 20
abbrev sLRows : Stmt := topS 21
abbrev sLRight : Stmt := topS 22
abbrev sLaw : Stmt := topS 23
theorem scWhole : FnScope ["value", "least", "most"] ["value", "least", "most"] (defScope sWhole) := ⟨rfl, rfl, rfl, by decide +kernel, rfl, by decide +kernel, by decide +kernel⟩
theorem scWrong : FnScope ["n", "inner", "outer"] ["n", "inner", "outer"] (defScope sWrong) := ⟨rfl, rfl, rfl, by decide +kernel, rfl, by decide +kernel, by decide +kernel⟩
theorem scInit : FnScope ["self", "beginning", "terms", "term", "item"] ["self", "beginning", "terms"] (defScope sInit) := ⟨rfl, rfl, rfl, by decide +kernel, rfl, by decide +kernel, by decide +kernel⟩
theorem scBegn : FnScope ["self"] ["self"] (defScope sBegn) := ⟨rfl, rfl, rfl, by decide +kernel, rfl, by decide +kernel, by decide +kernel⟩
theorem scTerm : FnScope ["value"] ["value"] (defScope sTerm) := ⟨rfl, rfl, rfl, by decide +kernel, rfl, by decide +kernel, by decide +kernel⟩
theorem scHolds : FnScope ["self", "numbers", "n", "total", "x", "y", "outer"] ["self", "numbers", "n"] (defScope sHolds) := ⟨rfl, rfl, rfl, by decide +kernel, rfl, by decide +kernel, by decide +kernel⟩
theorem scFail : FnScope ["self", "numbers", "index", "item", "n"] ["self", "numbers"] (defScope sFail) := ⟨rfl, rfl, rfl, by decide +kernel, rfl, by decide +kernel, by decide +kernel⟩
theorem scLBegin : FnScope ["_law_script", "_law_spot", "_law_cell"] ["_law_script", "_law_spot"] (defScope sLBegin) := ⟨rfl, rfl, rfl, by decide +kernel, rfl, by decide +kernel, by decide +kernel⟩
theorem scLDraw : FnScope ["_law_state", "_law_size", "_law_found"] ["_law_state", "_law_size"] (defScope sLDraw) := ⟨rfl, rfl, rfl, by decide +kernel, rfl, by decide +kernel, by decide +kernel⟩
theorem scLTerms : FnScope ["_law_state", "_law_way", "_law_gap", "_law_k"] ["_law_state"] (defScope sLTerms) := ⟨rfl, rfl, rfl, by decide +kernel, rfl, by decide +kernel, by decide +kernel⟩
theorem scLFirst : FnScope ["_law_state", "_law_found", "_law_k", "_law_at"] ["_law_state"] (defScope sLFirst) := ⟨rfl, rfl, rfl, by decide +kernel, rfl, by decide +kernel, by decide +kernel⟩
theorem scLMade : FnScope ["_law_terms_here", "_law_first_here"] ["_law_terms_here", "_law_first_here"] (defScope sLMade) := ⟨rfl, rfl, rfl, by decide +kernel, rfl, by decide +kernel, by decide +kernel⟩
theorem scLRun : FnScope ["_law_terms_here", "_law_first_here", "_law_last", "_law_found", "_law_label", "_law_amount", "_law_death", "_law_k", "_law_x", "_law_y"] ["_law_terms_here", "_law_first_here", "_law_last"] (defScope sLRun) := ⟨rfl, rfl, rfl, by decide +kernel, rfl, by decide +kernel, by decide +kernel⟩
theorem scLHolds : FnScope ["_law_terms_here", "_law_given", "_law_label", "_law_amount", "_law_x", "_law_y", "_law_far"] ["_law_terms_here", "_law_given", "_law_label"] (defScope sLHolds) := ⟨rfl, rfl, rfl, by decide +kernel, rfl, by decide +kernel, by decide +kernel⟩
theorem scLFail : FnScope ["_law_terms_here", "_law_many", "_law_given", "_law_label"] ["_law_terms_here", "_law_many", "_law_given"] (defScope sLFail) := ⟨rfl, rfl, rfl, by decide +kernel, rfl, by decide +kernel, by decide +kernel⟩
theorem scLRows : FnScope ["_law_state", "_law_first_here", "_law_found", "_law_some", "_law_at", "_law_step", "_law_back", "_law_twice", "_law_k"] ["_law_state", "_law_first_here", "_law_found"] (defScope sLRows) := ⟨rfl, rfl, rfl, by decide +kernel, rfl, by decide +kernel, by decide +kernel⟩
theorem scLRight : FnScope ["_law_state", "_law_terms_here", "_law_first_here", "_law_one", "_law_found", "_law_end", "_law_given", "_law_due", "_law_kept"] ["_law_state"] (defScope sLRight) := ⟨rfl, rfl, rfl, by decide +kernel, rfl, by decide +kernel, by decide +kernel⟩
theorem scLaw : FnScope ["_law_script", "_law_index", "_law_state", "_law_turn", "_law_one"] ["_law_script"] (defScope sLaw) := ⟨rfl, rfl, rfl, by decide +kernel, rfl, by decide +kernel, by decide +kernel⟩

/-! ### short words -/
section
variable {X : Cx} {Γ : Gam} {M : Mem} {pos : Pos} {x : Str} {d : Val} {i : Int} {j}
theorem v_ (n : Nat) (hd : Γ[n]? = some (some d) := by rfl) (hN : X.N[n]? = some x := by rfl) (hv : Vis X.env.scope x := by first | exact Or.inl rfl | exact Or.inr (Or.inl rfl) | exact Or.inr (Or.inr rfl))
    (hdb : (x == ("__debug__" : Str)) = false := by decide) (hcd : (x == ("__classdict__" : Str)) = false := by decide) : aV X (.Name x pos) Γ M d := ae_var n hd ⟨rfl, rfl⟩ hN hv hdb hcd
theorem i_ : aV X (.Constant (.int i) j pos) Γ M (.int i) := ae_int ⟨rfl, rfl⟩
theorem s_ : aV X (.Constant (.str x) j pos) Γ M (.str x) := ae_str ⟨rfl, rfl⟩
theorem n_ : aV X (.Constant .none j pos) Γ M .non := ae_non ⟨rfl, rfl⟩
theorem nft {p : Prop} : false = true → p := fun h => nomatch h
theorem ntf {p : Prop} : true = false → p := fun h => nomatch h
theorem sz {n : Nat} (h : n ≤ 100000) : n ≤ sizeLine := Nat.le_trans h (by decide)
theorem szl {n : Nat} (h : n < 100000) : n < sizeLine := Nat.lt_of_lt_of_le h (by decide)
end
/-! ### is_whole -/
def optV : Option Int → Val
  | none => .non
  | some l => .int l
def within (n : Int) (lo hi : Option Int) : Bool := (match lo with | none => true | some l => decide (l ≤ n)) && (match hi with | none => true | some h => decide (n ≤ h))
def aWhole : ASp := fun ds M P => ∃ n lo hi, ds = [.int n, optV lo, optV hi] ∧ P (.bl (within n lo hi)) M
section
variable {P : Program} {w : World} {K : PySem.W.Frag} {mg : Str → Option Value} {base : Heap} {k : Nat} {f : Addr}
theorem b_whole (m1 : mg "isinstance" = none) (m2 : mg "int" = none) (m3 : mg "bool" = none) : BodyOk P w K mg base k f ["value", "least", "most"] "is_whole" (defScope sWhole) (defBody sWhole) aWhole := by
  rintro cdv A outer s H E hr ds M R ⟨n, lo, hi, rfl, hp⟩
  refine as_cons (as_if (at_w (aw_or (at_not (at_val (ae_isi m1 (v_ 0) (av_ty (T := "int") m2 (by decide +kernel)) (.ty "int") (.int _) (kit_ty (by decide +kernel)) ⟨true, rfl, nft, fun _ => ?_⟩))))))
  refine aw_or1 (at_val (ae_isi m1 (v_ 0) (av_ty (T := "bool") m3 (by decide +kernel)) (.ty "bool") (.int _) (kit_ty (by decide +kernel)) ⟨false, rfl, nft, fun _ => ?_⟩))
  refine as_nil (as_one (as_ret ?_))
  cases lo with
  | none =>
    refine ae_and (ae_or (ae_cmp (v_ 1) n_ cmp_isN ⟨true, rfl, fun _ => ⟨true, rfl, fun _ => ?_, ntf⟩, ntf⟩))
    cases hi with
    | none => exact ae_one (ae_or (ae_cmp (v_ 2) n_ cmp_isN ⟨true, rfl, fun _ => .ok hp, ntf⟩))
    | some h => exact ae_one (ae_or (ae_cmp (v_ 2) n_ cmp_isN ⟨false, rfl, nft, fun _ => ae_one (ae_cmp (v_ 0) (v_ 2) cmp_le (.ok (by simpa [within] using hp)))⟩))
  | some l =>
    refine ae_and (ae_or (ae_cmp (v_ 1) n_ cmp_isN ⟨false, rfl, nft, fun _ => ae_one (ae_cmp (v_ 0) (v_ 1) cmp_ge ⟨_, rfl, fun e => ?_, fun e => .ok (by simpa [within, e] using hp)⟩)⟩))
    cases hi with
    | none => exact ae_one (ae_or (ae_cmp (v_ 2) n_ cmp_isN ⟨true, rfl, fun _ => .ok (by simpa [within, e] using hp), ntf⟩))
    | some h => exact ae_one (ae_or (ae_cmp (v_ 2) n_ cmp_isN ⟨false, rfl, nft, fun _ => ae_one (ae_cmp (v_ 0) (v_ 2) cmp_le (.ok (by simpa [within, e] using hp)))⟩))
end
end K36

namespace K36
open PySem L2 Ab
/-! ### the mathematics -/
abbrev Tm := Int × Int
def tmV (t : Tm) : Val := .tup [.int t.1, .int t.2]
structure GoodT (ts : List Tm) : Prop where
  lo : 1 ≤ ts.length
  hi : ts.length ≤ 9
  al : ∀ t ∈ ts, -1000 ≤ t.1 ∧ t.1 ≤ 1000 ∧ 1 ≤ t.2 ∧ t.2 ≤ 1000
def iT (xs : List Int) : Val := .tup (xs.map .int)
def at0 (g : List Int) (i : Int) : Int := g.getD i.toNat 0
def outer (g : List Int) (n : Int) (t : Tm) : Int := n - t.1 - at0 g (n - t.2 - 1)
def okT (g : List Int) (n : Int) (t : Tm) : Prop := 1 ≤ n - t.2 ∧ 1 ≤ outer g n t ∧ outer g n t < n
instance (g : List Int) (n : Int) (t : Tm) : Decidable (okT g n t) := by unfold okT; infer_instance
def go (g : List Int) (n : Int) : Int → List Tm → Option Int
  | acc, [] => some acc
  | acc, t :: ts => if okT g n t then go g n (acc + at0 g (outer g n t - 1)) ts else none
def holds (ts : List Tm) (g : List Int) (n : Int) : Bool := match go g n 0 ts with
  | none => false
  | some v => decide (v = at0 g (n - 1))
def ffrom (ts : List Tm) (g : List Int) : Nat → Int → Option Int
  | 0, _ => none
  | c + 1, n => if holds ts g n = true then ffrom ts g c (n + 1) else some n
def firstFail (ts : List Tm) (m : Nat) (g : List Int) : Option Int := ffrom ts g (g.length - m) (m + 1)
theorem atI_int {g : List Int} {i : Int} (h0 : 0 ≤ i) (h1 : i < g.length) : atI (g.map Val.int) i = some (.int (at0 g i)) := by
  obtain ⟨n, rfl⟩ := Int.eq_ofNat_of_zero_le h0
  refine atI_nat ?_
  have hn : n < g.length := by omega
  rw [List.getElem?_map, List.getElem?_eq_getElem hn]
  show some (Val.int g[n]) = some (Val.int (at0 g n))
  unfold at0
  rw [Int.toNat_natCast, List.getD_eq_getElem?_getD, List.getElem?_eq_getElem hn]
  rfl
theorem getD_tm {ts : List Tm} {i : Nat} (h : i < ts.length) : (ts.map tmV).getD i .non = tmV ts[i] := by
  rw [List.getD_eq_getElem?_getD, List.getElem?_map, List.getElem?_eq_getElem h]
  rfl
theorem getD_int {g : List Int} {i : Nat} (h : i < g.length) : (g.map Val.int).getD i .non = .int g[i] := by
  rw [List.getD_eq_getElem?_getD, List.getElem?_map, List.getElem?_eq_getElem h]
  rfl
theorem go_step {g : List Int} {n acc : Int} {ts : List Tm} {i : Nat} (h : i < ts.length) : go g n acc (ts.drop i) = if okT g n ts[i] then go g n (acc + at0 g (outer g n ts[i] - 1)) (ts.drop (i + 1)) else none := by
  rw [List.drop_eq_getElem_cons h]
  rfl

/-! ### wrong_place -/
def wrongPlace (n inner outer : Int) : List Val :=
  if 1 ≤ inner ∧ inner < n then (if 1 ≤ outer ∧ outer < n then [] else [.str "outer", .int outer]) else [.str "inner", .int inner]
def aWrong : ASp := fun ds M P => ∃ n i o, ds = [.int n, .int i, .int o] ∧ P (.tup (wrongPlace n i o)) M
section
variable {P : Program} {w : World} {K : PySem.W.Frag} {mg : Str → Option Value} {base : Heap} {k : Nat} {f C : Addr}
theorem b_wrong : BodyOk P w K mg base k f ["n", "inner", "outer"] "wrong_place" (defScope sWrong) (defBody sWrong) aWrong := by
  rintro cdv A outer s H E hr ds M R ⟨n, i, o, rfl, hp⟩
  refine as_cons (as_if (at_not (at_chain i_ (v_ 1) (v_ 0) cmp_le cmp_lt ⟨fun h => ?_, fun h => ?_⟩)))
  · refine as_one (as_ret (ae_tup (aa_cons (s_.val (aa_cons ((v_ 1).val (aa_nil ⟨sz (Nat.le_of_ble_eq_true rfl), .ok ?_⟩)))))))
    have e : wrongPlace n i o = [.str "inner", .int i] := by
      unfold wrongPlace
      rw [if_neg]
      simp at h
      omega
    rw [e] at hp
    exact hp
  refine as_nil ?_
  refine as_cons (as_if (at_not (at_chain i_ (v_ 2) (v_ 0) cmp_le cmp_lt ⟨fun h => ?_, fun h => ?_⟩)))
  · refine as_one (as_ret (ae_tup (aa_cons (s_.val (aa_cons ((v_ 2).val (aa_nil ⟨sz (Nat.le_of_ble_eq_true rfl), .ok ?_⟩)))))))
    have e : wrongPlace n i o = [.str "outer", .int o] := by
      unfold wrongPlace
      rw [if_pos (by simp at *; omega), if_neg (by simp at *; omega)]
    rw [e] at hp
    exact hp
  refine as_nil ?_
  refine as_one (as_ret (ae_tup (aa_nil ⟨sz (Nat.le_of_ble_eq_true rfl), .ok ?_⟩)))
  have e : wrongPlace n i o = [] := by
    unfold wrongPlace
    rw [if_pos (by simp at *; omega), if_pos (by simp at *; omega)]
  rw [e] at hp
  exact hp

/-! ### the class -/
/-- an instance's fields -/
def recF (ts : List Tm) (first : List Int) : List (Str × Val) := [("term_row", .tup (ts.map tmV)), ("opening", iT first), ("known", .lst (first.map .int)), ("end", .non)]
structure Rc (K : PySem.W.Frag) (mg : Str → Option Value) (C : Addr) : Prop where
  cl : Cls K C
  nT : NoAttr K C "term_row"
  nO : NoAttr K C "opening"
  nK : NoAttr K C "known"
  nE : NoAttr K C "end"
  gC : mg "Recurrence" = some (.ref C)
abbrev FX (P : Program) (w : World) (K : PySem.W.Frag) (mg : Str → Option Value) (base : Heap) (k : Nat) (f : Addr) (s : ASx) : Prop := FnX P w K mg base k f [] (spX K s)
/-- holds_at(self, numbers, n) -/
def aHolds (C : Addr) : ASp := fun ds M R => ∃ ts first g n, ds = [.obj C (recF ts first), iT g, .int n] ∧ GoodT ts ∧ 1 ≤ n ∧ n ≤ (g.length : Int) ∧ R (.bl (holds ts g n)) M
theorem look_T {ts first} : (recF ts first).lookup ("term_row" : Str) = some (.tup (ts.map tmV)) := by rfl
theorem look_O {ts first} : (recF ts first).lookup ("opening" : Str) = some (iT first) := by rfl
theorem b_holds {fw : Addr} (T : Rc K mg C) (FW : FX P w K mg base 1 fw fun ds _ => aWrong ds) (gW : mg "wrong_place" = some (.ref fw)) (kW : PySem.W.keepIn K (.ref fw) = true) :
    BodyOk P w K mg base 1 f ["self", "numbers", "n", "total", "x", "y", "outer"] "Recurrence.holds_at" (defScope sHolds) (defBody sHolds) (aHolds C) := by
  rintro cdv A outer0 s H E hr ds M R ⟨ts, first, g, n, rfl, gt, h1, h2, hp⟩
  refine as_cons (as_set 3 scHolds.nd (ae_int ?_))
  refine as_cons (as_for (fun i Γ M' => M' = M ∧ ∃ acc vx vy vo, Γ = [some (.obj C (recF ts first)), some (iT g), some (.int n), some (.int acc), vx, vy, vo] ∧ go g n 0 ts = go g n acc (ts.drop i))
    PassesOwn.never rfl (ai_tup (ae_fld T.cl T.nT ((v_ 0).val ⟨_, _, .im _, look_T, rfl, rfl, 0, none, none, none, rfl, rfl⟩))) (fun _ _ _ _ _ => trivial) ?_ ?_)
  · rintro i Γ M' hi ⟨rfl, acc, vx, vy, vo, rfl, hg⟩
    have hi' : i < ts.length := by simpa using hi
    rw [getD_tm hi']
    generalize et : ts[i] = t at *
    have ht := gt.al t (et ▸ List.getElem_mem hi')
    refine ag_tup rfl (ags_cons (ag_name 4 scHolds.nd (ags_cons (ag_name 5 scHolds.nd (ags_nil ?_)))))
    rw [go_step hi', et] at hg
    refine as_cons (as_set 6 scHolds.nd (ae_ifd (p := 1 ≤ n - t.2) (at_cmp i_ (av_sub (v_ 2) (v_ 5)) cmp_le ⟨rfl, rfl⟩) (fun hin => ?_) (fun hin => ae_int ?_)))
    · refine aE.val (av_sub (av_sub (v_ 2) (v_ 4)) (av_ixT (v_ 1) (av_sub (av_sub (v_ 2) (v_ 5)) i_) (atI_int (by omega) (by omega)))) ?_
      show aSs _ _ [some (.obj C (recF ts first)), some (iT g), some (.int n), some (.int acc), some (.int t.1), some (.int t.2), some (.int (K36.outer g n t))] _ _
      by_cases hok : okT g n t
      · have ew : wrongPlace n (n - t.2) (K36.outer g n t) = [] := by
          unfold wrongPlace
          rw [if_pos ⟨hok.1, by omega⟩, if_pos hok.2]
        refine as_cons (as_iff (at_cmp (ae_call FW hr gW kW (aa_cons ((v_ 2).val (aa_cons ((av_sub (v_ 2) (v_ 5)).val (aa_cons ((v_ 6).val (aa_nil (ak_nil ⟨rfl, _, _, _, rfl, by rw [ew]; exact ⟨rfl, rfl⟩⟩))))))))) (av_tup avs_nil (sz (Nat.le_of_ble_eq_true rfl))) (cmp_neD (.self _) (.self _) rfl rfl rfl rfl hr.u64) ⟨rfl, rfl⟩) ?_)
        refine as_nil (as_one (as_augI (i := acc) 3 scHolds.nd ip_add rfl (aE.val (av_ixT (v_ 1) (av_sub (v_ 6) i_) (atI_int (by have := hok.2.1; omega) (by have := hok.2.2; omega))) ⟨_, rfl, rfl, _, _, _, _, rfl, ?_⟩)))
        rw [hg, if_pos hok]
      · have ew : ∃ s i, wrongPlace n (n - t.2) (K36.outer g n t) = [.str s, .int i] ∧ PyData.strOk s = true := by
          unfold wrongPlace
          rw [if_pos ⟨hin, by omega⟩, if_neg (fun z => hok ⟨hin, z⟩)]
          exact ⟨_, _, rfl, by decide +kernel⟩
        obtain ⟨sx, ix, ew, so⟩ := ew
        refine as_cons (as_ift (at_cmp (ae_call FW hr gW kW (aa_cons ((v_ 2).val (aa_cons ((av_sub (v_ 2) (v_ 5)).val (aa_cons ((v_ 6).val (aa_nil (ak_nil ⟨rfl, _, _, _, rfl, by rw [ew]; exact ⟨rfl, rfl⟩⟩))))))))) (av_tup avs_nil (sz (Nat.le_of_ble_eq_true rfl))) (cmp_neD (.self _) (.self _) rfl rfl (by simp [SeqAt.shaped, PyData.canLay0, PyData.canLayAll0, PyData.depth, PyData.depthAll, so]) rfl hr.u64) ⟨rfl, rfl⟩) ?_)
        refine as_one (as_ret (ae_bl (.ok ?_)))
        rw [if_neg hok] at hg
        have e : holds ts g n = false := by unfold holds; rw [hg]
        rw [e] at hp
        exact hp
    · show aSs _ _ [some (.obj C (recF ts first)), some (iT g), some (.int n), some (.int acc), some (.int t.1), some (.int t.2), some (.int 0)] _ _
      have ew : wrongPlace n (n - t.2) 0 = [.str "inner", .int (n - t.2)] := by
        unfold wrongPlace
        rw [if_neg (fun z => hin z.1)]
      refine as_cons (as_ift (at_cmp (ae_call FW hr gW kW (aa_cons ((v_ 2).val (aa_cons ((av_sub (v_ 2) (v_ 5)).val (aa_cons ((v_ 6).val (aa_nil (ak_nil ⟨rfl, _, _, _, rfl, by rw [ew]; exact ⟨rfl, rfl⟩⟩))))))))) (av_tup avs_nil (sz (Nat.le_of_ble_eq_true rfl))) (cmp_neD (.self _) (.self _) rfl rfl (by simp [SeqAt.shaped, PyData.canLay0, PyData.canLayAll0, PyData.depth, PyData.depthAll]; decide +kernel) rfl hr.u64) ⟨rfl, rfl⟩) ?_)
      refine as_one (as_ret (ae_bl (.ok ?_)))
      rw [if_neg (fun z => hin z.1)] at hg
      have e : holds ts g n = false := by unfold holds; rw [hg]
      rw [e] at hp
      exact hp
  · rintro Γ M' ⟨rfl, acc, vx, vy, vo, rfl, hg⟩
    refine as_one (as_ret (ae_cmp (v_ 3) (av_ixT (v_ 1) (av_sub (v_ 2) i_) (atI_int (by omega) (by omega))) cmp_eqI (.ok ?_)))
    have e : holds ts g n = decide (acc = at0 g (n - 1)) := by
      unfold holds
      rw [hg, List.drop_of_length_le (by simp)]
      rfl
    rw [e] at hp
    exact hp
end
end K36

namespace K36
open PySem L2 Ab
section
variable {P : Program} {w : World} {K : PySem.W.Frag} {mg : Str → Option Value} {base : Heap} {k : Nat} {f C : Addr}
/-! ### first_failure -/
/-- C's constants -/
structure Cn (K : PySem.W.Frag) (C : Addr) (mc : Value) (u1 u2 : Value) : Prop where
  rd : ClX.CRead K C mc
  mf : ClX.CVal K C mc "MAX_FIRST" (.int 2000) u1
  mr : ClX.CVal K C mc "MAX_RUN" (.int 20000) u2
/-- is_whole(item) -/
abbrev aW1 : ASx := fun ds es M R => ds.length = 1 ∧ aWhole (ds ++ [.non, .non]) M R
/-- is_whole(x, least=.., most=..) -/
abbrev aW2 : ASx := fun ds es M R => ds.length = 1 ∧ aWhole (ds ++ es) M R
structure Wh (P : Program) (w : World) (K : PySem.W.Frag) (mg : Str → Option Value) (base : Heap) (fw : Addr) : Prop where
  one : FnX P w K mg base 1 fw [] (spX K aW1)
  two : FnX P w K mg base 1 fw ["least", "most"] (spX K aW2)
  gl : mg "is_whole" = some (.ref fw)
  kp : PySem.W.keepIn K (.ref fw) = true
def aFail (C : Addr) : ASp := fun ds M R => ∃ ts first g, ds = [.obj C (recF ts first), iT g] ∧ GoodT ts ∧ first.length ≤ 2000 ∧ g.length ≤ 20000 ∧ R (optV (firstFail ts first.length g)) M
theorem ffrom_step {ts : List Tm} {g : List Int} {c i : Nat} {n : Int} (h : i < c) : ffrom ts g (c - i) n = if holds ts g n = true then ffrom ts g (c - (i + 1)) (n + 1) else some n := by
  rw [show c - i = (c - (i + 1)) + 1 by omega]
  rfl
theorem b_fail {fw fh : Addr} {mc u1 u2 : Value} (T : Rc K mg C) (CN : Cn K C mc u1 u2) (W : Wh P w K mg base fw) (FH : FX P w K mg base 2 fh fun ds _ => aHolds C ds) (mh : Meth K C "holds_at" fh)
    (m1 : mg "isinstance" = none) (m2 : mg "tuple" = none) (m3 : mg "len" = none) (m4 : mg "enumerate" = none) (m5 : mg "range" = none) :
    BodyOk P w K mg base 2 f ["self", "numbers", "index", "item", "n"] "Recurrence.first_failure" (defScope sFail) (defBody sFail) (aFail C) := by
  rintro cdv A outer0 s H E hr ds M R ⟨ts, first, g, rfl, gt, hfl, hl, hp⟩
  refine as_cons (as_if (at_w (aw_or (at_not (at_val (ae_isi m1 (v_ 1) (av_ty (T := "tuple") m2 (by decide +kernel)) (.ty "tuple") (.tup _) (kit_ty (by decide +kernel)) ⟨true, rfl, nft, fun _ => ?_⟩))))))
  refine aw_or1 (at_cmp (av_len m3 (v_ 1) .t) (ae_const CN.rd CN.mr (ae_glob T.gC ⟨rfl, rfl⟩) (fun _ => .int _) ⟨rfl, rfl⟩) cmp_gt ⟨fun h => ?_, fun _ => as_nil ?_⟩)
  · rw [decide_eq_true_eq, List.length_map] at h
    omega
  refine as_cons (as_for (fun i Γ M' => M' = M ∧ ∃ v1 v2, Γ = [some (.obj C (recF ts first)), some (iT g), v1, v2, none]) PassesOwn.never rfl (ai_enumT m4 ((v_ 1).val ⟨rfl, rfl, none, none, rfl⟩)) (fun _ _ _ _ _ => trivial) ?_ ?_)
  · rintro i Γ M' hi ⟨rfl, v1, v2, rfl⟩
    have hi' : i < g.length := by simpa using hi
    rw [getD_int hi']
    refine ag_tup rfl (ags_cons (ag_name 2 scFail.nd (ags_cons (ag_name 3 scFail.nd (ags_nil ?_)))))
    refine as_one (as_if (at_not (at_val (ae_call W.one (hr.mono (by decide)) W.gl W.kp (aa_cons ((v_ 3).val (aa_nil (ak_nil ⟨rfl, rfl, _, none, none, rfl, true, rfl, nft, fun _ => as_nil ⟨rfl, _, _, rfl⟩⟩))))))))
  · rintro Γ M' ⟨rfl, v1, v2, rfl⟩
    refine as_cons (as_for (n := g.length - first.length) (fun i Γ M2 => M2 = M' ∧ ∃ v3, Γ = [some (.obj C (recF ts first)), some (iT g), v1, v2, v3] ∧ firstFail ts first.length g = ffrom ts g (g.length - first.length - i) (((first.map Val.int).length : Int) + 1 + i)) PassesOwn.never rfl
      (ai_range2 (lo := ((first.map Val.int).length : Int) + 1) m5 (aa_cons ((av_add (av_len m3 (av_fld T.cl T.nO (v_ 0) (.im _) look_O) .t) i_).val (aa_cons ((av_add (av_len m3 (v_ 1) .t) i_).val (aa_nil ⟨_, rfl, ?_, ?_, rfl, none, rfl, ?_⟩)))))) (fun _ _ _ _ _ => trivial) ?_ ?_)
    · simp
      omega
    · simp
      omega
    · simp [firstFail]
    · rintro i Γ M2 hi ⟨rfl, v3, rfl, hf⟩
      rw [ffrom_step hi] at hf
      refine ag_name 4 scFail.nd ?_
      refine as_one (as_if (at_not (at_val (ae_meth T.cl mh FH hr (v_ 0) (.im _) rfl (aa_cons ((v_ 1).val (aa_cons ((v_ 4).val (aa_nil (ak_nil ⟨rfl, ts, first, g, _, rfl, gt, ?_, ?_, _, rfl, ?_⟩))))))))))
      · rw [List.length_map]
        omega
      · rw [List.length_map]
        omega
      · cases hh : holds ts g (((first.map Val.int).length : Int) + 1 + i) with
        | true =>
          rw [hh, if_pos rfl] at hf
          refine ⟨nft, fun _ => as_nil ⟨rfl, _, rfl, ?_⟩⟩
          rw [hf]
          congr 1
        | false =>
          rw [hh, if_neg Bool.false_ne_true] at hf
          refine ⟨fun _ => as_one (as_ret ((v_ 4).val (.ok ?_))), ntf⟩
          rw [hf] at hp
          exact hp
    · rintro Γ M2 ⟨rfl, v3, rfl, hf⟩
      refine as_one (as_ret (ae_non (.ok ?_)))
      rw [Nat.sub_self] at hf
      rw [hf] at hp
      exact hp
end
end K36

namespace K36
open PySem L2 Ab
section
variable {P : Program} {w : World} {K : PySem.W.Frag} {mg : Str → Option Value} {base : Heap} {k : Nat} {f C : Addr}
def goodTm (t : Tm) : Prop := -1000 ≤ t.1 ∧ t.1 ≤ 1000 ∧ 1 ≤ t.2 ∧ t.2 ≤ 1000
def aTerm : ASp := fun ds M R => ∃ t, ds = [tmV t] ∧ goodTm t ∧ R (.bl true) M
theorem b_term {fw : Addr} (W : Wh P w K mg base fw) (m1 : mg "isinstance" = none) (m2 : mg "tuple" = none) (m3 : mg "len" = none) :
    BodyOk P w K mg base 1 f ["value"] "Recurrence.is_term" (defScope sTerm) (defBody sTerm) aTerm := by
  rintro cdv A outer0 s H E hr ds M R ⟨t, rfl, ⟨g1, g2, g3, g4⟩, hp⟩
  refine as_cons (as_if (at_w (aw_or (at_not (at_val (ae_isi m1 (v_ 0) (av_ty (T := "tuple") m2 (by decide +kernel)) (.ty "tuple") (.tup _) (kit_ty (by decide +kernel)) ⟨true, rfl, nft, fun _ => ?_⟩))))))
  refine aw_or1 (at_cmp (av_len m3 (v_ 0) .t) i_ cmp_neI ⟨nft, fun _ => as_nil ?_⟩)
  refine as_one (as_ret (ae_and (ae_call W.two hr W.gl W.kp (aa_cons ((av_ixT (v_ 0) i_ rfl).val (aa_nil (ak_cons ((av_neg i_).val (ak_cons (i_.val (ak_nil ⟨rfl, rfl, t.1, some (-1000), some 1000, rfl, true, ?_, fun _ => ?_, ntf⟩)))))))))))
  · have e : within t.1 (some (-1000)) (some 1000) = true := by simp [within]; omega
    rw [e]
  · refine ae_one (ae_call W.two hr W.gl W.kp (aa_cons ((av_ixT (v_ 0) i_ rfl).val (aa_nil (ak_cons (i_.val (ak_cons (i_.val (ak_nil ⟨rfl, rfl, t.2, some 1, some 1000, rfl, .ok ?_⟩)))))))))
    have e : within t.2 (some 1) (some 1000) = true := by simp [within]; omega
    rw [e]
    exact hp
def aInit (C : Addr) : ASp := fun ds M R => ∃ p ts first M0, ds = [.ptr p, iT first, .tup (ts.map tmV)] ∧ M = (p, .ins C []) :: M0 ∧ GoodT ts ∧ 1 ≤ first.length ∧ first.length ≤ 2000 ∧ R .non ((p, .ins C (recF ts first)) :: M0)
theorem rep_true {M : Mem} {n : Nat} : Vw M (.lst ((List.range n).map fun _ => Val.bl true)) (.lst ((List.replicate n true).map .bl)) := by
  have e : (List.range n).map (fun _ => Val.bl true) = (List.replicate n true).map .bl := by simp [List.map_const']
  rw [e]
  exact .self _
theorem b_init {fw ft pt : Addr} {mc u1 u2 : Value} (T : Rc K mg C) (CN : Cn K C mc u1 u2) (W : Wh P w K mg base fw) (FT : FX P w K mg base 2 ft fun ds _ => aTerm ds) (sm : SMet K C mc "is_term" pt ft)
    (m1 : mg "isinstance" = none) (m2 : mg "tuple" = none) (m3 : mg "len" = none) (m4 : mg "all" = none) (m5 : mg "list" = none) :
    BodyOk P w K mg base 2 f ["self", "beginning", "terms", "term", "item"] "Recurrence.__init__" (defScope sInit) (defBody sInit) (aInit C) := by
  rintro cdv A outer0 s H E hr ds M R ⟨p, ts, first, M0, rfl, rfl, gt, hl1, hl2, hp⟩
  have l1 := gt.lo
  have l9 := gt.hi
  refine as_cons (as_if (at_w (aw_or (at_not (at_chain i_ (av_len m3 (v_ 2) .t) i_ cmp_le cmp_le ⟨fun h => ?_, fun _ => ?_⟩)))))
  · simp at h
    omega
  refine aw_or1 (at_not (at_val (ae_all m4 rfl (ae_lcP [("term", 3)] (fun _ => .bl true) rfl scInit.nd (blkOk_by (N := ["self", "beginning", "terms", "term", "item"]) (sc := defScope sInit) (by decide +kernel)) (ai_tup ((v_ 2).val ⟨rfl, rfl⟩)) ?_ (by simp; omega) ⟨List.replicate _ true, rep_true, true, by simp, nft, fun _ => as_nil ?_⟩))))
  · intro i acc D hi s H C' cl fp
    have hi' : i < ts.length := by simpa using hi
    rw [getD_tm hi']
    refine agw_name 3 scInit.nd fun s H C' cl fp => ?_
    refine ae_smeth CN.rd sm FT hr (ae_glob T.gC ⟨rfl, rfl⟩) (aa_cons ((v_ 3).val (aa_nil (ak_nil ⟨rfl, _, rfl, gt.al _ (List.getElem_mem hi'), rfl, rfl⟩))))
  refine as_cons (as_if (at_w (aw_or (at_not (at_val (ae_isi m1 (v_ 1) (av_ty (T := "tuple") m2 (by decide +kernel)) (.ty "tuple") (.tup _) (kit_ty (by decide +kernel)) ⟨true, rfl, nft, fun _ => ?_⟩))))))
  refine aw_or1 (at_not (at_chain i_ (av_len m3 (v_ 1) .t) (ae_const CN.rd CN.mf (ae_glob T.gC ⟨rfl, rfl⟩) (fun _ => .int _) ⟨rfl, rfl⟩) cmp_le cmp_le ⟨fun h => ?_, fun _ => as_nil ?_⟩))
  · simp at h
    omega
  refine as_cons (as_if (at_not (at_val (ae_all m4 rfl (ae_lcP [("item", 4)] (fun _ => .bl true) rfl scInit.nd (blkOk_by (N := ["self", "beginning", "terms", "term", "item"]) (sc := defScope sInit) (by decide +kernel)) (ai_tup ((v_ 1).val ⟨rfl, rfl⟩)) ?_ (by simp; omega) ⟨List.replicate _ true, rep_true, true, by simp, nft, fun _ => as_nil ?_⟩)))))
  · intro i acc D hi s H C' cl fp
    have hi' : i < first.length := by simpa using hi
    rw [getD_int hi']
    refine agw_name 4 scInit.nd fun s H C' cl fp => ?_
    refine ae_call W.one (hr.mono (by decide)) W.gl W.kp (aa_cons ((v_ 4).val (aa_nil (ak_nil ⟨rfl, rfl, _, none, none, rfl, rfl, rfl⟩))))
  refine as_cons (as_fld T.cl T.nT (ae_tuple m2 ((v_ 2).val ⟨_, .t, (v_ 0).val ⟨0, p, _, rfl, rfl, Nat.le_of_ble_eq_true rfl, ?_⟩⟩)))
  refine as_cons (as_fld T.cl T.nO ((v_ 1).val ((v_ 0).val ⟨0, p, _, rfl, rfl, Nat.le_of_ble_eq_true rfl, ?_⟩)))
  refine as_cons (as_fld T.cl T.nK (ae_frz (ae_list m5 ((v_ 1).val ⟨_, .t, fun q => ⟨_, _, _, rfl, rfl, (v_ 0).val ⟨0, p, _, rfl, rfl, Nat.le_of_ble_eq_true rfl, ?_⟩⟩⟩))))
  refine as_one (as_fld T.cl T.nE (ae_non ((v_ 0).val ⟨0, p, _, rfl, rfl, Nat.le_of_ble_eq_true rfl, .ok ?_⟩)))
  exact hp
end
end K36

namespace K36
open PySem L2 Ab
/-! ### the law's draws -/
def stC (x y z : Int) : Cell := .dk [(.inr "large", .int x), (.inr "mixed", .int y), (.inr "turn", .int z)]
/-- the state's cell stands at place i -/
def St (M : Mem) (i : Nat) (a : Addr) : Prop := ∃ x y z, M[i]? = some (a, stC x y z)
/-- nothing but the state has changed -/
def Dw (i : Nat) (a : Addr) (M M' : Mem) : Prop := ∃ x y z, M' = M.set i (a, stC x y z)
theorem St.dw {M M' : Mem} {i : Nat} {a : Addr} (h : St M i a) (d : Dw i a M M') : St M' i a := by
  obtain ⟨x, y, z, h⟩ := h
  obtain ⟨x', y', z', rfl⟩ := d
  exact ⟨x', y', z', List.getElem?_set_self (List.getElem?_eq_some_iff.mp h).1⟩
theorem Dw.trans {M M' M'' : Mem} {i : Nat} {a : Addr} (d : Dw i a M M') (d' : Dw i a M' M'') : Dw i a M M'' := by
  obtain ⟨x, y, z, rfl⟩ := d
  obtain ⟨x', y', z', rfl⟩ := d'
  exact ⟨x', y', z', by rw [List.set_set]⟩
theorem St.refl {M : Mem} {i : Nat} {a : Addr} (h : St M i a) : Dw i a M M := by
  obtain ⟨x, y, z, h⟩ := h
  refine ⟨x, y, z, ?_⟩
  apply List.ext_getElem?
  intro j
  by_cases hij : i = j
  · subst hij
    rw [List.getElem?_set_self (List.getElem?_eq_some_iff.mp h).1, h]
  · rw [List.getElem?_set_ne hij]
theorem St.cons {M : Mem} {i : Nat} {a : Addr} {c : Addr × Cell} (h : St M i a) : St (c :: M) (i + 1) a := h
theorem Dw.cons {M M' : Mem} {i : Nat} {a : Addr} {c : Addr × Cell} (h : Dw (i + 1) a (c :: M) M') : ∃ M'', M' = c :: M'' ∧ Dw i a M M'' := by
  obtain ⟨x, y, z, rfl⟩ := h
  exact ⟨_, rfl, x, y, z, rfl⟩
/-- any number below the size, the state changed somehow -/
def aDraw : ASp := fun ds M R => ∃ (a : Addr) (i : Nat) (n : Int), ds = [.ptr a, .int n] ∧ St M i a ∧ 0 < n ∧ n < 1073741824 ∧ ∀ v M', 0 ≤ v → v < n → Dw i a M M' → R (.int v) M'
section
variable {P : Program} {w : World} {K : PySem.W.Frag} {mg : Str → Option Value} {base : Heap} {k : Nat} {f C : Addr}
theorem dg1 {x y z : Int} : dGet [(.inr "large", .int x), (.inr "mixed", .int y), (.inr "turn", .int z)] (.inr ("large" : Str)) = some (.int x) := by rfl
theorem dg2 {x y z : Int} : dGet [(.inr "large", .int x), (.inr "mixed", .int y), (.inr "turn", .int z)] (.inr ("mixed" : Str)) = some (.int y) := by rfl
theorem dg3 {x y z : Int} : dGet [(.inr "large", .int x), (.inr "mixed", .int y), (.inr "turn", .int z)] (.inr ("turn" : Str)) = some (.int z) := by rfl
theorem dp1 {x y z : Int} {v : Val} : dPut [(.inr "large", .int x), (.inr "mixed", .int y), (.inr "turn", .int z)] (.inr ("large" : Str)) v = [(.inr "large", v), (.inr "mixed", .int y), (.inr "turn", .int z)] := by rfl
theorem dp2 {x y z : Int} {v : Val} : dPut [(.inr "large", .int x), (.inr "mixed", .int y), (.inr "turn", .int z)] (.inr ("mixed" : Str)) v = [(.inr "large", .int x), (.inr "mixed", v), (.inr "turn", .int z)] := by rfl
theorem dp3 {x y z : Int} {v : Val} : dPut [(.inr "large", .int x), (.inr "mixed", .int y), (.inr "turn", .int z)] (.inr ("turn" : Str)) v = [(.inr "large", .int x), (.inr "mixed", .int y), (.inr "turn", v)] := by rfl
theorem b_draw : BodyOk P w K mg base k f ["_law_state", "_law_size", "_law_found"] "_law_draw" (defScope sLDraw) (defBody sLDraw) aDraw := by
  rintro cdv A outer0 s H E hr ds M R ⟨a, i, n, rfl, ⟨x, y, z, hm⟩, hn, hn2, hp⟩
  have hu := hr.u1
  have hil := (List.getElem?_eq_some_iff.mp hm).1
  refine as_cons (as_ifd (p := 0 < x) (at_cmp (av_dget hu (v_ 0) s_ hm dg1) i_ cmp_gt ⟨rfl, rfl⟩) (fun hx => ?_) (fun hx => as_nil ?_))
  · refine as_cons (as_set 2 scLDraw.nd (aE.val (av_mod (av_dget hu (v_ 0) s_ hm dg1) (v_ 1) hn) ?_))
    refine as_cons (as_dput hu (v_ 0) s_ (av_fdiv (av_dget hu (v_ 0) s_ hm dg1) (v_ 1) ⟨hn, hn2⟩) hm (szl (Nat.le_of_ble_eq_true rfl)) ?_)
    refine as_one (as_ret ((v_ 2).val (.ok ?_)))
    exact hp _ _ (Int.emod_nonneg _ (by omega)) (Int.emod_lt_of_pos _ hn) ⟨_, _, _, rfl⟩
  · refine as_cons (as_dput hu (v_ 0) s_ (av_add (av_dget hu (v_ 0) s_ hm dg3) i_) hm (szl (Nat.le_of_ble_eq_true rfl)) ?_)
    have hm2 : (M.set i (a, .dk (dPut [(.inr "large", .int x), (.inr "mixed", .int y), (.inr "turn", .int z)] (.inr ("turn" : Str)) (.int (z + 1)))))[i]? = some (a, .dk [(.inr "large", .int x), (.inr "mixed", .int y), (.inr "turn", .int (z + 1))]) := List.getElem?_set_self hil
    refine as_cons (as_dput hu (v_ 0) s_ (av_mod (av_add (av_add (av_mul (av_dget hu (v_ 0) s_ hm2 dg2) i_ (.inr ⟨by decide, by decide⟩)) (av_mul i_ (av_dget hu (v_ 0) s_ hm2 dg3) (.inl ⟨by decide, by decide⟩))) i_) i_ (by decide)) hm2 (szl (Nat.le_of_ble_eq_true rfl)) ?_)
    rw [List.set_set]
    generalize hv : (y * 48271 + 104729 * (z + 1) + 11) % 2147483647 = v
    have hm3 : (M.set i (a, .dk (dPut [(.inr "large", .int x), (.inr "mixed", .int y), (.inr "turn", .int (z + 1))] (.inr ("mixed" : Str)) (.int v))))[i]? = some (a, .dk [(.inr "large", .int x), (.inr "mixed", .int v), (.inr "turn", .int (z + 1))]) := List.getElem?_set_self hil
    refine as_one (as_ret (aE.val (av_mod (av_fdiv (av_dget hu (v_ 0) s_ hm3 dg2) i_ ⟨by decide, by decide⟩) (v_ 1) hn) (.ok ?_)))
    exact hp _ _ (Int.emod_nonneg _ (by omega)) (Int.emod_lt_of_pos _ hn) ⟨_, _, _, rfl⟩
end
end K36

namespace K36
open PySem L2 Ab
theorem szb {n : Nat} (h : Nat.ble n 100000 = true := by rfl) : n ≤ sizeLine := sz (Nat.le_of_ble_eq_true h)
section
variable {P : Program} {w : World} {K : PySem.W.Frag} {mg : Str → Option Value} {base : Heap} {k : Nat} {f C : Addr}
/-! ### the getter -/
def aBegn (C : Addr) : ASp := fun ds M R => ∃ ts first, ds = [.obj C (recF ts first)] ∧ R (iT first) M
theorem b_begn (T : Rc K mg C) : BodyOk P w K mg base k f ["self"] "Recurrence.beginning" (defScope sBegn) (defBody sBegn) (aBegn C) := by
  rintro cdv A outer0 s H E hr ds M R ⟨ts, first, rfl, hp⟩
  exact as_one (as_ret (ae_fld T.cl T.nO ((v_ 0).val ⟨_, _, .im _, look_O, .ok hp⟩)))
/-! ### the law's state -/
def aBegin : ASp := fun ds M R => ∃ (ns : List Int) (sp : Int), ds = [.lst (ns.map .int), .int sp] ∧ 0 ≤ sp ∧ sp ≤ 1000 ∧ ∀ p x y z, R (.ptr p) ((p, stC x y z) :: M)
theorem b_begin (m3 : mg "len" = none) : BodyOk P w K mg base k f ["_law_script", "_law_spot", "_law_cell"] "_law_begin" (defScope sLBegin) (defBody sLBegin) aBegin := by
  rintro cdv A outer0 s H E hr ds M R ⟨ns, sp, rfl, h0, h1, hp⟩
  have hu := hr.u64
  have fin : ∀ c : Int, aSs (bcx P w K mg base ["_law_script", "_law_spot", "_law_cell"] "_law_begin" (defScope sLBegin) f cdv A outer0 s H E) [(defBody sLBegin).getD 1 (.Pass ⟨0, 0, 0, 0⟩)] [some (.lst (ns.map .int)), some (.int sp), some (.int c)] M (kOf R) := by
    intro c
    refine as_one (as_ret (ae_dict3 fun p => ap_cons s_ (d := .int (if (10 : Int) ^ (18 : Int).toNat ≤ c then c else 0)) (ae_ifd (p := (10 : Int) ^ (18 : Int).toNat ≤ c) (at_cmp (v_ 2) (av_pow i_ i_ ⟨by decide, by decide, by decide⟩) cmp_ge ⟨rfl, rfl⟩) (fun h => ?_) fun h => ?_)
      (ap_cons s_ (av_mod (av_add (av_add (v_ 2) (av_mul i_ (v_ 1) (.inl ⟨by decide, by decide⟩))) i_) i_ (by decide)) (ap_cons s_ i_ (ap_nil ⟨_, rfl, Nat.le_of_ble_eq_true rfl, .ok (hp _ _ _ _)⟩)))))
    · rw [if_pos h]
      exact v_ 2
    · rw [if_neg h]
      exact i_
  refine as_cons (as_set 2 scLBegin.nd (ae_if (at_cmp (v_ 0) (ae_lst (aa_nil ⟨by decide, rfl, rfl⟩)) (cmp_neLI (ns := ns) (ms := []) (.self _) (.self _) hu) ⟨fun h => ?_, fun h => i_.val (fin _)⟩)))
  have hl : 0 < ns.length := by
    cases ns with
    | nil => simp at h
    | cons => simp
  have hl' : (0 : Int) < ((ns.map Val.int).length : Int) := by
    rw [List.length_map]
    omega
  have h2 := Int.emod_lt_of_pos sp hl'
  rw [List.length_map] at h2
  exact aE.val (av_ixL (v_ 0) (av_mod (v_ 1) (av_len m3 (v_ 0) (.l (.self _))) hl') (.self _) (atI_int (Int.emod_nonneg _ (by omega)) (by rw [List.length_map]; exact h2))) (fin _)

/-! ### draws -/
structure Dr (P : Program) (w : World) (K : PySem.W.Frag) (mg : Str → Option Value) (base : Heap) (fd : Addr) : Prop where
  fx : FX P w K mg base 1 fd fun ds _ => aDraw ds
  gl : mg "_law_draw" = some (.ref fd)
  kp : PySem.W.keepIn K (.ref fd) = true
theorem ae_draw {X : Cx} {fd : Addr} {Γ : Gam} {M : Mem} {R : Val → Mem → Prop} {a b : Expr} {p1 pos : Pos} {n : Int} {p : Addr} {i m : Nat} (D : Dr X.prog X.w X.K X.mg X.base fd) (hr : Rm m X.A) (hm : 1 ≤ m) (ha : aV X a Γ M (.ptr p)) (hb : aV X b Γ M (.int n)) (hs : St M i p) (h0 : 0 < n) (h1 : n < 1073741824)
    (h : ∀ v M', 0 ≤ v → v < n → Dw i p M M' → R (.int v) M') (hg : Gl X "_law_draw" := by rfl)
    (he : starEach [a, b] X.env = [(false, eval a X.env), (false, eval b X.env)] := by rfl) (he2 : starEach [b] X.env = [(false, eval b X.env)] := by rfl) : aE X (.Call (.Name "_law_draw" p1) [a, b] [] pos) Γ M R :=
  ae_call D.fx (hr.mono hm) D.gl D.kp (aa_cons (ha.val (aa_cons (hb.val (aa_nil (ak_nil ⟨rfl, p, i, n, rfl, hs, h0, h1, h⟩))) (by rw [he2]; rfl))) (by rw [he, he2])) hg rfl rfl (he := by rw [he, he2]) (hpl := by rw [he]; rfl)

/-! ### _law_terms -/
def aTerms : ASp := fun ds M R => ∃ p i, ds = [.ptr p] ∧ St M i p ∧ ∀ ts M', GoodT ts → ts.length ≤ 3 → Dw i p M M' → R (.lst (ts.map tmV)) M'
theorem b_terms {fd : Addr} (D : Dr P w K mg base fd) (m5 : mg "range" = none) : BodyOk P w K mg base 1 f ["_law_state", "_law_way", "_law_gap", "_law_k"] "_law_terms" (defScope sLTerms) (defBody sLTerms) aTerms := by
  rintro cdv A outer0 s H E hr ds M R ⟨p, i, rfl, hs, hp⟩
  refine as_cons (as_asg (ae_tup (aa_cons (ae_draw D hr (by decide) (v_ 0) i_ hs (by decide) (by decide) fun way M1 w0 w1 d1 => aa_cons (ae_draw D hr (by decide) (v_ 0) i_ (hs.dw d1) (by decide) (by decide) fun gap M2 g0 g1 d2 => aa_nil ⟨szb, ?_⟩)))))
  refine ag_tup rfl (ags_cons (ag_name 1 scLTerms.nd (ags_cons (ag_name 2 scLTerms.nd (ags_nil ?_)))))
  have hs2 := (hs.dw d1).dw d2
  have d12 := d1.trans d2
  have fin : ∀ (ts : List Tm) (n : Nat) (M' : Mem) (D : Addr), 1 ≤ n → n ≤ 3 → ts.length = n → (∀ t ∈ ts, goodTm t) → Dw i p M2 M' → Ret R (.ptr D) ((D, .lst (ts.map tmV)) :: M') := fun ts n M' D h1 h3 hl ha hd =>
    .frz (.ok (hp ts M' ⟨by omega, by omega, ha⟩ (by omega) (d12.trans hd)))
  refine as_cons (as_ifd (p := way = 0) (at_cmp (v_ 1) i_ cmp_eqI ⟨rfl, rfl⟩) (fun hw => ?_) (fun hw => as_nil ?_))
  · refine as_one (as_ret (ae_lcJ [("_law_k", 3)] rfl scLTerms.nd (blkOk_by (N := ["_law_state", "_law_way", "_law_gap", "_law_k"]) (sc := defScope sLTerms) (by decide +kernel))
      (aj_range1 m5 (ae_bin (i_.val (ae_draw D hr (by decide) (v_ 0) i_ hs2 (by decide) (by decide) fun v M3 v0 v1 d3 => bv_add ⟨_, rfl, by omega, by omega, ?_⟩))))))
    refine ⟨by omega, fun j acc M4 => ∃ ts : List Tm, acc = ts.map tmV ∧ ts.length = j ∧ (∀ t ∈ ts, goodTm t) ∧ Dw i p M3 M4, ⟨[], rfl, rfl, (fun _ h => nomatch h), (hs2.dw d3).refl⟩, ?_, ?_⟩
    · rintro j acc M4 DD hj hl ⟨ts, rfl, rfl, hts, d4⟩ s H C cl fp
      have hs4 : St ((DD, .lst (ts.map tmV)) :: M4) (i + 1) p := ((hs2.dw d3).dw d4).cons
      refine agw_name 3 scLTerms.nd fun s H C cl fp => ats_nil ⟨fun _ s H C cl fp => ?_, ntf⟩
      refine ae_tup (aa_cons (ae_bin (ae_draw D hr (by decide) (v_ 0) i_ hs4 (by decide) (by decide) fun x M5 x0 x1 d5 => i_.val (bv_sub ?_))))
      refine aa_cons (ae_bin (i_.val (ae_draw D hr (by decide) (v_ 0) i_ (hs4.dw d5) (by decide) (by decide) fun y M6 y0 y1 d6 => bv_add (aa_nil ⟨szb, ?_⟩))))
      obtain ⟨M7, rfl, d7⟩ := (d5.trans d6).cons
      refine ⟨M7, rfl, ts ++ [(x - 2, 1 + y)], by rw [List.map_append]; rfl, by simp, fun t ht => ?_, d4.trans d7⟩
      rcases List.mem_append.mp ht with ht | ht
      · exact hts t ht
      · obtain rfl := List.mem_singleton.mp ht
        exact ⟨by show -1000 ≤ x - 2; omega, by show x - 2 ≤ 1000; omega, by show 1 ≤ 1 + y; omega, by show 1 + y ≤ 1000; omega⟩
    · rintro DD acc M4 ⟨ts, rfl, hl, hts, d4⟩
      exact fin ts _ M4 DD (by omega) (by omega) hl hts (d3.trans d4)
  · refine as_one (as_ret (ae_lcJ [("_law_k", 3)] rfl scLTerms.nd (blkOk_by (N := ["_law_state", "_law_way", "_law_gap", "_law_k"]) (sc := defScope sLTerms) (by decide +kernel))
      (aj_range1 m5 (ae_bin (i_.val (ae_draw D hr (by decide) (v_ 0) i_ hs2 (by decide) (by decide) fun v M3 v0 v1 d3 => bv_add ⟨_, rfl, by omega, by omega, ?_⟩))))))
    refine ⟨by omega, fun j acc M4 => ∃ ts : List Tm, acc = ts.map tmV ∧ ts.length = j ∧ (∀ t ∈ ts, goodTm t) ∧ Dw i p M3 M4, ⟨[], rfl, rfl, (fun _ h => nomatch h), (hs2.dw d3).refl⟩, ?_, ?_⟩
    · rintro j acc M4 DD hj hl ⟨ts, rfl, rfl, hts, d4⟩ s H C cl fp
      refine agw_name 3 scLTerms.nd fun s H C cl fp => ats_nil ⟨fun _ s H C cl fp => ?_, ntf⟩
      refine ae_tup (aa_cons (ae_ifd (p := way = 1) (at_cmp (v_ 1) i_ cmp_eqI ⟨rfl, rfl⟩) (fun hw => (av_add (v_ 2) (v_ 3)).val ?_) (fun hw => i_.val ?_)))
      · refine aa_cons ((av_add i_ (v_ 3)).val (aa_nil ⟨szb, M4, rfl, ts ++ [((gap + (0 + ((ts.length : Nat) : Int)), 1 + (0 + ((ts.length : Nat) : Int))) : Tm)], by rw [List.map_append]; rfl, by simp, fun t ht => ?_, d4⟩))
        rcases List.mem_append.mp ht with ht | ht
        · exact hts t ht
        · obtain rfl := List.mem_singleton.mp ht
          refine ⟨?_, ?_, ?_, ?_⟩ <;> simp <;> omega
      · refine aa_cons ((av_add i_ (v_ 3)).val (aa_nil ⟨szb, M4, rfl, ts ++ [((0, 1 + (0 + ((ts.length : Nat) : Int))) : Tm)], by rw [List.map_append]; rfl, by simp, fun t ht => ?_, d4⟩))
        rcases List.mem_append.mp ht with ht | ht
        · exact hts t ht
        · obtain rfl := List.mem_singleton.mp ht
          refine ⟨?_, ?_, ?_, ?_⟩ <;> simp <;> omega
    · rintro DD acc M4 ⟨ts, rfl, hl, hts, d4⟩
      exact fin ts _ M4 DD (by omega) (by omega) hl hts (d3.trans d4)
end
end K36

namespace K36
open PySem L2 Ab
section
variable {P : Program} {w : World} {K : PySem.W.Frag} {mg : Str → Option Value} {base : Heap} {k : Nat} {f C : Addr}
/-! ### _law_first -/
def big : Nat := 10 ^ 40
structure GoodF (ns : List Int) : Prop where
  lo : 1 ≤ ns.length
  hi : ns.length ≤ 7
  al : ∀ v ∈ ns, v.natAbs ≤ big
def aFirst : ASp := fun ds M R => ∃ p i, ds = [.ptr p] ∧ St M i p ∧ ∀ ns M', GoodF ns → Dw i p M M' → R (iT ns) M'
theorem mem_set_or {α : Type} {xs : List α} {n : Nat} {a x : α} (h : x ∈ xs.set n a) : x = a ∨ x ∈ xs := by
  rcases List.mem_or_eq_of_mem_set h with h | h
  · exact .inr h
  · exact .inl h
theorem map_set {xs : List Int} {n : Nat} {v : Int} : (xs.map Val.int).set n (.int v) = (xs.set n v).map Val.int := by rw [List.map_set]
theorem ix_of {α : Type} {xs : List α} {i : Int} (h0 : 0 ≤ i) (h1 : i < xs.length) : ixN xs.length i = some i.toNat := by
  unfold ixN
  rw [if_pos h0, if_pos h1]
theorem b_first {fd : Addr} (D : Dr P w K mg base fd) (m1 : mg "range" = none) (m2 : mg "tuple" = none) (m3 : mg "len" = none) (m4 : mg "sorted" = none) : BodyOk P w K mg base 1 f ["_law_state", "_law_found", "_law_k", "_law_at"] "_law_first" (defScope sLFirst) (defBody sLFirst) aFirst := by
  rintro cdv A outer0 s H E hr ds M R ⟨p, i, rfl, hs, hp⟩
  refine as_cons (as_lcJ 1 [("_law_k", 2)] rfl scLFirst.nd (blkOk_by (N := ["_law_state", "_law_found", "_law_k", "_law_at"]) (sc := defScope sLFirst) (by decide +kernel))
      (aj_range1 m1 (ae_bin (i_.val (ae_draw D hr (by decide) (v_ 0) i_ hs (by decide) (by decide) fun v M3 v0 v1 d3 => bv_add ⟨_, rfl, by omega, by omega, ?_⟩)))))
  refine ⟨by omega, fun j acc M4 => ∃ ns : List Int, acc = ns.map .int ∧ ns.length = j ∧ (∀ t ∈ ns, t.natAbs ≤ big) ∧ Dw i p M3 M4, ⟨[], rfl, rfl, (fun _ h => nomatch h), (hs.dw d3).refl⟩, ?_, ?_⟩
  · rintro j acc M4 DD hj hl ⟨ns, rfl, rfl, hns, d4⟩ s H C cl fp
    have hs4 : St ((DD, .lst (ns.map .int)) :: M4) (i + 1) p := ((hs.dw d3).dw d4).cons
    refine agw_name 2 scLFirst.nd fun s H C cl fp => ats_nil ⟨fun _ s H C cl fp => ?_, ntf⟩
    refine ae_bin (i_.val (ae_draw D hr (by decide) (v_ 0) i_ hs4 (by decide) (by decide) fun x M5 x0 x1 d5 => bv_add ?_))
    obtain ⟨M7, rfl, d7⟩ := d5.cons
    refine ⟨M7, rfl, ns ++ [1 + x], by rw [List.map_append]; rfl, by simp, fun t ht => ?_, d4.trans d7⟩
    rcases List.mem_append.mp ht with ht | ht
    · exact hns t ht
    · obtain rfl := List.mem_singleton.mp ht
      exact Nat.le_trans (show (1 + x).natAbs ≤ 10 by omega) (by decide)
  · rintro DD acc M4 ⟨ns, rfl, hl, hns, d4⟩
    have hl0 : 1 ≤ ns.length := by omega
    have hl7 : ns.length ≤ 7 := by omega
    have hs4 : St ((DD, .lst (ns.map .int)) :: M4) (i + 1) p := ((hs.dw d3).dw d4).cons
    have dd := d3.trans d4
    refine as_cons (as_set 3 scLFirst.nd (ae_draw D hr (by decide) (v_ 0) (av_mul i_ (av_len m3 (v_ 1) (.l (.lst 0 rfl))) (.inl ⟨by decide, by decide⟩)) hs4 (by rw [List.length_map]; omega) (by rw [List.length_map]; omega) fun at_ M5 a0 a1 d5 => ?_))
    obtain ⟨M6, rfl, d6⟩ := d5.cons
    -- the end
    have fin : ∀ (ms : List Int) (M7 : Mem), GoodF ms → Dw i p M M7 → aSs (bcx P w K mg base ["_law_state", "_law_found", "_law_k", "_law_at"] "_law_first" (defScope sLFirst) f cdv A outer0 s H E) [(defBody sLFirst).getD 3 (.Pass ⟨0, 0, 0, 0⟩)] [some (.ptr p), some (.ptr DD), none, some (.int at_)] ((DD, .lst (ms.map .int)) :: M7) (kOf R) := by
      intro ms M7 gm d7
      have hs7 : St ((DD, .lst (ms.map .int)) :: M7) (i + 1) p := (hs.dw d7).cons
      refine as_one (as_ret (ae_tuple m2 (ae_if (at_cmpM (ae_draw D hr (by decide) (v_ 0) i_ hs7 (by decide) (by decide) fun z M8 z0 z1 d8 => i_.val ⟨_, cmp_eqI, ?_⟩)))))
      obtain ⟨M9, rfl, d9⟩ := d8.cons
      refine ⟨fun _ => ?_, fun _ => ?_⟩
      · refine ae_sorted m4 ((v_ 1).val ⟨ms, .lst 0 rfl, fun ms' q hpm hpw => ⟨_, .l (.lst 0 rfl), .drop (.drop (.ok (hp ms' M9 ⟨hpm.length_eq ▸ gm.lo, hpm.length_eq ▸ gm.hi, fun v hv => gm.al v (hpm.mem_iff.mp hv)⟩ (d7.trans d9))))⟩⟩)
      · exact (v_ 1).val ⟨_, .l (.lst 0 rfl), .drop (.ok (hp ms M9 gm (d7.trans d9)))⟩
    refine as_cons (as_ifd (p := at_ < ((ns.map Val.int).length : Int)) (at_cmp (v_ 3) (av_len m3 (v_ 1) (.l (.lst 0 rfl))) cmp_lt ⟨rfl, rfl⟩) (fun hlt => ?_) (fun hlt => as_nil (fin ns M6 ⟨hl0, hl7, hns⟩ (dd.trans d6))))
    rw [List.length_map] at hlt
    have hs6 : St ((DD, .lst (ns.map .int)) :: M6) (i + 1) p := (hs.dw (dd.trans d6)).cons
    refine as_one (as_asg (ae_ixM (ae_lst (aa_cons (i_.val (aa_cons ((av_sub i_ i_).val (aa_cons (i_.val (aa_cons ((av_sub i_ (av_pow i_ i_ ⟨by decide, by decide, by decide⟩)).val (aa_cons ((av_pow i_ i_ ⟨by decide, by decide, by decide⟩).val (aa_nil ⟨szb, ?_⟩))))))))))))))
    refine ae_draw D hr (by decide) (v_ 0) i_ hs6 (by decide) (by decide) fun z M8 z0 z1 d8 => ?_
    obtain ⟨M9, rfl, d9⟩ := d8.cons
    have key : ∃ x : Int, atI [Val.int 0, .int (0 - 1), .int 5, .int (0 - 10 ^ (9 : Int).toNat), .int (10 ^ (40 : Int).toNat)] z = some (.int x) ∧ x.natAbs ≤ big := by
      have : z = 0 ∨ z = 1 ∨ z = 2 ∨ z = 3 ∨ z = 4 := by omega
      rcases this with rfl | rfl | rfl | rfl | rfl <;> exact ⟨_, rfl, by decide⟩
    obtain ⟨x, hx, hb⟩ := key
    refine ⟨z, _, _, rfl, .l (.self _), hx, ag_sub (n := 0) (v_ 1) (v_ 3) rfl (ix_of a0 (by rw [List.length_map]; exact hlt)) ?_⟩
    have e : ((DD, Cell.lst (ns.map Val.int)) :: M9).set 0 (DD, .lst ((ns.map Val.int).set at_.toNat (.int x))) = (DD, .lst ((ns.set at_.toNat x).map Val.int)) :: M9 := by rw [← map_set]; rfl
    rw [e]
    refine fin _ M9 ⟨by simpa using hl0, by simpa using hl7, fun v hv => ?_⟩ ((dd.trans d6).trans d9)
    rcases mem_set_or hv with rfl | hv
    · exact hb
    · exact hns v hv
/-! ### _law_made -/
def aMade (C : Addr) : ASp := fun ds M R => ∃ ts first, ds = [.lst (ts.map tmV), iT first] ∧ GoodT ts ∧ ts.length ≤ 3 ∧ 1 ≤ first.length ∧ first.length ≤ 2000 ∧ R (.obj C (recF ts first)) M
abbrev aMk (C : Addr) : ASx := fun ds es M R => ∃ d ds' e, ds = d :: ds' ∧ es = [e] ∧ ds'.length ≤ sizeLine ∧ aInit C [d, e, .tup ds'] M R
structure Mkr (P : Program) (w : World) (K : PySem.W.Frag) (mg : Str → Option Value) (base : Heap) (C fi : Addr) : Prop where
  mkr : Mk K C fi
  fx : FnX P w K mg base 3 fi ["beginning"] (spX K (aMk C))
theorem b_made {fi : Addr} (T : Rc K mg C) (I : Mkr P w K mg base C fi) (m3 : mg "len" = none) : BodyOk P w K mg base 4 f ["_law_terms_here", "_law_first_here"] "_law_made" (defScope sLMade) (defBody sLMade) (aMade C) := by
  rintro cdv A outer0 s H E hr ds M R ⟨ts, first, rfl, gt, h3, hf1, hf2, hp⟩
  have g0 := gt.lo
  rcases ts with _ | ⟨t1, _ | ⟨t2, _ | ⟨t3, _ | ⟨t4, ts⟩⟩⟩⟩
  · simp at g0
  · refine as_cons (as_ift (at_cmp (av_len m3 (v_ 0) (.l (.self _))) i_ cmp_eqI ⟨rfl, rfl⟩) ?_)
    exact as_one (as_ret (ae_make I.mkr I.fx hr T.gC (aa_cons ((av_ixL (v_ 0) i_ (.self _) rfl).val (aa_nil (ak_cons ((v_ 1).val (ak_nil ⟨rfl, fun p hn => ⟨_, _, _, rfl, rfl, szb, p, [t1], first, M, rfl, rfl, gt, hf1, hf2, rfl, .obj (.ok hp)⟩⟩))))))))
  · refine as_cons (as_iff (at_cmp (av_len m3 (v_ 0) (.l (.self _))) i_ cmp_eqI ⟨rfl, rfl⟩) (as_nil ?_))
    refine as_cons (as_ift (at_cmp (av_len m3 (v_ 0) (.l (.self _))) i_ cmp_eqI ⟨rfl, rfl⟩) ?_)
    exact as_one (as_ret (ae_make I.mkr I.fx hr T.gC (aa_cons ((av_ixL (v_ 0) i_ (.self _) rfl).val (aa_cons ((av_ixL (v_ 0) i_ (.self _) rfl).val (aa_nil (ak_cons ((v_ 1).val (ak_nil ⟨rfl, fun p hn => ⟨_, _, _, rfl, rfl, szb, p, [t1, t2], first, M, rfl, rfl, gt, hf1, hf2, rfl, .obj (.ok hp)⟩⟩))))))))))
  · refine as_cons (as_iff (at_cmp (av_len m3 (v_ 0) (.l (.self _))) i_ cmp_eqI ⟨rfl, rfl⟩) (as_nil ?_))
    refine as_cons (as_iff (at_cmp (av_len m3 (v_ 0) (.l (.self _))) i_ cmp_eqI ⟨rfl, rfl⟩) (as_nil ?_))
    exact as_one (as_ret (ae_make I.mkr I.fx hr T.gC (aa_cons ((av_ixL (v_ 0) i_ (.self _) rfl).val (aa_cons ((av_ixL (v_ 0) i_ (.self _) rfl).val (aa_cons ((av_ixL (v_ 0) i_ (.self _) rfl).val (aa_nil (ak_cons ((v_ 1).val (ak_nil ⟨rfl, fun p hn => ⟨_, _, _, rfl, rfl, szb, p, [t1, t2, t3], first, M, rfl, rfl, gt, hf1, hf2, rfl, .obj (.ok hp)⟩⟩))))))))))))
  · simp at h3
end
end K36

namespace K36
open PySem L2 Ab
/-! ### a run by the law's own hand -/
abbrev Dth := Int × Nat × Bool × Int
def wordOf (b : Bool) : Str := if b then "inner" else "outer"
def dthV : Option Dth → List Val
  | none => []
  | some d => [.int d.1, .int d.2.1, .str (wordOf d.2.2.1), .int d.2.2.2]
def endV : Option Dth → Val
  | none => .non
  | some d => .tup (dthV (some d))
def turn (g : List Int) (n : Int) (k : Nat) (t : Tm) (a : Int) (o : Option Dth) : Int × Option Dth :=
  if o.isSome = true then (a, o) else if n - t.2 < 1 then (a, some (n, k, true, n - t.2)) else if 1 ≤ outer g n t ∧ outer g n t < n then (a + at0 g (outer g n t - 1), none) else (a, some (n, k, false, outer g n t))
def turns (g : List Int) (n : Int) (ts : List Tm) : Nat → Int × Option Dth
  | 0 => (0, none)
  | i + 1 => turn g n i (ts.getD i (0, 1)) (turns g n ts i).1 (turns g n ts i).2
def runR (ts : List Tm) : Nat → List Int → List Int × Option Dth
  | 0, g => (g, none)
  | c + 1, g => if (turns g (g.length + 1) ts ts.length).2.isSome = true then (g, (turns g (g.length + 1) ts ts.length).2) else runR ts c (g ++ [(turns g (g.length + 1) ts ts.length).1])
theorem dth_toD (o : Option Dth) : ∃ ds, toDs (dthV o) = some ds ∧ SeqAt.shaped (.tuple ds) = true := by
  cases o with
  | none => exact ⟨[], rfl, rfl⟩
  | some d =>
    refine ⟨_, rfl, ?_⟩
    unfold wordOf
    cases d.2.2.1 <;> simp [SeqAt.shaped, PyData.canLay0, PyData.canLayAll0, PyData.depth, PyData.depthAll] <;> decide +kernel
theorem dth_empty (o : Option Dth) : (dthV o).isEmpty = !o.isSome := by cases o <;> rfl
section
variable {P : Program} {w : World} {K : PySem.W.Frag} {mg : Str → Option Value} {base : Heap} {k : Nat} {f C : Addr}
theorem cmp_eqDth {X : Cx} {M : Mem} {o : Option Dth} (hu : X.A.units + 64 < cLine) : Cmp X .Eq M (.tup (dthV o)) (.tup []) (!o.isSome) := by
  obtain ⟨ds, h1, h2⟩ := dth_toD o
  have h := cmp_eqT0 (X := X) (M := M) h1 h2 hu
  rw [dth_empty] at h
  exact h
theorem cmp_neDth {X : Cx} {M : Mem} {o : Option Dth} (hu : X.A.units + 64 < cLine) : Cmp X .NotEq M (.tup (dthV o)) (.tup []) o.isSome := by
  obtain ⟨ds, h1, h2⟩ := dth_toD o
  have h := cmp_neT0 (X := X) (M := M) h1 h2 hu
  rw [dth_empty, Bool.not_not] at h
  exact h
def aRun : ASp := fun ds M R => ∃ ts first last, ds = [.lst (ts.map tmV), iT first, .int last] ∧ GoodT ts ∧ last ≤ 1000 ∧ first.length ≤ 1000 ∧ R (.tup [.lst ((runR ts (last - (first.length : Int)).toNat first).1.map .int), endV (runR ts (last - (first.length : Int)).toNat first).2]) M
abbrev nRun : List Str := ["_law_terms_here", "_law_first_here", "_law_last", "_law_found", "_law_label", "_law_amount", "_law_death", "_law_k", "_law_x", "_law_y"]
theorem b_run (m1 : mg "list" = none) (m2 : mg "enumerate" = none) (m3 : mg "len" = none) : BodyOk P w K mg base k f nRun "_law_run" (defScope sLRun) (defBody sLRun) aRun := by
  rintro cdv A outer0 s H E hr ds M R ⟨ts, first, last, rfl, gt, hl, hfl, hp⟩
  have hu := hr.u64
  refine as_cons (as_set 3 scLRun.nd (ae_list m1 ((v_ 1).val ⟨_, .t, fun q => ?_⟩)))
  refine as_cons (as_while (fun c Γ M' => ∃ (g : List Int) (v4 v5 v6 v7 v8 v9 : Option Val), Γ = [some (.lst (ts.map tmV)), some (iT first), some (.int last), some (.ptr q), v4, v5, v6, v7, v8, v9] ∧ M' = (q, .lst (g.map .int)) :: M ∧ g.length ≤ 1000 ∧ c = (last - (g.length : Int)).toNat ∧ runR ts (last - (first.length : Int)).toNat first = runR ts c g)
    _ PassesOwn.never ⟨first, none, none, none, none, none, none, rfl, rfl, hfl, rfl, rfl⟩ ?_)
  rintro c Γ M' ⟨g, v4, v5, v6, v7, v8, v9, rfl, rfl, hgl, rfl, hrun⟩
  refine at_cmp (av_len m3 (v_ 3) (.l (.lst 0 rfl))) (v_ 2) cmp_lt ⟨fun hlt => ?_, fun hlt => ?_⟩
  · rw [decide_eq_true_eq, List.length_map] at hlt
    refine as_cons (as_par3 4 5 6 scLRun.nd rfl (aa_cons ((av_add (av_len m3 (v_ 3) (.l (.lst 0 rfl))) i_).val (aa_cons (i_.val (aa_cons ((av_tup avs_nil szb).val (aa_nil ⟨_, _, _, rfl, ?_⟩))))))))
    rw [List.length_map]
    generalize hn : (g.length : Int) + 1 = n
    refine as_cons (as_for (fun i Γ M' => ∃ (v7 v8 v9 : Option Val), Γ = [some (.lst (ts.map tmV)), some (iT first), some (.int last), some (.ptr q), some (.int n), some (.int (turns g n ts i).1), some (.tup (dthV (turns g n ts i).2)), v7, v8, v9] ∧ M' = (q, .lst (g.map .int)) :: M)
      PassesOwn.never rfl (ai_enumL m2 ((v_ 0).val ⟨rfl, v7, v8, v9, rfl, rfl⟩)) (fun _ _ _ _ _ => trivial) ?_ ?_)
    · rintro i Γ M' hi ⟨v7, v8, v9, rfl, rfl⟩
      have hi' : i < ts.length := by simpa using hi
      rw [getD_tm hi']
      have ht := gt.al ts[i] (List.getElem_mem hi')
      have et : turns g n ts (i + 1) = turn g n i ts[i] (turns g n ts i).1 (turns g n ts i).2 := by
        show turn g n i (ts.getD i (0, 1)) _ _ = _
        rw [List.getD_eq_getElem?_getD, List.getElem?_eq_getElem hi']
        rfl
      generalize ts[i] = t at *
      generalize (turns g n ts i).1 = a at *
      generalize (turns g n ts i).2 = o at *
      refine ag_tup rfl (ags_cons (ag_name 7 scLRun.nd (ags_cons (ag_tup rfl (ags_cons (ag_name 8 scLRun.nd (ags_cons (ag_name 9 scLRun.nd (ags_nil (ags_nil ?_))))))))))
      have fin : ∀ (v7 v8 v9 : Option Val) (a' : Int) (o' : Option Dth), (a', o') = turn g n i t a o → ∃ (w7 w8 w9 : Option Val), ([some (.lst (ts.map tmV)), some (iT first), some (.int last), some (.ptr q), some (.int n), some (.int a'), some (.tup (dthV o')), v7, v8, v9] : Gam) = [some (.lst (ts.map tmV)), some (iT first), some (.int last), some (.ptr q), some (.int n), some (.int (turns g n ts (i + 1)).1), some (.tup (dthV (turns g n ts (i + 1)).2)), w7, w8, w9] ∧ ((q, Cell.lst (g.map .int)) :: M : Mem) = (q, .lst (g.map .int)) :: M := by
        intro v7 v8 v9 a' o' e
        rw [et, ← e]
        exact ⟨_, _, _, rfl, rfl⟩
      cases o with
      | some d =>
        refine as_one (as_if (at_w (aw_and (at_cmp (v_ 6) (av_tup avs_nil szb) (cmp_eqDth hu) ⟨nft, fun _ => ⟨nft, fun _ => ?_⟩⟩))))
        refine as_one (as_if (at_w (aw_and (at_cmp (v_ 6) (av_tup avs_nil szb) (cmp_eqDth hu) ⟨nft, fun _ => ⟨nft, fun _ => ?_⟩⟩))))
        refine as_one (as_if (at_cmp (v_ 6) (av_tup avs_nil szb) (cmp_eqDth hu) ⟨nft, fun _ => as_nil (fin _ _ _ _ _ ?_)⟩))
        rfl
      | none =>
        by_cases h1 : n - t.2 < 1
        · refine as_one (as_if (at_w (aw_and (at_cmp (v_ 6) (av_tup avs_nil szb) (cmp_eqDth (o := none) hu) ⟨fun _ => aw_and1 (at_cmp (av_sub (v_ 4) (v_ 9)) i_ cmp_lt ⟨fun _ => ?_, fun h => absurd h1 (of_decide_eq_false h)⟩), ntf⟩))))
          refine as_one (as_set 6 scLRun.nd (ae_tup (aa_cons ((v_ 4).val (aa_cons ((v_ 7).val (aa_cons (s_.val (aa_cons ((av_sub (v_ 4) (v_ 9)).val (aa_nil ⟨szb, fin _ _ _ a (some (n, i, true, n - t.2)) ?_⟩)))))))))))
          unfold turn
          rw [if_neg nofun, if_pos h1]
        · refine as_one (as_if (at_w (aw_and (at_cmp (v_ 6) (av_tup avs_nil szb) (cmp_eqDth (o := none) hu) ⟨fun _ => aw_and1 (at_cmp (av_sub (v_ 4) (v_ 9)) i_ cmp_lt ⟨fun h => absurd (of_decide_eq_true h) h1, fun _ => ?_⟩), ntf⟩))))
          have hx : atI (g.map Val.int) (n - t.2 - 1) = some (.int (at0 g (n - t.2 - 1))) := atI_int (by omega) (by omega)
          have vo : ∀ {X : Cx} {Γ : Gam} {M : Mem} {e : Expr}, aV X e Γ M (.int (n - t.1 - at0 g (n - t.2 - 1))) → aV X e Γ M (.int (outer g n t)) := fun h => h
          by_cases h2 : 1 ≤ outer g n t ∧ outer g n t < n
          · refine as_one (as_if (at_w (aw_and (at_cmp (v_ 6) (av_tup avs_nil szb) (cmp_eqDth (o := none) hu) ⟨fun _ => aw_and1 (at_not (at_chain i_ (vo (av_sub (av_sub (v_ 4) (v_ 8)) (av_ixL (v_ 3) (av_sub (av_sub (v_ 4) (v_ 9)) i_) (.lst 0 rfl) hx))) (v_ 4) cmp_le cmp_lt ⟨fun h => ?_, fun _ => ?_⟩)), ntf⟩))))
            · simp [h2] at h
            refine as_one (as_if (at_cmp (v_ 6) (av_tup avs_nil szb) (cmp_eqDth (o := none) hu) ⟨fun _ => ?_, ntf⟩))
            refine as_one (as_set 5 scLRun.nd (aE.val (av_add (v_ 5) (av_ixL (v_ 3) (av_sub (vo (av_sub (av_sub (v_ 4) (v_ 8)) (av_ixL (v_ 3) (av_sub (av_sub (v_ 4) (v_ 9)) i_) (.lst 0 rfl) hx))) i_) (.lst 0 rfl) (atI_int (by omega) (by omega)))) (fin _ _ _ _ none ?_)))
            unfold turn
            rw [if_neg nofun, if_neg h1, if_pos h2]
          · refine as_one (as_if (at_w (aw_and (at_cmp (v_ 6) (av_tup avs_nil szb) (cmp_eqDth (o := none) hu) ⟨fun _ => aw_and1 (at_not (at_chain i_ (vo (av_sub (av_sub (v_ 4) (v_ 8)) (av_ixL (v_ 3) (av_sub (av_sub (v_ 4) (v_ 9)) i_) (.lst 0 rfl) hx))) (v_ 4) cmp_le cmp_lt ⟨fun _ => ?_, fun h => ?_⟩)), ntf⟩))))
            · refine as_one (as_set 6 scLRun.nd (ae_tup (aa_cons ((v_ 4).val (aa_cons ((v_ 7).val (aa_cons (s_.val (aa_cons ((vo (av_sub (av_sub (v_ 4) (v_ 8)) (av_ixL (v_ 3) (av_sub (av_sub (v_ 4) (v_ 9)) i_) (.lst 0 rfl) hx))).val (aa_nil ⟨szb, fin _ _ _ a (some (n, i, false, outer g n t)) ?_⟩)))))))))))
              unfold turn
              rw [if_neg nofun, if_neg h1, if_neg h2]
            · simp at h
              exact absurd ⟨h.1, h.2⟩ h2
    · rintro Γ M' ⟨v7, v8, v9, rfl, rfl⟩
      rw [List.length_map]
      have hc : (last - (g.length : Int)).toNat = (last - ((g.length + 1 : Nat) : Int)).toNat + 1 := by omega
      rw [hc] at hrun
      have hst : runR ts ((last - ((g.length + 1 : Nat) : Int)).toNat + 1) g = if (turns g n ts ts.length).2.isSome = true then (g, (turns g n ts ts.length).2) else runR ts (last - ((g.length + 1 : Nat) : Int)).toNat (g ++ [(turns g n ts ts.length).1]) := by
        rw [← hn]
        rfl
      rw [hst] at hrun
      generalize (turns g n ts ts.length).1 = a at *
      generalize (turns g n ts ts.length).2 = o at *
      cases o with
      | some d =>
        rw [if_pos (show (some d).isSome = true from rfl)] at hrun
        refine as_cons (as_ift (at_cmp (v_ 6) (av_tup avs_nil szb) (cmp_neDth hu) ⟨rfl, rfl⟩) ?_)
        refine as_frz 3 rfl (as_one (as_ret (ae_tup (aa_cons ((v_ 3).val (aa_cons ((v_ 6).val (aa_nil ⟨szb, .ok ?_⟩))))))))
        rw [hrun] at hp
        exact hp
      | none =>
        rw [if_neg nofun] at hrun
        refine as_cons (as_iff (at_cmp (v_ 6) (av_tup avs_nil szb) (cmp_neDth (o := none) hu) ⟨rfl, rfl⟩) (as_nil ?_))
        refine as_one (as_expr (ae_append (n0 := 0) (v_ 3) rfl ((v_ 5).val ⟨0, _, rfl, szl (by rw [List.length_map]; omega), (last - ((g.length + 1 : Nat) : Int)).toNat, by omega, g ++ [a], _, _, _, _, _, _, rfl, ?_, ?_, ?_, hrun⟩)))
        · show (q, Cell.lst (g.map .int ++ [.int a])) :: M = _
          rw [List.map_append]
          rfl
        · rw [List.length_append]
          show g.length + 1 ≤ 1000
          omega
        · rw [List.length_append]
          rfl
  · rw [decide_eq_false_iff_not, List.length_map] at hlt
    have hc : (last - (g.length : Int)).toNat = 0 := by omega
    rw [hc] at hrun
    refine as_frz 3 rfl (as_one (as_ret (ae_tup (aa_cons ((v_ 3).val (aa_cons (n_.val (aa_nil ⟨szb, .ok ?_⟩))))))))
    rw [hrun] at hp
    exact hp
end
end K36

namespace K36
open PySem L2 Ab
section
variable {P : Program} {w : World} {K : PySem.W.Frag} {mg : Str → Option Value} {base : Heap} {k : Nat} {f C : Addr}
/-! ### the law's own check -/
def aLHolds : ASp := fun ds M R => ∃ ts g n, ds = [.lst (ts.map tmV), iT g, .int n] ∧ GoodT ts ∧ 1 ≤ n ∧ n ≤ (g.length : Int) ∧ R (.bl (holds ts g n)) M
theorem b_lholds : BodyOk P w K mg base k f ["_law_terms_here", "_law_given", "_law_label", "_law_amount", "_law_x", "_law_y", "_law_far"] "_law_holds" (defScope sLHolds) (defBody sLHolds) aLHolds := by
  rintro cdv A outer0 s H E hr ds M R ⟨ts, g, n, rfl, gt, h1, h2, hp⟩
  refine as_cons (as_set 3 scLHolds.nd (ae_int ?_))
  refine as_cons (as_for (fun i Γ M' => M' = M ∧ ∃ acc vx vy vo, Γ = [some (.lst (ts.map tmV)), some (iT g), some (.int n), some (.int acc), vx, vy, vo] ∧ go g n 0 ts = go g n acc (ts.drop i))
    PassesOwn.never rfl (ai_lst ((v_ 0).val ⟨rfl, rfl, 0, none, none, none, rfl, rfl⟩)) (fun _ _ _ _ _ => trivial) ?_ ?_)
  · rintro i Γ M' hi ⟨rfl, acc, vx, vy, vo, rfl, hg⟩
    have hi' : i < ts.length := by simpa using hi
    rw [getD_tm hi']
    generalize et : ts[i] = t at *
    have ht := gt.al t (et ▸ List.getElem_mem hi')
    refine ag_tup rfl (ags_cons (ag_name 4 scLHolds.nd (ags_cons (ag_name 5 scLHolds.nd (ags_nil ?_)))))
    rw [go_step hi', et] at hg
    refine as_cons (as_ifd (p := n - t.2 < 1) (at_cmp (av_sub (v_ 2) (v_ 5)) i_ cmp_lt ⟨rfl, rfl⟩) (fun hin => ?_) (fun hin => as_nil ?_))
    · refine as_one (as_ret (ae_bl (.ok ?_)))
      rw [if_neg (fun z => by have := z.1; omega)] at hg
      have e : holds ts g n = false := by unfold holds; rw [hg]
      rw [e] at hp
      exact hp
    refine as_cons (as_set 6 scLHolds.nd (aE.val (av_sub (av_sub (v_ 2) (v_ 4)) (av_ixT (v_ 1) (av_sub (av_sub (v_ 2) (v_ 5)) i_) (atI_int (by omega) (by omega)))) ?_))
    show aSs _ _ [some (.lst (ts.map tmV)), some (iT g), some (.int n), some (.int acc), some (.int t.1), some (.int t.2), some (.int (K36.outer g n t))] _ _
    by_cases hok : okT g n t
    · refine as_cons (as_if (at_not (at_chain i_ (v_ 6) (v_ 2) cmp_le cmp_lt ⟨fun h => ?_, fun _ => as_nil ?_⟩)))
      · have := hok.2
        simp [this] at h
      refine as_one (as_set 3 scLHolds.nd (aE.val (av_add (v_ 3) (av_ixT (v_ 1) (av_sub (v_ 6) i_) (atI_int (by have := hok.2.1; omega) (by have := hok.2.2; omega)))) ⟨rfl, _, _, _, _, rfl, ?_⟩))
      rw [hg, if_pos hok]
    · refine as_cons (as_if (at_not (at_chain i_ (v_ 6) (v_ 2) cmp_le cmp_lt ⟨fun _ => ?_, fun h => ?_⟩)))
      · refine as_one (as_ret (ae_bl (.ok ?_)))
        rw [if_neg hok] at hg
        have e : holds ts g n = false := by unfold holds; rw [hg]
        rw [e] at hp
        exact hp
      · simp at h
        exact absurd ⟨by omega, h.1, h.2⟩ hok
  · rintro Γ M' ⟨rfl, acc, vx, vy, vo, rfl, hg⟩
    refine as_one (as_ret (ae_cmp (v_ 3) (av_ixT (v_ 1) (av_sub (v_ 2) i_) (atI_int (by omega) (by omega))) cmp_eqI (.ok ?_)))
    have e : holds ts g n = decide (acc = at0 g (n - 1)) := by
      unfold holds
      rw [hg, List.drop_of_length_le (by simp)]
      rfl
    rw [e] at hp
    exact hp
def aLFail : ASp := fun ds M R => ∃ ts m g, ds = [.lst (ts.map tmV), .int ((m : Nat) : Int), iT g] ∧ GoodT ts ∧ m ≤ 2000 ∧ g.length ≤ 20000 ∧ R (optV (firstFail ts m g)) M
theorem b_lfail {fh : Addr} (FH : FX P w K mg base 1 fh fun ds _ => aLHolds ds) (gH : mg "_law_holds" = some (.ref fh)) (kH : PySem.W.keepIn K (.ref fh) = true) (m3 : mg "len" = none) (m5 : mg "range" = none) :
    BodyOk P w K mg base 1 f ["_law_terms_here", "_law_many", "_law_given", "_law_label"] "_law_failure" (defScope sLFail) (defBody sLFail) aLFail := by
  rintro cdv A outer0 s H E hr ds M R ⟨ts, m, g, rfl, gt, hm, hl, hp⟩
  refine as_cons (as_for (n := g.length - m) (fun i Γ M2 => M2 = M ∧ ∃ v3, Γ = [some (.lst (ts.map tmV)), some (.int ((m : Nat) : Int)), some (iT g), v3] ∧ firstFail ts m g = ffrom ts g (g.length - m - i) ((m : Int) + 1 + i)) PassesOwn.never rfl
    (ai_range2 (lo := (m : Int) + 1) m5 (aa_cons ((av_add (v_ 1) i_).val (aa_cons ((av_add (av_len m3 (v_ 2) .t) i_).val (aa_nil ⟨_, rfl, ?_, ?_, rfl, none, rfl, ?_⟩)))))) (fun _ _ _ _ _ => trivial) ?_ ?_)
  · simp
    omega
  · simp
    omega
  · simp [firstFail]
  · rintro i Γ M2 hi ⟨rfl, v3, rfl, hf⟩
    rw [ffrom_step hi] at hf
    refine ag_name 3 scLFail.nd ?_
    refine as_one (as_if (at_not (at_val (ae_call FH hr gH kH (aa_cons ((v_ 0).val (aa_cons ((v_ 2).val (aa_cons ((v_ 3).val (aa_nil (ak_nil ⟨rfl, ts, g, _, rfl, gt, ?_, ?_, _, rfl, ?_⟩))))))))))))
    · omega
    · omega
    · cases hh : holds ts g ((m : Int) + 1 + i) with
      | true =>
        rw [hh, if_pos rfl] at hf
        refine ⟨nft, fun _ => as_nil ⟨rfl, _, rfl, ?_⟩⟩
        rw [hf]
        congr 1
      | false =>
        rw [hh, if_neg Bool.false_ne_true] at hf
        refine ⟨fun _ => as_one (as_ret ((v_ 3).val (.ok ?_))), ntf⟩
        rw [hf] at hp
        exact hp
  · rintro Γ M2 ⟨rfl, v3, rfl, hf⟩
    refine as_one (as_ret (ae_non (.ok ?_)))
    rw [Nat.sub_self] at hf
    rw [hf] at hp
    exact hp
end
end K36

namespace K36
open PySem L2 Ab
section
variable {P : Program} {w : World} {K : PySem.W.Frag} {mg : Str → Option Value} {base : Heap} {k : Nat} {f C : Addr}
/-! ### _law_rows -/
def Row (B : Nat) (r : List Int) : Prop := r.length ≤ 2000 ∧ ∀ v ∈ r, v.natAbs ≤ B
def aRows : ASp := fun ds M R => ∃ (p : Addr) (i : Nat) (first found : List Int) (B : Nat), ds = [.ptr p, iT first, .lst (found.map .int)] ∧ St M i p ∧ GoodF first ∧ 1 ≤ found.length ∧ found.length ≤ 1000 ∧ (∀ v ∈ found, v.natAbs ≤ B) ∧ big ≤ B ∧ ∀ (rows : List (List Int)) (M' : Mem), (∀ r ∈ rows, Row (B + 10) r) → Dw i p M M' → R (.lst (rows.map iT)) M'
/-- one item exchanged -/
def repl (g : List Int) (n : Nat) (x : Int) : List Int := g.take n ++ [x] ++ g.drop (n + 1)
theorem repl_len {g : List Int} {n : Nat} {x : Int} (h : n < g.length) : (repl g n x).length = g.length := by
  unfold repl
  simp
  omega
theorem repl_mem {g : List Int} {n : Nat} {x v : Int} (h : v ∈ repl g n x) : v = x ∨ v ∈ g := by
  unfold repl at h
  rcases List.mem_append.mp h with h | h
  · rcases List.mem_append.mp h with h | h
    · exact .inr (List.mem_of_mem_take h)
    · exact .inl (List.mem_singleton.mp h)
  · exact .inr (List.mem_of_mem_drop h)
theorem at0_mem {g : List Int} {i : Int} (h0 : 0 ≤ i) (h1 : i < g.length) : at0 g i ∈ g := by
  unfold at0
  have : i.toNat < g.length := by omega
  rw [List.getD_eq_getElem?_getD, List.getElem?_eq_getElem this]
  exact List.getElem_mem this
/-- g[:i] + [x] + g[i + 1:] -/
theorem av_repl {X : Cx} {Γ : Gam} {M : Mem} {a b c a' c' : Expr} {g : List Int} {i x : Int} {p1 p2 p3 p4 p5 p6 p7 : Pos} (ha : aV X a Γ M (.lst (g.map .int))) (hi : aV X b Γ M (.int i)) (hx : aV X c Γ M (.int x)) (ha' : aV X a' Γ M (.lst (g.map .int))) (hi' : aV X c' Γ M (.int (i + 1))) (h0 : 0 ≤ i) (h1 : i < g.length) (h2 : g.length ≤ 1000)
    (hst : starEach [c] X.env = [(false, eval c X.env)] := by rfl) :
    aV X (.BinOp (.BinOp (.Subscript a (.Slice none (some b) none p1) p2) .Add (.List [c] p3) p4) .Add (.Subscript a' (.Slice (some c') none none p5) p6) p7) Γ M (.lst ((repl g i.toNat x).map .int)) := by
  have h := av_catL (pos := p7) (av_catL (pos := p4) (av_sliceL (p2 := p1) (pos := p2) ha ao_none (ao_some hi) (.self _)) (av_lst (pos := p3) (avs_cons hx avs_nil hst) szb) (.self _) (.self _) (sz (by rw [cut_map, List.length_map]; have := cut_len (g := g) (lo := none) (hi := some i); show _ + 1 ≤ 100000; omega)))
    (av_sliceL (p2 := p5) (pos := p6) ha' (ao_some hi') ao_none (.self _)) (.self _) (.self _) (sz (by rw [cut_map, cut_map, List.length_append, List.length_map, List.length_map]; have := cut_len (g := g) (lo := none) (hi := some i); have := cut_len (g := g) (lo := some (i + 1)) (hi := none); show _ + 1 + _ ≤ 100000; omega))
  rw [cut_map, cut_map, cut_hi h0 (by omega), cut_lo (by omega) (by omega)] at h
  have e : (g.take i.toNat).map Val.int ++ [Val.int x] ++ (g.drop (i + 1).toNat).map Val.int = (repl g i.toNat x).map Val.int := by
    unfold repl
    rw [List.map_append, List.map_append, show (i + 1).toNat = i.toNat + 1 by omega]
    rfl
  rw [e] at h
  exact h
abbrev nRows : List Str := ["_law_state", "_law_first_here", "_law_found", "_law_some", "_law_at", "_law_step", "_law_back", "_law_twice", "_law_k"]
theorem b_rows {fd : Addr} (D : Dr P w K mg base fd) (m1 : mg "range" = none) (m2 : mg "tuple" = none) (m3 : mg "len" = none) : BodyOk P w K mg base 1 f nRows "_law_rows" (defScope sLRows) (defBody sLRows) aRows := by
  rintro cdv A outer0 s H E hr ds M R ⟨p, i, first, g, B, rfl, hs, gf, hg1, hg2, hgB, hB, hp⟩
  have hb10 : ∀ {v : Int}, v.natAbs ≤ B → v.natAbs ≤ B + 10 := fun h => Nat.le_trans h (Nat.le_add_right _ _)
  have len1 : ∀ {X : Cx} {Γ : Gam} {M : Mem} {e : Expr}, aV X e Γ M (.int ((g.map Val.int).length : Nat)) → aV X e Γ M (.int (g.length : Nat)) := fun h => by rw [List.length_map] at h; exact h
  -- the first two rows
  refine as_cons (as_par 3 4 scLRows.nd rfl (by decide) (aa_cons (ae_lstC (aa_cons ((av_tuple m2 (v_ 2) (.l (.self _))).val (aa_cons (ae_tuple m2 (ae_sliceM (v_ 2) (ae_draw D hr (by decide) (v_ 0) (av_add (len1 (av_len m3 (v_ 2) (.l (.self _)))) i_) hs (by omega) (by omega) fun c M1 c0 c1 d1 => ⟨c, rfl, _, .l (.self _), aa_nil ⟨szb, fun q => ?_⟩⟩)))))))))
  rw [cut_map]
  have hs1 := hs.dw d1
  refine aa_cons (ae_draw D hr (by decide) (v_ 0) (len1 (av_len m3 (v_ 2) (.l (.self _)))) hs1.cons (by omega) (by omega) fun at_ M2 a0 a1 d2 => aa_nil ⟨_, _, rfl, ?_⟩)
  obtain ⟨M3, rfl, d3⟩ := d2.cons
  have hs3 := hs1.dw d3
  -- the step, the place
  refine as_cons (as_par 5 6 scLRows.nd rfl (by decide) (aa_cons (ae_bin (i_.val (ae_draw D hr (by decide) (v_ 0) i_ hs3.cons (by decide) (by decide) fun st M4 s0 s1 d4 => bv_add ?_)))))
  obtain ⟨M5, rfl, d5⟩ := d4.cons
  have hs5 := hs3.dw d5
  refine aa_cons (ae_draw D hr (by decide) (v_ 0) (len1 (av_len m3 (v_ 2) (.l (.self _)))) hs5.cons (by omega) (by omega) fun bk M6 b0 b1 d6 => aa_nil ⟨_, _, rfl, ?_⟩)
  obtain ⟨M7, rfl, d7⟩ := d6.cons
  have hs7 := hs5.dw d7
  have dd := ((d1.trans d3).trans d5).trans d7
  -- one item up
  refine as_cons (as_expr (ae_append (n0 := 0) (v_ 3) rfl ((av_tuple m2 (av_repl (v_ 2) (v_ 4) (av_add (av_ixL (v_ 2) (v_ 4) (.self _) (atI_int a0 a1)) (v_ 5)) (v_ 2) (av_add (v_ 4) i_) a0 a1 hg2) (.l (.self _))).val ⟨0, _, rfl, szl (Nat.le_of_ble_eq_true rfl), ?_⟩)))
  -- twice
  have hl2 : (repl g at_.toNat (at0 g at_ + 1)).length = g.length := repl_len (by omega)
  refine as_cons (as_set 7 scLRows.nd (aE.val (av_repl (v_ 2) (v_ 4) (av_add (av_ixL (v_ 2) (v_ 4) (.self _) (atI_int a0 a1)) i_) (v_ 2) (av_add (v_ 4) i_) a0 a1 hg2) ?_))
  generalize htw : repl g at_.toNat (at0 g at_ + 1) = tw at *
  refine as_cons (as_expr (ae_append (n0 := 0) (v_ 3) rfl ((av_tuple m2 (av_repl (v_ 7) (v_ 6) (av_sub (av_ixL (v_ 7) (v_ 6) (.self _) (atI_int b0 (hl2 ▸ b1))) (v_ 5)) (v_ 7) (av_add (v_ 6) i_) b0 (hl2 ▸ b1) (hl2 ▸ hg2)) (.l (.self _))).val ⟨0, _, rfl, szl (Nat.le_of_ble_eq_true rfl), ?_⟩)))
  have tws : ∀ v ∈ tw, v.natAbs ≤ B + 1 := by
    subst htw
    intro v hv
    rcases repl_mem hv with rfl | hv
    · have := hgB _ (at0_mem a0 a1)
      omega
    · exact Nat.le_succ_of_le (hgB v hv)
  -- any numbers
  refine as_cons (as_expr (ae_append (n0 := 0) (v_ 3) rfl (ae_tuple m2 (ae_lcJ [("_law_k", 8)] rfl scLRows.nd (blkOk_by (N := nRows) (sc := defScope sLRows) (by decide +kernel))
      (aj_range1 m1 (ae_draw D hr (by decide) (v_ 0) i_ hs7.cons (by decide) (by decide) fun cnt M8 c0 c1 d8 => ⟨_, rfl, by omega, by omega, ?_⟩))))))
  obtain ⟨M9, rfl, d9⟩ := d8.cons
  have hs9 := hs7.dw d9
  refine ⟨by omega, fun j acc M4 => ∃ (ns : List Int) (M5 : Mem), acc = ns.map .int ∧ ns.length = j ∧ (∀ t ∈ ns, t.natAbs ≤ 10) ∧ M4 = _ :: M5 ∧ Dw i p M9 M5, ⟨[], _, rfl, rfl, (fun _ h => nomatch h), rfl, hs9.refl⟩, ?_, ?_⟩
  · rintro j acc M4 DD hj hl ⟨ns, M5, rfl, rfl, hns, rfl, d4⟩ s H C cl fp
    refine agw_name 8 scLRows.nd fun s H C cl fp => ats_nil ⟨fun _ s H C cl fp => ?_, ntf⟩
    refine ae_bin (i_.val (ae_draw D hr (by decide) (v_ 0) i_ (hs9.dw d4).cons.cons (by decide) (by decide) fun x M5 x0 x1 d5 => bv_add ?_))
    obtain ⟨M6, rfl, d6⟩ := d5.cons
    obtain ⟨M7, rfl, d7⟩ := d6.cons
    refine ⟨_, rfl, ns ++ [1 + x], M7, by rw [List.map_append]; rfl, by simp, fun t ht => ?_, rfl, d4.trans d7⟩
    rcases List.mem_append.mp ht with ht | ht
    · exact hns t ht
    · obtain rfl := List.mem_singleton.mp ht
      omega
  rintro DD acc M4 ⟨ns, M5, rfl, hl, hns, rfl, d4⟩
  refine ⟨_, .l (.lst 0 rfl), 1, _, rfl, szl (Nat.le_of_ble_eq_true rfl), ?_⟩
  -- the end
  have d45 := (dd.trans d9).trans d4
  refine as_one (as_ret (ae_bin ((v_ 3).val (aE.val (av_lst (avs_cons (av_catT (av_sliceT (v_ 1) (ao_some i_) ao_none) (av_tuple m2 (av_sliceL (v_ 2) (ao_some (av_len m3 (v_ 1) .t)) ao_none (.self _)) (.l (.self _))) ?_) (avs_cons (av_catT (av_tup (avs_cons i_ avs_nil) szb) (av_tuple m2 (v_ 2) (.l (.self _))) ?_) (avs_cons (av_tup avs_nil szb) avs_nil))) szb) (bv_catL (.lst 1 rfl) (.self _) szb fun z => .frz (.drop (.drop (.ok ?_))))))))
  · rw [cut_map, cut_map, List.length_map, List.length_map]
    have := cut_len (g := first) (lo := some 1) (hi := none)
    have := cut_len (g := g) (lo := some ((first.map Val.int).length : Nat)) (hi := none)
    have := gf.hi
    exact sz (by omega)
  · rw [List.length_map]
    exact sz (by show 1 + _ ≤ _; omega)
  rw [cut_map, cut_map, ← List.map_append]
  refine hp [g, cutI g none (some c), repl g at_.toNat (at0 g at_ + (1 + st)), repl tw bk.toNat (at0 tw bk - (1 + st)), ns, cutI first (some 1) none ++ cutI g (some ((first.map Val.int).length : Nat)) none, 0 :: g, []] M5 ?_ d45
  have hfl := gf.hi
  intro r hrow
  simp only [List.mem_cons, List.mem_nil_iff, or_false] at hrow
  rcases hrow with rfl | rfl | rfl | rfl | rfl | rfl | rfl | rfl
  · exact ⟨by omega, fun v hv => hb10 (hgB v hv)⟩
  · exact ⟨Nat.le_trans cut_len (by omega), fun v hv => hb10 (hgB v (cut_mem hv))⟩
  · refine ⟨by rw [repl_len (by omega)]; omega, fun v hv => ?_⟩
    rcases repl_mem hv with rfl | hv
    · have := hgB _ (at0_mem a0 a1)
      omega
    · exact hb10 (hgB v hv)
  · refine ⟨by rw [repl_len (by omega)]; omega, fun v hv => ?_⟩
    rcases repl_mem hv with rfl | hv
    · have := tws _ (at0_mem b0 (hl2 ▸ b1))
      omega
    · have := tws v hv
      omega
  · exact ⟨by omega, fun v hv => by have := hns v hv; omega⟩
  · refine ⟨?_, fun v hv => ?_⟩
    · rw [List.length_append]
      have := cut_len (g := first) (lo := some 1) (hi := none)
      have := cut_len (g := g) (lo := some ((first.map Val.int).length : Nat)) (hi := none)
      omega
    · rcases List.mem_append.mp hv with hv | hv
      · exact hb10 (Nat.le_trans (gf.al v (cut_mem hv)) hB)
      · exact hb10 (hgB v (cut_mem hv))
  · refine ⟨by show g.length + 1 ≤ 2000; omega, fun v hv => ?_⟩
    rcases List.mem_cons.mp hv with rfl | hv
    · exact Nat.zero_le _
    · exact hb10 (hgB v hv)
  · exact ⟨by decide, fun v hv => nomatch hv⟩
end
end K36

namespace K36
open PySem L2 Ab
/-! ### how large a run's numbers are -/
theorem at0_le {g : List Int} {B : Nat} (h : ∀ v ∈ g, v.natAbs ≤ B) (i : Int) : (at0 g i).natAbs ≤ B := by
  unfold at0
  by_cases hi : i.toNat < g.length
  · rw [List.getD_eq_getElem?_getD, List.getElem?_eq_getElem hi]
    exact h _ (List.getElem_mem hi)
  · rw [List.getD_eq_getElem?_getD, List.getElem?_eq_none_iff.mpr (by omega)]
    exact Nat.zero_le _
theorem turns_le {g : List Int} {B : Nat} (h : ∀ v ∈ g, v.natAbs ≤ B) (n : Int) (ts : List Tm) : ∀ i, (turns g n ts i).1.natAbs ≤ i * B
  | 0 => Nat.zero_le _
  | i + 1 => by
    have ih := turns_le h n ts i
    show (turn g n i (ts.getD i (0, 1)) (turns g n ts i).1 (turns g n ts i).2).1.natAbs ≤ _
    have hb := at0_le h (outer g n (ts.getD i (0, 1)) - 1)
    rw [Nat.succ_mul]
    unfold turn
    generalize (turns g n ts i).1 = a at *
    generalize at0 g (outer g n (ts.getD i (0, 1)) - 1) = b at *
    split
    · show a.natAbs ≤ _
      omega
    · split
      · show a.natAbs ≤ _
        omega
      · split
        · show (a + b).natAbs ≤ _
          omega
        · show a.natAbs ≤ _
          omega
theorem run_len (ts : List Tm) : ∀ (c : Nat) (g : List Int), g.length ≤ (runR ts c g).1.length ∧ (runR ts c g).1.length ≤ g.length + c
  | 0, g => ⟨Nat.le_refl _, Nat.le_refl _⟩
  | c + 1, g => by
    unfold runR
    split
    · exact ⟨Nat.le_refl _, Nat.le_add_right _ _⟩
    · have h := run_len ts c (g ++ [(turns g (g.length + 1) ts ts.length).1])
      rw [List.length_append] at h
      have e : [(turns g (g.length + 1) ts ts.length).1].length = 1 := rfl
      omega
theorem run_le {ts : List Tm} (ht : ts.length ≤ 9) : ∀ (c : Nat) {g : List Int} {B : Nat}, (∀ v ∈ g, v.natAbs ≤ B) → ∀ v ∈ (runR ts c g).1, v.natAbs ≤ B * 9 ^ c
  | 0, g, B, h => fun v hv => by
    rw [Nat.pow_zero, Nat.mul_one]
    exact h v hv
  | c + 1, g, B, h => by
    unfold runR
    split
    · intro v hv
      have hp : 1 ≤ 9 ^ (c + 1) := Nat.pos_of_ne_zero (by simp)
      exact Nat.le_trans (h v hv) (Nat.le_mul_of_pos_right _ hp)
    · have h9 : ∀ v ∈ g ++ [(turns g (g.length + 1) ts ts.length).1], v.natAbs ≤ 9 * B := fun v hv => by
        rcases List.mem_append.mp hv with hv | hv
        · have := h v hv
          omega
        · rw [List.mem_singleton.mp hv]
          exact Nat.le_trans (turns_le h _ ts ts.length) (Nat.mul_le_mul_right _ ht)
      have ih := run_le ht c h9
      intro v hv
      have := ih v hv
      rw [Nat.pow_succ, ← Nat.mul_assoc, Nat.mul_right_comm, Nat.mul_comm B 9]
      exact this
theorem ffrom_le {ts : List Tm} {g : List Int} : ∀ (c : Nat) (n : Int) (r : Int), ffrom ts g c n = some r → n ≤ r ∧ r < n + c
  | 0, n, r, h => nomatch h
  | c + 1, n, r, h => by
    unfold ffrom at h
    split at h
    · have := ffrom_le c (n + 1) r h
      omega
    · cases h
      omega
def oD : Option Int → PyData
  | none => .none
  | some l => .int l
theorem toD_opt (o : Option Int) : toD (optV o) = some (oD o) := by cases o <;> rfl
theorem opt_show {o : Option Int} (h : ∀ r, o = some r → showI r) : (oD o).showable = true ∧ (oD o).hasDict = false ∧ (oD o).depth = 0 ∧ (oD o).shown.length ≤ 1921 := by
  cases o with
  | none => exact ⟨rfl, rfl, rfl, by decide⟩
  | some r => exact ⟨decide_eq_true (h r rfl), rfl, rfl, shownI_le (h r rfl)⟩
section
variable {X : Cx} {Γ : Gam} {M : Mem} {a : Expr} {p1 pos : Pos}
/-- repr([o, o]) -/
theorem ae_repr2 {n : Nat} {R : Val → Mem → Prop} {o : Option Int} (hr : Rm n X.A) (hm : X.mg "repr" = none) (ha : aE X a Γ M fun d M' => d = .lst [optV o, optV o] ∧ R (.str (PyData.shown (.list [oD o, oD o]))) M') (h : ∀ r, o = some r → showI r)
    (hg : Gl X "repr" := by rfl) (hst : starEach [a] X.env = [(false, eval a X.env)] := by rfl) : aE X (.Call (.Name "repr" p1) [a] [] pos) Γ M R := by
  obtain ⟨h1, h2, h3, h4⟩ := opt_show h
  refine ae_repr hr hm (ha.mono fun d M' ⟨e, hp⟩ => ?_) hg hst
  subst e
  refine ⟨_, .list [oD o, oD o], .self _, toD_lst ?_, .inl ⟨_, rfl⟩, ?_, ?_, ?_, ?_, hp⟩
  · unfold toDs
    rw [toD_opt]
    show ((toDs [optV o]).map fun ds => oD o :: ds) = _
    unfold toDs
    rw [toD_opt]
    rfl
  · simp [PyData.showable, PyData.showableAll, h1]
  · simp [PyData.hasDict, PyData.hasDictAll, h2]
  · simp [PyData.depth, PyData.depthAll, h3]
  · have e : PyData.shown (.list [oD o, oD o]) = listText [(oD o).shown, (oD o).shown] := by simp [PyData.shown, PyData.shownAll]
    rw [e]
    have h5 := listText_len_le [(oD o).shown, (oD o).shown]
    simp at h5
    have : sizeLine = 16777216 := rfl
    omega
end
section
variable {P : Program} {w : World} {K : PySem.W.Frag} {mg : Str → Option Value} {base : Heap} {k : Nat} {f C : Addr}
/-- what _law_right calls -/
structure Rg (P : Program) (w : World) (K : PySem.W.Frag) (mg : Str → Option Value) (base : Heap) (C ft ff fm fr fl fo fa fp fg : Addr) : Prop where
  T : FX P w K mg base 2 ft fun ds _ => aTerms ds
  gT : mg "_law_terms" = some (.ref ft)
  kT : PySem.W.keepIn K (.ref ft) = true
  F : FX P w K mg base 2 ff fun ds _ => aFirst ds
  gF : mg "_law_first" = some (.ref ff)
  kF : PySem.W.keepIn K (.ref ff) = true
  M : FX P w K mg base 5 fm fun ds _ => aMade C ds
  gM : mg "_law_made" = some (.ref fm)
  kM : PySem.W.keepIn K (.ref fm) = true
  R : FX P w K mg base 1 fr fun ds _ => aRun ds
  gR : mg "_law_run" = some (.ref fr)
  kR : PySem.W.keepIn K (.ref fr) = true
  L : FX P w K mg base 2 fl fun ds _ => aLFail ds
  gL : mg "_law_failure" = some (.ref fl)
  kL : PySem.W.keepIn K (.ref fl) = true
  O : FX P w K mg base 2 fo fun ds _ => aRows ds
  gO : mg "_law_rows" = some (.ref fo)
  kO : PySem.W.keepIn K (.ref fo) = true
  A : FX P w K mg base 3 fa fun ds _ => aFail C ds
  A2 : FnX P w K mg base 3 fa ["numbers"] (spX K fun ds es M R => ds.length = 1 ∧ aFail C (ds ++ es) M R)
  mA : Meth K C "first_failure" fa
  G : FX P w K mg base 1 fg fun ds _ => aBegn C ds
  pG : PropOf K C "beginning" fp fg
def aRight : ASp := fun ds M R => ∃ p i, ds = [.ptr p] ∧ St M i p ∧ ∀ M', Dw i p M M' → R (.bl true) M'
theorem getD_rows {rows : List (List Int)} {i : Nat} (h : i < rows.length) : (rows.map iT).getD i .non = iT rows[i] := by
  rw [List.getD_eq_getElem?_getD, List.getElem?_map, List.getElem?_eq_getElem h]
  rfl
theorem b_right {ft ff fm fr fl fo fa fp fg : Addr} (T : Rc K mg C) (Q : Rg P w K mg base C ft ff fm fr fl fo fa fp fg) (m3 : mg "len" = none) (m4 : mg "repr" = none) :
    BodyOk P w K mg base 5 f ["_law_state", "_law_terms_here", "_law_first_here", "_law_one", "_law_found", "_law_end", "_law_given", "_law_due", "_law_kept"] "_law_right" (defScope sLRight) (defBody sLRight) aRight := by
  rintro cdv A outer0 s H E hr ds M R ⟨p, i, rfl, hs, hp⟩
  have hu := hr.u64
  refine as_cons (as_par 1 2 scLRight.nd rfl (by decide) (aa_cons (ae_call Q.T (hr.mono (by decide)) Q.gT Q.kT (aa_cons ((v_ 0).val (aa_nil (ak_nil ⟨rfl, p, i, rfl, hs, fun ts M1 gt h3 d1 => ?_⟩)))))))
  refine aa_cons (ae_call Q.F (hr.mono (by decide)) Q.gF Q.kF (aa_cons ((v_ 0).val (aa_nil (ak_nil ⟨rfl, p, i, rfl, hs.dw d1, fun first M2 gf d2 => aa_nil ⟨_, _, rfl, ?_⟩⟩)))))
  have hf1 := gf.lo
  have hf7 := gf.hi
  refine as_cons (as_asg (ae_tup (aa_cons (ae_call Q.M hr Q.gM Q.kM (aa_cons ((v_ 1).val (aa_cons ((v_ 2).val (aa_nil (ak_nil ⟨rfl, ts, first, rfl, gt, h3, hf1, by omega, ?_⟩))))))))))
  refine aa_cons (ae_call Q.R (hr.mono (by decide)) Q.gR Q.kR (aa_cons ((v_ 1).val (aa_cons ((v_ 2).val (aa_cons (i_.val (aa_nil (ak_nil ⟨rfl, ts, first, 30, rfl, gt, by decide, by omega, aa_nil ⟨szb, ?_⟩⟩)))))))))
  have hl := run_len ts (30 - (first.length : Int)).toNat first
  have hB := run_le gt.hi (30 - (first.length : Int)).toNat gf.al
  generalize (runR ts (30 - (first.length : Int)).toNat first).1 = found at *
  generalize (runR ts (30 - (first.length : Int)).toNat first).2 = o at *
  have hB2 : ∀ v ∈ found, v.natAbs ≤ big * 9 ^ 30 := fun v hv => Nat.le_trans (hB v hv) (Nat.mul_le_mul_left _ (Nat.pow_le_pow_right (by decide) (by omega)))
  refine ag_tup rfl (ags_cons (ag_name 3 scLRight.nd (ags_cons (ag_tup rfl (ags_cons (ag_name 4 scLRight.nd (ags_cons (ag_name 5 scLRight.nd (ags_nil (ags_nil ?_))))))))))
  have hs2 := (hs.dw d1).dw d2
  refine as_cons (as_forJ PassesOwn.never rfl (aj_lst (ae_call Q.O (hr.mono (by decide)) Q.gO Q.kO (aa_cons ((v_ 0).val (aa_cons ((v_ 2).val (aa_cons ((v_ 4).val (aa_nil (ak_nil ⟨rfl, p, i, first, found, big * 9 ^ 30, rfl, hs2, gf, by omega, by omega, hB2, by decide, fun rows M3 hrows d3 => ⟨_, rfl, ?_⟩⟩)))))))))))
  refine ⟨fun j Γ M' => M' = M3 ∧ ∃ v6 v7 v8, Γ = [some (.ptr p), some (.lst (ts.map tmV)), some (iT first), some (.obj C (recF ts first)), some (.lst (found.map .int)), some (endV o), v6, v7, v8], ⟨rfl, none, none, none, rfl⟩, ?_, ?_⟩
  · rintro j Γ M' hj ⟨rfl, v6, v7, v8, rfl⟩
    have hj' : j < rows.length := by simpa using hj
    show aG _ _ ((rows.map iT).getD j .non) _ _ _
    rw [getD_rows hj']
    have hrow := hrows _ (List.getElem_mem hj')
    generalize rows[j] = g at *
    have hsh : ∀ v ∈ g, showI v := fun v hv => log_lt (Nat.lt_of_le_of_lt (hrow.2 v hv) (by decide +kernel))
    have hgl := hrow.1
    have hof : ∀ r, firstFail ts (first.map Val.int).length g = some r → showI r := fun r hr => by
      have := ffrom_le _ _ _ hr
      rw [List.length_map] at this
      exact log_lt (Nat.lt_of_le_of_lt (show r.natAbs ≤ 10000 by omega) (by decide +kernel))
    have hof2 : firstFail ts (first.map Val.int).length g = firstFail ts first.length g := by rw [List.length_map]
    refine ag_name 6 scLRight.nd ?_
    refine as_cons (as_par 7 8 scLRight.nd rfl (by decide) (aa_cons (ae_call Q.L (hr.mono (by decide)) Q.gL Q.kL (aa_cons ((v_ 1).val (aa_cons ((av_len m3 (v_ 2) .t).val (aa_cons ((v_ 6).val (aa_nil (ak_nil ⟨rfl, ts, _, g, rfl, gt, by rw [List.length_map]; omega, by omega, ?_⟩)))))))))))
    refine aa_cons ((av_reprTI hr m4 (v_ 6) hsh (by omega)).val (aa_nil ⟨_, _, rfl, ?_⟩))
    rw [hof2] at hof ⊢
    generalize hd : firstFail ts first.length g = due at *
    refine as_cons (as_if (at_cmpM (ae_repr2 (o := due) hr m4 (ae_lst (aa_cons (ae_meth T.cl Q.mA Q.A (hr.mono (by decide)) (v_ 3) (.im _) rfl (aa_cons ((v_ 6).val (aa_nil (ak_nil ⟨rfl, ts, first, g, rfl, gt, by omega, by omega, ?_⟩)))))))  hof)))
    rw [hd]
    refine aa_cons (ae_meth0 T.cl Q.mA Q.A2 (hr.mono (by decide)) (v_ 3) (.im _) rfl (ak_cons ((v_ 6).val (ak_nil ⟨rfl, rfl, ts, first, g, rfl, gt, by omega, by omega, ?_⟩))))
    rw [hd]
    refine aa_nil ⟨szb, rfl, ?_⟩
    refine ae_repr2 (o := due) hr m4 (aE.val (av_repL (avs_cons (v_ 7) avs_nil) szb (fun _ => i_) (by decide) (by decide) szb) ⟨rfl, _, cmp_neS, fun h => ?_, fun _ => as_nil ?_⟩) hof
    · simp at h
    refine as_one (as_if (at_cmp (av_reprTI hr m4 (v_ 6) hsh (by omega)) (v_ 8) cmp_neS ⟨fun h => ?_, fun _ => as_nil ⟨rfl, _, _, _, rfl⟩⟩))
    simp at h
  · rintro Γ M' ⟨rfl, v6, v7, v8, rfl⟩
    refine as_one (as_ret (ae_cmp (ae_prop T.cl Q.pG Q.G (hr.mono (by decide)) (v_ 3) (.im _) ⟨ts, first, rfl, rfl, rfl⟩) (v_ 2) (cmp_eqTI hu) (.ok ?_)))
    rw [decide_eq_true rfl]
    exact hp _ ((d1.trans d2).trans d3)
end
end K36

namespace K36
open PySem L2 Ab
section
variable {P : Program} {w : World} {K : PySem.W.Frag} {mg : Str → Option Value} {base : Heap} {k : Nat} {f C : Addr}
/-! ### the law -/
def aLaw0 : ASp := fun ds M R => ∃ ns : List Int, ds = [.lst (ns.map .int)] ∧ ns.length ≤ 63 ∧ R (.bl true) M
theorem dw0 {p : Addr} {x y z : Int} {M M' : Mem} (h : Dw 0 p ((p, stC x y z) :: M) M') : ∃ x' y' z', M' = (p, stC x' y' z') :: M := by
  obtain ⟨x', y', z', rfl⟩ := h
  exact ⟨x', y', z', rfl⟩
theorem b_law {fb fr fa fi : Addr} (T : Rc K mg C) (B : FX P w K mg base 1 fb fun ds _ => aBegin ds) (gB : mg "_law_begin" = some (.ref fb)) (kB : PySem.W.keepIn K (.ref fb) = true) (Rr : FX P w K mg base 6 fr fun ds _ => aRight ds) (gR : mg "_law_right" = some (.ref fr)) (kR : PySem.W.keepIn K (.ref fr) = true)
    (A : FX P w K mg base 3 fa fun ds _ => aFail C ds) (mA : Meth K C "first_failure" fa) (I : Mkr P w K mg base C fi) (m1 : mg "range" = none) (m2 : mg "min" = none) (m3 : mg "len" = none) :
    BodyOk P w K mg base 6 f ["_law_script", "_law_index", "_law_state", "_law_turn", "_law_one"] "law" (defScope sLaw) (defBody sLaw) aLaw0 := by
  rintro cdv A0 outer0 s H E hr ds M R ⟨ns, rfl, hl, hp⟩
  refine as_cons (as_forJ PassesOwn.never rfl (aj_range1 m1 (ae_bin (i_.val (ae_min2 m2 rfl i_ (av_len m3 (v_ 0) (.l (.self _))) (bv_add ⟨_, rfl, ?_, ?_, ?_⟩))))))
  · rw [List.length_map]
    split <;> omega
  · rw [List.length_map]
    split <;> omega
  have hcnt : ((1 : Int) + (if ((ns.map Val.int).length : Int) < 2 then ((ns.map Val.int).length : Int) else 2)).toNat ≤ 3 := by
    split <;> omega
  refine ⟨fun i Γ M' => ∃ (cs : Mem) (v1 v2 v3 : Option Val), M' = cs ++ M ∧ Γ = [some (.lst (ns.map .int)), v1, v2, v3, none], ⟨[], none, none, none, rfl, rfl⟩, ?_, ?_⟩
  · rintro i Γ M' hi ⟨cs, v1, v2, v3, rfl, rfl⟩
    refine ag_name 1 scLaw.nd ?_
    refine as_cons (as_set 2 scLaw.nd (ae_call B (hr.mono (by decide)) gB kB (aa_cons ((v_ 0).val (aa_cons ((v_ 1).val (aa_nil (ak_nil ⟨rfl, ns, _, rfl, by omega, by omega, fun p x y z => ?_⟩))))))))
    refine as_one (as_for (fun j Γ M' => ∃ (x y z : Int) (v3 : Option Val), M' = (p, stC x y z) :: (cs ++ M) ∧ Γ = [some (.lst (ns.map .int)), some (.int (0 + (i : Int))), some (.ptr p), v3, none]) PassesOwn.never rfl
      (ai_range1 m1 (i_.val ⟨_, rfl, rfl, by decide, by decide, x, y, z, _, rfl, rfl⟩)) (fun _ _ _ _ _ => trivial) ?_ ?_)
    · rintro j Γ M' hj ⟨x, y, z, v3, rfl, rfl⟩
      refine ag_name 3 scLaw.nd ?_
      refine as_one (as_if (at_not (at_val (ae_call Rr hr gR kR (aa_cons ((v_ 2).val (aa_nil (ak_nil ⟨rfl, p, 0, rfl, ⟨_, _, _, rfl⟩, fun M2 d2 => ⟨true, rfl, nft, fun _ => as_nil ?_⟩⟩))))))))
      obtain ⟨x', y', z', rfl⟩ := dw0 d2
      exact ⟨x', y', z', _, rfl, rfl⟩
    · rintro Γ M' ⟨x, y, z, v3, rfl, rfl⟩
      exact ⟨(p, stC x y z) :: cs, _, _, _, rfl, rfl⟩
  · rintro Γ M' ⟨cs, v1, v2, v3, rfl, rfl⟩
    have gt : GoodT [(0, 1), (1, 2)] := ⟨by decide, by decide, by decide⟩
    refine as_cons (as_set 4 scLaw.nd (ae_frzO (ae_make I.mkr I.fx (hr.mono (by decide)) T.gC (aa_cons (aE.val (av_tup (avs_cons i_ (avs_cons i_ avs_nil)) szb) (aa_cons (aE.val (av_tup (avs_cons i_ (avs_cons i_ avs_nil)) szb) (aa_nil (ak_cons (aE.val (av_tup (avs_cons i_ (avs_cons i_ avs_nil)) szb) (ak_nil ⟨rfl, fun p hn => ⟨_, _, _, rfl, rfl, szb, p, [(0, 1), (1, 2)], [1, 2], _, rfl, rfl, gt, by decide, by decide, rfl, p, C, _, _, rfl, rfl, ?_⟩⟩)))))))))))
    refine as_one (as_ret (ae_and (ae_cmpM (ae_meth T.cl mA A (hr.mono (by decide)) (v_ 4) (.im _) rfl (aa_cons (aE.val (av_tup (avs_cons i_ (avs_cons i_ (avs_cons i_ (avs_cons i_ (avs_cons i_ avs_nil))))) szb) (aa_nil (ak_nil ⟨rfl, _, _, [1, 2, 2, 3, 5], rfl, gt, by decide, by decide, ?_⟩))))))))
    have e1 : firstFail [(0, 1), (1, 2)] ([1, 2] : List Int).length [1, 2, 2, 3, 5] = some 5 := by decide +kernel
    rw [e1]
    refine i_.val ⟨_, cmp_eqI, true, rfl, fun _ => ae_one (ae_cmpM (ae_meth T.cl mA A (hr.mono (by decide)) (v_ 4) (.im _) rfl (aa_cons (aE.val (av_tup (avs_cons i_ (avs_cons i_ avs_nil)) szb) (aa_nil (ak_nil ⟨rfl, _, _, [3, 3], rfl, gt, by decide, by decide, ?_⟩)))))), ntf⟩
    have e2 : firstFail [(0, 1), (1, 2)] ([1, 2] : List Int).length [3, 3] = none := by decide +kernel
    rw [e2]
    exact n_.val ⟨_, cmp_isN, .drops (.ok hp)⟩
end
end K36

namespace K36
open PySem L2 Ab
theorem all36 {l : PySem.W.OpenLaw} {w : World} {K : PySem.W.Frag} {h : Heap} {mg : Str → Option Value} {fa : Addr} (X : K.In h) (G : h.Ns mainGlobals mg) (hfa : mg "law" = some (.ref fa))
    {C D0 fW fP fB fD fT fF fM fR fH fL fO fQ fZ fI fJ fA fS fN pS pN : Addr}
    {odW anW : Option Addr} {slW : Array (Option Value)} {ocW dcW pmW cdW ctW : Value}
    {odP anP : Option Addr} {slP : Array (Option Value)} {ocP kVP dcP pmP cdP ctP : Value}
    {odB anB : Option Addr} {slB : Array (Option Value)} {ocB kVB dcB pmB cdB ctB : Value}
    {odD anD : Option Addr} {slD : Array (Option Value)} {ocD kVD dcD pmD cdD ctD : Value}
    {odT anT : Option Addr} {slT : Array (Option Value)} {ocT kVT dcT pmT cdT ctT : Value}
    {odF anF : Option Addr} {slF : Array (Option Value)} {ocF kVF dcF pmF cdF ctF : Value}
    {odM anM : Option Addr} {slM : Array (Option Value)} {ocM kVM dcM pmM cdM ctM : Value}
    {odR anR : Option Addr} {slR : Array (Option Value)} {ocR kVR dcR pmR cdR ctR : Value}
    {odH anH : Option Addr} {slH : Array (Option Value)} {ocH kVH dcH pmH cdH ctH : Value}
    {odL anL : Option Addr} {slL : Array (Option Value)} {ocL kVL dcL pmL cdL ctL : Value}
    {odO anO : Option Addr} {slO : Array (Option Value)} {ocO kVO dcO pmO cdO ctO : Value}
    {odQ anQ : Option Addr} {slQ : Array (Option Value)} {ocQ kVQ dcQ pmQ cdQ ctQ : Value}
    {odZ anZ : Option Addr} {slZ : Array (Option Value)} {ocZ kVZ dcZ pmZ cdZ ctZ : Value}
    {odI anI : Option Addr} {slI : Array (Option Value)} {ocI kVI dcI pmI cdI ctI : Value}
    {odJ anJ : Option Addr} {slJ : Array (Option Value)} {ocJ kVJ dcJ pmJ cdJ ctJ : Value}
    {odA anA : Option Addr} {slA : Array (Option Value)} {ocA kVA dcA pmA cdA ctA : Value}
    {odS anS : Option Addr} {slS : Array (Option Value)} {ocS kVS dcS pmS cdS ctS : Value}
    {rS : List Value}
    {odN anN : Option Addr} {slN : Array (Option Value)} {ocN kVN dcN pmN cdN ctN : Value}
    {rN : List Value}
    {u1 u2 w1 w2 : Value}
    (aC : PySem.W.nsIn K mainGlobals "Recurrence" = some (some (.ref C)))
    (aW : PySem.W.nsIn K mainGlobals "is_whole" = some (some (.ref fW)))
    (lW : K.lookup fW = some ⟨ocW, odW, .func (PySem.W.fnOf "is_whole" "is_whole" (defArgs sWhole) (defBody sWhole) (defScope sWhole) .none (.ref D0) dcW pmW anW cdW ctW), slW⟩)
    (cW : PySem.W.codeIn K cdW "is_whole" = true)
    (kW : PySem.W.keepIn K (.ref fW) = true)
    (aP : PySem.W.nsIn K mainGlobals "wrong_place" = some (some (.ref fP)))
    (lP : K.lookup fP = some ⟨ocP, odP, .func (PySem.W.fnOf "wrong_place" "wrong_place" (defArgs sWrong) (defBody sWrong) (defScope sWrong) .none kVP dcP pmP anP cdP ctP), slP⟩)
    (cP : PySem.W.codeIn K cdP "wrong_place" = true)
    (kP : PySem.W.keepIn K (.ref fP) = true)
    (aB : PySem.W.nsIn K mainGlobals "_law_begin" = some (some (.ref fB)))
    (lB : K.lookup fB = some ⟨ocB, odB, .func (PySem.W.fnOf "_law_begin" "_law_begin" (defArgs sLBegin) (defBody sLBegin) (defScope sLBegin) .none kVB dcB pmB anB cdB ctB), slB⟩)
    (cB : PySem.W.codeIn K cdB "_law_begin" = true)
    (kB : PySem.W.keepIn K (.ref fB) = true)
    (aD : PySem.W.nsIn K mainGlobals "_law_draw" = some (some (.ref fD)))
    (lD : K.lookup fD = some ⟨ocD, odD, .func (PySem.W.fnOf "_law_draw" "_law_draw" (defArgs sLDraw) (defBody sLDraw) (defScope sLDraw) .none kVD dcD pmD anD cdD ctD), slD⟩)
    (cD : PySem.W.codeIn K cdD "_law_draw" = true)
    (kD : PySem.W.keepIn K (.ref fD) = true)
    (aT : PySem.W.nsIn K mainGlobals "_law_terms" = some (some (.ref fT)))
    (lT : K.lookup fT = some ⟨ocT, odT, .func (PySem.W.fnOf "_law_terms" "_law_terms" (defArgs sLTerms) (defBody sLTerms) (defScope sLTerms) .none kVT dcT pmT anT cdT ctT), slT⟩)
    (cT : PySem.W.codeIn K cdT "_law_terms" = true)
    (kT : PySem.W.keepIn K (.ref fT) = true)
    (aF : PySem.W.nsIn K mainGlobals "_law_first" = some (some (.ref fF)))
    (lF : K.lookup fF = some ⟨ocF, odF, .func (PySem.W.fnOf "_law_first" "_law_first" (defArgs sLFirst) (defBody sLFirst) (defScope sLFirst) .none kVF dcF pmF anF cdF ctF), slF⟩)
    (cF : PySem.W.codeIn K cdF "_law_first" = true)
    (kF : PySem.W.keepIn K (.ref fF) = true)
    (aM : PySem.W.nsIn K mainGlobals "_law_made" = some (some (.ref fM)))
    (lM : K.lookup fM = some ⟨ocM, odM, .func (PySem.W.fnOf "_law_made" "_law_made" (defArgs sLMade) (defBody sLMade) (defScope sLMade) .none kVM dcM pmM anM cdM ctM), slM⟩)
    (cM : PySem.W.codeIn K cdM "_law_made" = true)
    (kM : PySem.W.keepIn K (.ref fM) = true)
    (aR : PySem.W.nsIn K mainGlobals "_law_run" = some (some (.ref fR)))
    (lR : K.lookup fR = some ⟨ocR, odR, .func (PySem.W.fnOf "_law_run" "_law_run" (defArgs sLRun) (defBody sLRun) (defScope sLRun) .none kVR dcR pmR anR cdR ctR), slR⟩)
    (cR : PySem.W.codeIn K cdR "_law_run" = true)
    (kR : PySem.W.keepIn K (.ref fR) = true)
    (aH : PySem.W.nsIn K mainGlobals "_law_holds" = some (some (.ref fH)))
    (lH : K.lookup fH = some ⟨ocH, odH, .func (PySem.W.fnOf "_law_holds" "_law_holds" (defArgs sLHolds) (defBody sLHolds) (defScope sLHolds) .none kVH dcH pmH anH cdH ctH), slH⟩)
    (cH : PySem.W.codeIn K cdH "_law_holds" = true)
    (kH : PySem.W.keepIn K (.ref fH) = true)
    (aL : PySem.W.nsIn K mainGlobals "_law_failure" = some (some (.ref fL)))
    (lL : K.lookup fL = some ⟨ocL, odL, .func (PySem.W.fnOf "_law_failure" "_law_failure" (defArgs sLFail) (defBody sLFail) (defScope sLFail) .none kVL dcL pmL anL cdL ctL), slL⟩)
    (cL : PySem.W.codeIn K cdL "_law_failure" = true)
    (kL : PySem.W.keepIn K (.ref fL) = true)
    (aO : PySem.W.nsIn K mainGlobals "_law_rows" = some (some (.ref fO)))
    (lO : K.lookup fO = some ⟨ocO, odO, .func (PySem.W.fnOf "_law_rows" "_law_rows" (defArgs sLRows) (defBody sLRows) (defScope sLRows) .none kVO dcO pmO anO cdO ctO), slO⟩)
    (cO : PySem.W.codeIn K cdO "_law_rows" = true)
    (kO : PySem.W.keepIn K (.ref fO) = true)
    (aQ : PySem.W.nsIn K mainGlobals "_law_right" = some (some (.ref fQ)))
    (lQ : K.lookup fQ = some ⟨ocQ, odQ, .func (PySem.W.fnOf "_law_right" "_law_right" (defArgs sLRight) (defBody sLRight) (defScope sLRight) .none kVQ dcQ pmQ anQ cdQ ctQ), slQ⟩)
    (cQ : PySem.W.codeIn K cdQ "_law_right" = true)
    (kQ : PySem.W.keepIn K (.ref fQ) = true)
    (aZ : PySem.W.nsIn K mainGlobals "law" = some (some (.ref fZ)))
    (lZ : K.lookup fZ = some ⟨ocZ, odZ, .func (PySem.W.fnOf "law" "law" (defArgs sLaw) (defBody sLaw) (defScope sLaw) .none kVZ dcZ pmZ anZ cdZ ctZ), slZ⟩)
    (cZ : PySem.W.codeIn K cdZ "law" = true)
    (kZ : PySem.W.keepIn K (.ref fZ) = true)
    (aI : PySem.W.findIn K (.ref C) "__init__" = some (some (.ref fI)))
    (iI : PySem.W.isFn K (.ref fI) = true)
    (lI : K.lookup fI = some ⟨ocI, odI, .func (PySem.W.fnOf "__init__" "Recurrence.__init__" (defArgs sInit) (defBody sInit) (defScope sInit) .none kVI dcI pmI anI cdI ctI), slI⟩)
    (cI : PySem.W.codeIn K cdI "Recurrence.__init__" = true)
    (kI : PySem.W.keepIn K (.ref fI) = true)
    (aJ : PySem.W.findIn K (.ref C) "holds_at" = some (some (.ref fJ)))
    (iJ : PySem.W.isFn K (.ref fJ) = true)
    (lJ : K.lookup fJ = some ⟨ocJ, odJ, .func (PySem.W.fnOf "holds_at" "Recurrence.holds_at" (defArgs sHolds) (defBody sHolds) (defScope sHolds) .none kVJ dcJ pmJ anJ cdJ ctJ), slJ⟩)
    (cJ : PySem.W.codeIn K cdJ "Recurrence.holds_at" = true)
    (kJ : PySem.W.keepIn K (.ref fJ) = true)
    (aA : PySem.W.findIn K (.ref C) "first_failure" = some (some (.ref fA)))
    (iA : PySem.W.isFn K (.ref fA) = true)
    (lA : K.lookup fA = some ⟨ocA, odA, .func (PySem.W.fnOf "first_failure" "Recurrence.first_failure" (defArgs sFail) (defBody sFail) (defScope sFail) .none kVA dcA pmA anA cdA ctA), slA⟩)
    (cA : PySem.W.codeIn K cdA "Recurrence.first_failure" = true)
    (kA : PySem.W.keepIn K (.ref fA) = true)
    (rd : PySem.W.readsIn K C (.type "type") = true)
    (ga : PySem.W.specialIn K (.ref C) "__getattribute__" = some (some (.builtin "type.__getattribute__")))
    (aS : PySem.W.findCls K (.ref C) (.type "type") "is_term" = some (.get (.builtin "staticmethod.__get__") (.ref pS) .none (.ref C)))
    (bS : PySem.W.recIn K pS "staticmethod" = some (.ref fS :: rS))
    (lS : K.lookup fS = some ⟨ocS, odS, .func (PySem.W.fnOf "is_term" "Recurrence.is_term" (defArgs sTerm) (defBody sTerm) (defScope sTerm) .none kVS dcS pmS anS cdS ctS), slS⟩)
    (cS : PySem.W.codeIn K cdS "Recurrence.is_term" = true)
    (kS : PySem.W.keepIn K (.ref fS) = true)
    (aN : PySem.W.findIn K (.ref C) "beginning" = some (some (.ref pN)))
    (gN : PySem.W.specialIn K (.ref pN) "__get__" = some (some (.builtin "property.__get__")))
    (tN : PySem.W.takesIn K (.ref pN) = some true)
    (bN : PySem.W.recIn K pN "property" = some (.ref fN :: rN))
    (lN : K.lookup fN = some ⟨ocN, odN, .func (PySem.W.fnOf "beginning" "Recurrence.beginning" (defArgs sBegn) (defBody sBegn) (defScope sBegn) .none kVN dcN pmN anN cdN ctN), slN⟩)
    (cN : PySem.W.codeIn K cdN "Recurrence.beginning" = true)
    (kN : PySem.W.keepIn K (.ref fN) = true)
    (d1 : PySem.W.nsIn K D0 "least" = some (some w1))
    (d2 : PySem.W.nsIn K D0 "most" = some (some w2))
    (e1 : PySem.W.findCls K (.ref C) (.type "type") "MAX_FIRST" = some (.val u1))
    (e2 : PySem.W.findCls K (.ref C) (.type "type") "MAX_RUN" = some (.val u2))
    (pg : PySem.W.plainGet K C Str.empty = true)
    (hd : PySem.W.hasDictIn K C = true)
    (po : PySem.W.plainOver K C = true)
    (sa : PySem.W.findIn K (.ref C) "__setattr__" = some (some (.builtin "object.__setattr__")))
    (mk : PySem.W.makesIn K C = true)
    (kc : PySem.W.keepIn K (.ref C) = true)
    (n0 : PySem.W.findIn K (.ref C) "term_row" = some none)
    (n1 : PySem.W.findIn K (.ref C) "opening" = some none)
    (n2 : PySem.W.findIn K (.ref C) "known" = some none)
    (n3 : PySem.W.findIn K (.ref C) "end" = some none)
    (z0 : PySem.W.nsIn K mainGlobals "isinstance" = some none)
    (z1 : PySem.W.nsIn K mainGlobals "int" = some none)
    (z2 : PySem.W.nsIn K mainGlobals "bool" = some none)
    (z3 : PySem.W.nsIn K mainGlobals "tuple" = some none)
    (z4 : PySem.W.nsIn K mainGlobals "len" = some none)
    (z5 : PySem.W.nsIn K mainGlobals "enumerate" = some none)
    (z6 : PySem.W.nsIn K mainGlobals "range" = some none)
    (z7 : PySem.W.nsIn K mainGlobals "all" = some none)
    (z8 : PySem.W.nsIn K mainGlobals "list" = some none)
    (z9 : PySem.W.nsIn K mainGlobals "sorted" = some none)
    (z10 : PySem.W.nsIn K mainGlobals "min" = some none)
    (z11 : PySem.W.nsIn K mainGlobals "repr" = some none)
    (y1 : RelV .non w1) (y2 : RelV .non w2) (y3 : RelV (.int 2000) u1) (y4 : RelV (.int 20000) u2) :
    ∀ base : Heap, K.In base → base.Ns mainGlobals mg → FnX l.prog w K mg base 7 fa [] (spX K aLaw) := by
  intro base _ _
  have e := hfa.symm.trans (PySem.W.mg_of X G aZ)
  cases e
  have T : Rc K mg C := ⟨⟨pg, hd, po, sa⟩, n0, n1, n2, n3, PySem.W.mg_of X G aC⟩
  have CN : Cn K C (.type "type") u1 u2 := ⟨⟨rd, ga⟩, ⟨e1, y3⟩, ⟨e2, y4⟩⟩
  have FW := fd_kw2 (st := sWhole) lW cW kW d1 d2 y1 y2
  have FP := fd_mk (st := sWrong) lP cP kP
  have FB := fd_mk (st := sLBegin) lB cB kB
  have FD := fd_mk (st := sLDraw) lD cD kD
  have FT := fd_mk (st := sLTerms) lT cT kT
  have FF := fd_mk (st := sLFirst) lF cF kF
  have FM := fd_mk (st := sLMade) lM cM kM
  have FR := fd_mk (st := sLRun) lR cR kR
  have FH := fd_mk (st := sLHolds) lH cH kH
  have FL := fd_mk (st := sLFail) lL cL kL
  have FO := fd_mk (st := sLRows) lO cO kO
  have FQ := fd_mk (st := sLRight) lQ cQ kQ
  have FZ := fd_mk (st := sLaw) lZ cZ kZ
  have FI := fd_mk (st := sInit) lI cI kI
  have FJ := fd_mk (st := sHolds) lJ cJ kJ
  have FA := fd_mk (st := sFail) lA cA kA
  have FS := fd_mk (st := sTerm) lS cS kS
  have FN := fd_mk (st := sBegn) lN cN kN
  have bw : BodyOk l.prog w K mg base 0 fW ["value", "least", "most"] "is_whole" (defScope sWhole) (defBody sWhole) aWhole := b_whole (PySem.W.mg_none_of X G z0) (PySem.W.mg_none_of X G z1) (PySem.W.mg_none_of X G z2)
  have W1 : FnX l.prog w K mg base 1 fW [] (spX K aW1) := by
    obtain ⟨mv, kb⟩ := FunD.kbinds0 (ps := ["value", "least", "most"]) FW 1 [] [("least", .non), ("most", .non)] (fun us mv _ => us ++ mv) (by simp) (fun _ h => h) (fun r1 r2 _ => r1.append r2)
      (fun D doc pm an cdv ct us mv ws h1 h2 h3 => match us, mv, ws, h1, h2, h3 with | [_], [_, _], [], _, _, _ => ⟨_, _, _, _, _, _, rfl, rfl, _, _, _, _, _, _, rfl, rfl, rfl⟩)
    exact fnx_kbn (fun ds _ => ds ++ [.non, .non]) FW scWhole kb (fun H ds vs es zs r1 _ _ _ => r1.append (.cons .non (.cons .non .nil))) (fun ds M R ⟨n, lo, hi, e, _⟩ => by rw [e]; rfl) bw
  have W2 : FnX l.prog w K mg base 1 fW ["least", "most"] (spX K aW2) := by
    obtain ⟨mv, kb⟩ := FunD.kbinds0 (ps := ["value", "least", "most"]) FW 1 ["least", "most"] [] (fun us _ ws => us ++ ws) (by simp) (fun _ h => nomatch h) (fun r1 _ r2 => r1.append r2)
      (fun D doc pm an cdv ct us mv ws h1 h2 h3 => match us, mv, ws, h1, h2, h3 with | [_], [], [_, _], _, _, _ => rfl)
    exact fnx_kbn (fun ds es => ds ++ es) FW scWhole kb (fun H ds vs es zs r1 r2 _ _ => r1.append r2) (fun ds M R ⟨n, lo, hi, e, _⟩ => by rw [e]; rfl) bw
  have W : Wh l.prog w K mg base fW := ⟨W1, W2, (PySem.W.mg_of X G aW), kW⟩
  have XP : FX l.prog w K mg base 1 fP fun ds _ => aWrong ds := fnx_pos' FP scWrong (fun _ _ _ _ _ _ us hl => match us, hl with | [_, _, _], _ => rfl) (fun ds M R h => by obtain ⟨n, i, o, rfl, _⟩ := h; rfl) (b_wrong)
  have XJ : FX l.prog w K mg base 2 fJ fun ds _ => aHolds C ds := fnx_pos' FJ scHolds (fun _ _ _ _ _ _ us hl => match us, hl with | [_, _, _], _ => rfl) (fun ds M R h => by obtain ⟨ts, first, g, n, rfl, _⟩ := h; rfl) (b_holds T XP (PySem.W.mg_of X G aP) kP)
  have XA : FX l.prog w K mg base 3 fA fun ds _ => aFail C ds := fnx_pos' FA scFail (fun _ _ _ _ _ _ us hl => match us, hl with | [_, _], _ => rfl) (fun ds M R h => by obtain ⟨ts, first, g, rfl, _⟩ := h; rfl) (b_fail T CN W XJ ⟨aJ, iJ, kJ⟩ (PySem.W.mg_none_of X G z0) (PySem.W.mg_none_of X G z3) (PySem.W.mg_none_of X G z4) (PySem.W.mg_none_of X G z5) (PySem.W.mg_none_of X G z6))
  have XA2 : FnX l.prog w K mg base 3 fA ["numbers"] (spX K fun ds es M R => ds.length = 1 ∧ aFail C (ds ++ es) M R) := fnx_kw FA scFail (fun _ _ _ _ _ _ us ws h1 h2 => match us, ws, h1, h2 with | [_], [_], _, _ => rfl) (fun ds M R h => by obtain ⟨ts, first, g, rfl, _⟩ := h; rfl) (b_fail T CN W XJ ⟨aJ, iJ, kJ⟩ (PySem.W.mg_none_of X G z0) (PySem.W.mg_none_of X G z3) (PySem.W.mg_none_of X G z4) (PySem.W.mg_none_of X G z5) (PySem.W.mg_none_of X G z6))
  have XS : FX l.prog w K mg base 2 fS fun ds _ => aTerm ds := fnx_pos' FS scTerm (fun _ _ _ _ _ _ us hl => match us, hl with | [_], _ => rfl) (fun ds M R h => by obtain ⟨t, rfl, _⟩ := h; rfl) (b_term W (PySem.W.mg_none_of X G z0) (PySem.W.mg_none_of X G z3) (PySem.W.mg_none_of X G z4))
  have XI : FnX l.prog w K mg base 3 fI ["beginning"] (spX K (aMk C)) := fnx_star (pa := "self") (pv := "terms") (pk := "beginning") FI scInit (fun kV doc pm an cdv ct u w us => by cases us <;> rfl) (b_init T CN W XS ⟨aS, ⟨_, bS⟩, kS⟩ (PySem.W.mg_none_of X G z0) (PySem.W.mg_none_of X G z3) (PySem.W.mg_none_of X G z4) (PySem.W.mg_none_of X G z7) (PySem.W.mg_none_of X G z8))
  have MK : Mkr l.prog w K mg base C fI := ⟨⟨mk, aI, iI, kc⟩, XI⟩
  have XD : FX l.prog w K mg base 1 fD fun ds _ => aDraw ds := fnx_pos' FD scLDraw (fun _ _ _ _ _ _ us hl => match us, hl with | [_, _], _ => rfl) (fun ds M R h => by obtain ⟨a, i, n, rfl, _⟩ := h; rfl) (b_draw)
  have DR : Dr l.prog w K mg base fD := ⟨XD, (PySem.W.mg_of X G aD), kD⟩
  have XB : FX l.prog w K mg base 1 fB fun ds _ => aBegin ds := fnx_pos' FB scLBegin (fun _ _ _ _ _ _ us hl => match us, hl with | [_, _], _ => rfl) (fun ds M R h => by obtain ⟨a, i, rfl, _⟩ := h; rfl) (b_begin (PySem.W.mg_none_of X G z4))
  have XT : FX l.prog w K mg base 2 fT fun ds _ => aTerms ds := fnx_pos' FT scLTerms (fun _ _ _ _ _ _ us hl => match us, hl with | [_], _ => rfl) (fun ds M R h => by obtain ⟨a, i, rfl, _⟩ := h; rfl) (b_terms DR (PySem.W.mg_none_of X G z6))
  have XF : FX l.prog w K mg base 2 fF fun ds _ => aFirst ds := fnx_pos' FF scLFirst (fun _ _ _ _ _ _ us hl => match us, hl with | [_], _ => rfl) (fun ds M R h => by obtain ⟨a, i, rfl, _⟩ := h; rfl) (b_first DR (PySem.W.mg_none_of X G z6) (PySem.W.mg_none_of X G z3) (PySem.W.mg_none_of X G z4) (PySem.W.mg_none_of X G z9))
  have XM : FX l.prog w K mg base 5 fM fun ds _ => aMade C ds := fnx_pos' FM scLMade (fun _ _ _ _ _ _ us hl => match us, hl with | [_, _], _ => rfl) (fun ds M R h => by obtain ⟨a, i, rfl, _⟩ := h; rfl) (b_made T MK (PySem.W.mg_none_of X G z4))
  have XR : FX l.prog w K mg base 1 fR fun ds _ => aRun ds := fnx_pos' FR scLRun (fun _ _ _ _ _ _ us hl => match us, hl with | [_, _, _], _ => rfl) (fun ds M R h => by obtain ⟨a, i, n, rfl, _⟩ := h; rfl) (b_run (PySem.W.mg_none_of X G z8) (PySem.W.mg_none_of X G z5) (PySem.W.mg_none_of X G z4))
  have XH : FX l.prog w K mg base 1 fH fun ds _ => aLHolds ds := fnx_pos' FH scLHolds (fun _ _ _ _ _ _ us hl => match us, hl with | [_, _, _], _ => rfl) (fun ds M R h => by obtain ⟨a, i, n, rfl, _⟩ := h; rfl) (b_lholds)
  have XL : FX l.prog w K mg base 2 fL fun ds _ => aLFail ds := fnx_pos' FL scLFail (fun _ _ _ _ _ _ us hl => match us, hl with | [_, _, _], _ => rfl) (fun ds M R h => by obtain ⟨a, i, n, rfl, _⟩ := h; rfl) (b_lfail XH (PySem.W.mg_of X G aH) kH (PySem.W.mg_none_of X G z4) (PySem.W.mg_none_of X G z6))
  have XO : FX l.prog w K mg base 2 fO fun ds _ => aRows ds := fnx_pos' FO scLRows (fun _ _ _ _ _ _ us hl => match us, hl with | [_, _, _], _ => rfl) (fun ds M R h => by obtain ⟨a, i, n, g, B, rfl, _⟩ := h; rfl) (b_rows DR (PySem.W.mg_none_of X G z6) (PySem.W.mg_none_of X G z3) (PySem.W.mg_none_of X G z4))
  have XN : FX l.prog w K mg base 1 fN fun ds _ => aBegn C ds := fnx_pos' FN scBegn (fun _ _ _ _ _ _ us hl => match us, hl with | [_], _ => rfl) (fun ds M R h => by obtain ⟨a, i, rfl, _⟩ := h; rfl) (b_begn T)
  have RG : Rg l.prog w K mg base C fT fF fM fR fL fO fA pN fN := ⟨XT, (PySem.W.mg_of X G aT), kT, XF, (PySem.W.mg_of X G aF), kF, XM, (PySem.W.mg_of X G aM), kM, XR, (PySem.W.mg_of X G aR), kR, XL, (PySem.W.mg_of X G aL), kL, XO, (PySem.W.mg_of X G aO), kO, XA, XA2, ⟨aA, iA, kA⟩, XN, ⟨aN, gN, tN, _, bN⟩⟩
  have XQ : FX l.prog w K mg base 6 fQ fun ds _ => aRight ds := fnx_pos' FQ scLRight (fun _ _ _ _ _ _ us hl => match us, hl with | [_], _ => rfl) (fun ds M R h => by obtain ⟨a, i, rfl, _⟩ := h; rfl) (b_right T RG (PySem.W.mg_none_of X G z4) (PySem.W.mg_none_of X G z11))
  exact fnx_pos' (s0 := aLaw0) FZ scLaw (fun _ _ _ _ _ _ us hl => match us, hl with | [_], _ => rfl) (fun ds M R h => by obtain ⟨a, rfl, _⟩ := h; rfl) (b_law T XB (PySem.W.mg_of X G aB) kB XQ (PySem.W.mg_of X G aQ) kQ XA ⟨aA, iA, kA⟩ MK (PySem.W.mg_none_of X G z6) (PySem.W.mg_none_of X G z10) (PySem.W.mg_none_of X G z4))
end K36

open PySem PySem.W PyProof.Rows in
set_option maxHeartbeats 0 in
theorem PySem.Challenge.cw_nestcount_k36_equations_checked_holds : PySem.Challenge.rw_nestcount_k36_equations_checked.Holds := by
  w_on; o_law; k_head; (case hw => w_witness2)
  k_fill
  refine Ab.walk_x (l := PySem.Challenge.rw_nestcount_k36_equations_checked) (k := 7) rfl rfl ⟨rfl, by decide, by decide⟩ (fun w h Y => PySem.W.kIn_of Y) ?F
  case F =>
    intro w mg fa h KX G hmg
    refine' K36.all36 KX G hmg ?aC ?aW ?lW ?cW ?kW ?aP ?lP ?cP ?kP ?aB ?lB ?cB ?kB ?aD ?lD ?cD ?kD ?aT ?lT ?cT ?kT ?aF ?lF ?cF ?kF ?aM ?lM ?cM ?kM ?aR ?lR ?cR ?kR ?aH ?lH ?cH ?kH ?aL ?lL ?cL ?kL ?aO ?lO ?cO ?kO ?aQ ?lQ ?cQ ?kQ ?aZ ?lZ ?cZ ?kZ ?aI ?iI ?lI ?cI ?kI ?aJ ?iJ ?lJ ?cJ ?kJ ?aA ?iA ?lA ?cA ?kA ?rd ?ga ?aS ?bS ?lS ?cS ?kS ?aN ?gN ?tN ?bN ?lN ?cN ?kN ?d1 ?d2 ?e1 ?e2 ?pg ?hd ?po ?sa ?mk ?kc ?n0 ?n1 ?n2 ?n3 ?z0 ?z1 ?z2 ?z3 ?z4 ?z5 ?z6 ?z7 ?z8 ?z9 ?z10 ?z11 ?y1 ?y2 ?y3 ?y4
    (case aC => k_is)
    (case aW => k_is)
    (case lW => k_is)
    (case cW => k_is)
    (case kW => k_is)
    (case aP => k_is)
    (case lP => k_is)
    (case cP => k_is)
    (case kP => k_is)
    (case aB => k_is)
    (case lB => k_is)
    (case cB => k_is)
    (case kB => k_is)
    (case aD => k_is)
    (case lD => k_is)
    (case cD => k_is)
    (case kD => k_is)
    (case aT => k_is)
    (case lT => k_is)
    (case cT => k_is)
    (case kT => k_is)
    (case aF => k_is)
    (case lF => k_is)
    (case cF => k_is)
    (case kF => k_is)
    (case aM => k_is)
    (case lM => k_is)
    (case cM => k_is)
    (case kM => k_is)
    (case aR => k_is)
    (case lR => k_is)
    (case cR => k_is)
    (case kR => k_is)
    (case aH => k_is)
    (case lH => k_is)
    (case cH => k_is)
    (case kH => k_is)
    (case aL => k_is)
    (case lL => k_is)
    (case cL => k_is)
    (case kL => k_is)
    (case aO => k_is)
    (case lO => k_is)
    (case cO => k_is)
    (case kO => k_is)
    (case aQ => k_is)
    (case lQ => k_is)
    (case cQ => k_is)
    (case kQ => k_is)
    (case aZ => k_is)
    (case lZ => k_is)
    (case cZ => k_is)
    (case kZ => k_is)
    (case aI => k_is)
    (case iI => k_is)
    (case lI => k_is)
    (case cI => k_is)
    (case kI => k_is)
    (case aJ => k_is)
    (case iJ => k_is)
    (case lJ => k_is)
    (case cJ => k_is)
    (case kJ => k_is)
    (case aA => k_is)
    (case iA => k_is)
    (case lA => k_is)
    (case cA => k_is)
    (case kA => k_is)
    (case rd => k_is)
    (case ga => k_is)
    (case aS => k_is)
    (case bS => k_is)
    (case lS => k_is)
    (case cS => k_is)
    (case kS => k_is)
    (case aN => k_is)
    (case gN => k_is)
    (case tN => k_is)
    (case bN => k_is)
    (case lN => k_is)
    (case cN => k_is)
    (case kN => k_is)
    (case d1 => k_is)
    (case d2 => k_is)
    (case e1 => k_is)
    (case e2 => k_is)
    (case pg => k_is)
    (case hd => k_is)
    (case po => k_is)
    (case sa => k_is)
    (case mk => k_is)
    (case kc => k_is)
    (case n0 => k_is)
    (case n1 => k_is)
    (case n2 => k_is)
    (case n3 => k_is)
    (case z0 => k_is)
    (case z1 => k_is)
    (case z2 => k_is)
    (case z3 => k_is)
    (case z4 => k_is)
    (case z5 => k_is)
    (case z6 => k_is)
    (case z7 => k_is)
    (case z8 => k_is)
    (case z9 => k_is)
    (case z10 => k_is)
    (case z11 => k_is)
    (case y1 => exact rfl)
    (case y2 => exact rfl)
    (case y3 => exact ⟨_, rfl⟩)
    (case y4 => exact ⟨_, rfl⟩)

