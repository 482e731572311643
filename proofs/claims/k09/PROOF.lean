import PyProof.Rows.All
import Wide.All
import OpenK.AllK
import Wide.FinOn
import HandS.ForMost
import HandS.Walk
import HandS.Flow
import HandS.Defaults
import HandS.Star
import HandS.MakeKwOnly
import HandS.Property
import HandS.ClsMeth
import HandS.IsInst
import HandS.TupAny
import HandS.SortInts
import HandS.Conv
import HandS.Exc
import KE.GoesEnum
import HandS.OwnEq
import PyProof.InstNe
import HandS.NoneIn
import HandS.TupMul
import HandS.Flt
import KE.DatumOrd
import HandS.NestedK
import PySem.Challenge.RW_nestcount_k09_whole_sizes_and_stages
import HandS.Wide
import HandS.WideBits
import HandS.Style
import KE.KSuper
import HandS.ExcInit
import HandS.ExcField
import HandS.ExcOwn
import HandS.ExcValue
import KE.KExcInit
import KE.KTryMore
import HandS.TryMany
import KE.KExcIs
import HandS.ExcIs
import HandS.Zip
set_option Elab.async false
set_option linter.all false
set_option maxRecDepth 100000
set_option maxHeartbeats 2000000
/-! Ab: an abstract state over HandS: values without addresses, a list of cells that may change; no heap is seen by a def's proof. -/
namespace Ab
open PySem PySem.Spec PyProof.Rows L2

inductive Val where
  | non | bl (b : Bool) | int (i : Int) | str (x : Str) | ty (n : String) | ptr (a : Addr)
  | lst (xs : List Val) | tup (xs : List Val)
  | obj (C : Addr) (fs : List (Str × Val))
  | exc (C : Addr) (fs : List (Str × Val))
/-- a caught exception of the class at C, its dict -/
def exH (a C : Addr) (d : Option Addr) : HO := .ext fun h => ∃ (oe : Obj) (vs : Array Value), h.get? a = some oe ∧ Zc (.ref C) d oe ∧ oe.data = .fields vs

mutual
inductive Rep (K : PySem.W.Frag) (H : Hp) : Val → V → Prop
  | non : Rep K H .non .non
  | bl (b : Bool) : Rep K H (.bl b) (.bl b)
  | int (i : Int) : Rep K H (.int i) (.int i)
  | str (x : Str) : Rep K H (.str x) (.str x)
  | ty (n : String) : Rep K H (.ty n) (.ty n)
  | ptr (a : Addr) : Rep K H (.ptr a) (.ref a)
  | lst {a : Addr} {xs : List V} {ds : List Val} : SqL K H a xs → RepA K H ds xs → Rep K H (.lst ds) (.ref a)
  | tup {a : Addr} {xs : List V} {ds : List Val} : SqT K H a xs → RepA K H ds xs → Rep K H (.tup ds) (.ref a)
  | obj {a C dx : Addr} {gs : List (Str × V)} {fs : List (Str × Val)} : H a = some (.ins C dx gs) → RepF K H fs gs → Rep K H (.obj C fs) (.ref a)
  | exc {a C dd : Addr} {gs : List (Str × V)} {fs : List (Str × Val)} : H a = some (exH a C (some dd)) → H dd = some (.xd gs) → RepF K H fs gs → Rep K H (.exc C fs) (.ref a)
  | exc0 {a C : Addr} : H a = some (exH a C none) → Rep K H (.exc C []) (.ref a)
inductive RepA (K : PySem.W.Frag) (H : Hp) : List Val → List V → Prop
  | nil : RepA K H [] []
  | cons {d : Val} {v : V} {ds : List Val} {vs : List V} : Rep K H d v → RepA K H ds vs → RepA K H (d :: ds) (v :: vs)
inductive RepF (K : PySem.W.Frag) (H : Hp) : List (Str × Val) → List (Str × V) → Prop
  | nil : RepF K H [] []
  | cons {f : Str} {d : Val} {v : V} {fs : List (Str × Val)} {gs : List (Str × V)} : Rep K H d v → RepF K H fs gs → RepF K H ((f, d) :: fs) ((f, v) :: gs)
end

theorem sameT {K : PySem.W.Frag} {H H' : Hp} {a : Addr} {xs : List V} (e : Same H H') (h : SqT K H a xs) : SqT K H' a xs := by
  rcases h with (h | ⟨o, h⟩) | h
  · exact .inl (.inl (e _ _ h))
  · exact .inl (.inr ⟨o, e _ _ h⟩)
  · exact .inr h
mutual
theorem Rep.mono {K : PySem.W.Frag} {H H' : Hp} (e : Same H H') : ∀ {d : Val} {v : V}, Rep K H d v → Rep K H' d v
  | _, _, .non => .non
  | _, _, .bl b => .bl b
  | _, _, .int i => .int i
  | _, _, .str x => .str x
  | _, _, .ty n => .ty n
  | _, _, .ptr a => .ptr a
  | _, _, .lst h r => .lst (e.seq h) (RepA.mono e r)
  | _, _, .tup h r => .tup (sameT e h) (RepA.mono e r)
  | _, _, .obj h r => .obj (e _ _ h) (RepF.mono e r)
  | _, _, .exc h d r => .exc (e _ _ h) (e _ _ d) (RepF.mono e r)
  | _, _, .exc0 h => .exc0 (e _ _ h)
theorem RepA.mono {K : PySem.W.Frag} {H H' : Hp} (e : Same H H') : ∀ {ds : List Val} {vs : List V}, RepA K H ds vs → RepA K H' ds vs
  | _, _, .nil => .nil
  | _, _, .cons a r => .cons (Rep.mono e a) (RepA.mono e r)
theorem RepF.mono {K : PySem.W.Frag} {H H' : Hp} (e : Same H H') : ∀ {ds : List (Str × Val)} {vs : List (Str × V)}, RepF K H ds vs → RepF K H' ds vs
  | _, _, .nil => .nil
  | _, _, .cons a r => .cons (Rep.mono e a) (RepF.mono e r)
end
/-- fields, stored -/
def putV (f : Str) (v : Val) : List (Str × Val) → List (Str × Val)
  | [] => [(f, v)]
  | (g, x) :: r => if g = f then (g, v) :: r else (g, x) :: putV f v r
theorem RepF.lookup {K : PySem.W.Frag} {H : Hp} {f : Str} {d : Val} : ∀ {fs : List (Str × Val)} {gs : List (Str × V)}, RepF K H fs gs → fs.lookup f = some d → ∃ v, gs.lookup f = some v ∧ Rep K H d v
  | _, _, .nil, e => by cases e
  | (g, x) :: fs, _, .cons (v := v) (gs := gs) a r, e => by
    rw [List.lookup_cons] at e ⊢
    cases q : f == g with
    | true =>
      rw [q] at e
      cases e
      exact ⟨v, rfl, a⟩
    | false =>
      rw [q] at e
      exact RepF.lookup r e
theorem RepF.none {K : PySem.W.Frag} {H : Hp} {f : Str} : ∀ {fs : List (Str × Val)} {gs : List (Str × V)}, RepF K H fs gs → fs.lookup f = none → gs.lookup f = none
  | _, _, .nil, _ => rfl
  | (g, x) :: fs, _, .cons (v := v) (gs := gs) a r, e => by
    rw [List.lookup_cons] at e ⊢
    cases q : f == g with
    | true =>
      rw [q] at e
      cases e
    | false =>
      rw [q] at e
      exact RepF.none r e
theorem RepF.put {K : PySem.W.Frag} {H : Hp} {f : Str} {d : Val} {v : V} (hd : Rep K H d v) : ∀ {fs : List (Str × Val)} {gs : List (Str × V)}, RepF K H fs gs → RepF K H (putV f d fs) (putF f v gs)
  | _, _, .nil => .cons hd .nil
  | (g, x) :: fs, _, .cons (v := w) (gs := gs) a r => by
    unfold putV putF
    by_cases q : g = f
    · rw [if_pos q, if_pos q]
      exact .cons hd r
    · rw [if_neg q, if_neg q]
      exact .cons a (RepF.put hd r)
theorem RepF.length {K : PySem.W.Frag} {H : Hp} : ∀ {fs : List (Str × Val)} {gs : List (Str × V)}, RepF K H fs gs → fs.length = gs.length
  | _, _, .nil => rfl
  | _, _, .cons _ r => congrArg Nat.succ (RepF.length r)
/-- a dict's pairs -/
inductive RepK (K : PySem.W.Frag) (H : Hp) : List (Key × Val) → List (Key × V) → Prop
  | nil : RepK K H [] []
  | cons {f : Key} {d : Val} {v : V} {fs : List (Key × Val)} {gs : List (Key × V)} : Rep K H d v → RepK K H fs gs → RepK K H ((f, d) :: fs) ((f, v) :: gs)
theorem RepK.mono {K : PySem.W.Frag} {H H' : Hp} (e : Same H H') : ∀ {ds : List (Key × Val)} {vs : List (Key × V)}, RepK K H ds vs → RepK K H' ds vs
  | _, _, .nil => .nil
  | _, _, .cons a r => .cons (Rep.mono e a) (RepK.mono e r)
theorem RepK.length {K : PySem.W.Frag} {H : Hp} : ∀ {fs : List (Key × Val)} {gs : List (Key × V)}, RepK K H fs gs → fs.length = gs.length
  | _, _, .nil => rfl
  | _, _, .cons _ r => congrArg Nat.succ (RepK.length r)
def dGet : List (Key × Val) → Key → Option Val
  | [], _ => none
  | (g, x) :: r, k => if g = k then some x else dGet r k
def dPut (kvs : List (Key × Val)) (k : Key) (v : Val) : List (Key × Val) :=
  if (kvs.any fun kv => decide (kv.1 = k)) = true then kvs.map (fun kv => if kv.1 = k then (kv.1, v) else kv) else kvs ++ [(k, v)]
theorem RepK.any {K : PySem.W.Frag} {H : Hp} {k : Key} : ∀ {fs : List (Key × Val)} {gs : List (Key × V)}, RepK K H fs gs → (fs.any fun kv => decide (kv.1 = k)) = (gs.any fun kv => decide (kv.1 = k))
  | _, _, .nil => rfl
  | _, _, .cons a r => by
    rw [List.any_cons, List.any_cons, RepK.any r]
theorem RepK.maps {K : PySem.W.Frag} {H : Hp} {k : Key} {d : Val} {v : V} (hd : Rep K H d v) : ∀ {fs : List (Key × Val)} {gs : List (Key × V)}, RepK K H fs gs → RepK K H (fs.map (fun kv => if kv.1 = k then (kv.1, d) else kv)) (gs.map (fun kv => if kv.1 = k then (kv.1, v) else kv))
  | _, _, .nil => .nil
  | (g, x) :: _, _, .cons (v := w) a r => by
    rw [List.map_cons, List.map_cons]
    by_cases q : g = k
    · rw [if_pos q, if_pos q]
      exact .cons hd (RepK.maps hd r)
    · rw [if_neg q, if_neg q]
      exact .cons a (RepK.maps hd r)
theorem RepK.append {K : PySem.W.Frag} {H : Hp} : ∀ {fs fs' : List (Key × Val)} {gs gs' : List (Key × V)}, RepK K H fs gs → RepK K H fs' gs' → RepK K H (fs ++ fs') (gs ++ gs')
  | _, _, _, _, .nil, r => r
  | _, _, _, _, .cons a r, q => .cons a (RepK.append r q)
theorem RepK.put {K : PySem.W.Frag} {H : Hp} {k : Key} {d : Val} {v : V} (hd : Rep K H d v) {fs : List (Key × Val)} {gs : List (Key × V)} (r : RepK K H fs gs) : RepK K H (dPut fs k d) (putK gs k v) := by
  unfold dPut putK
  rw [r.any]
  by_cases q : (gs.any fun kv => decide (kv.1 = k)) = true
  · rw [if_pos q, if_pos q]
    exact r.maps hd
  · rw [if_neg q, if_neg q]
    exact r.append (.cons hd .nil)
theorem RepK.get {K : PySem.W.Frag} {H : Hp} {k : Key} {d : Val} : ∀ {fs : List (Key × Val)} {gs : List (Key × V)}, RepK K H fs gs → dGet fs k = some d → ∃ v, valV gs k = some v ∧ Rep K H d v
  | _, _, .nil, e => by cases e
  | (g, x) :: fs, _, .cons (v := v) (gs := gs) a r, e => by
    unfold dGet at e
    by_cases q : g = k
    · rw [if_pos q] at e
      cases e
      exact ⟨v, valV_pos q, a⟩
    · rw [if_neg q] at e
      rw [valV_neg (p := (g, v)) q]
      exact RepK.get r e
theorem RepK.noKey {K : PySem.W.Frag} {H : Hp} {k : Key} : ∀ {fs : List (Key × Val)} {gs : List (Key × V)}, RepK K H fs gs → dGet fs k = none → valV gs k = none
  | _, _, .nil, _ => rfl
  | (g, x) :: fs, _, .cons (v := v) (gs := gs) a r, e => by
    unfold dGet at e
    by_cases q : g = k
    · rw [if_pos q] at e
      cases e
    · rw [if_neg q] at e
      rw [valV_neg (p := (g, v)) q]
      exact RepK.noKey r e
section
variable {K : PySem.W.Frag} {H H' : Hp}
theorem RepA.length : ∀ {ds : List Val} {vs : List V}, RepA K H ds vs → ds.length = vs.length
  | _, _, .nil => rfl
  | _, _, .cons _ r => congrArg Nat.succ (RepA.length r)
theorem RepA.get : ∀ {ds : List Val} {vs : List V} {i : Nat} {d : Val}, RepA K H ds vs → ds[i]? = some d → ∃ v, vs[i]? = some v ∧ Rep K H d v
  | _, _, _, _, .nil, e => by simp at e
  | _, _, 0, _, .cons r _, e => by simp at e; subst e; exact ⟨_, rfl, r⟩
  | _, _, i + 1, d, .cons _ t, e => by
    obtain ⟨u, h1, h2⟩ := RepA.get (i := i) (d := d) t (by simpa using e)
    exact ⟨u, by simpa using h1, h2⟩
theorem RepA.getV : ∀ {ds : List Val} {vs : List V} {i : Nat} {v : V}, RepA K H ds vs → vs[i]? = some v → ∃ d, ds[i]? = some d ∧ Rep K H d v
  | _, _, _, _, .nil, e => by simp at e
  | _, _, 0, _, .cons r _, e => by simp at e; subst e; exact ⟨_, rfl, r⟩
  | _, _, i + 1, d, .cons _ t, e => by
    obtain ⟨u, h1, h2⟩ := RepA.getV (i := i) (v := d) t (by simpa using e)
    exact ⟨u, by simpa using h1, h2⟩
theorem RepA.append : ∀ {ds es : List Val} {vs ws : List V}, RepA K H ds vs → RepA K H es ws → RepA K H (ds ++ es) (vs ++ ws)
  | _, _, _, _, .nil, s => s
  | _, _, _, _, .cons r t, s => .cons r (RepA.append t s)
theorem RepA.set {d : Val} {v : V} (r : Rep K H d v) : ∀ {ds : List Val} {vs : List V} (i : Nat), RepA K H ds vs → RepA K H (ds.set i d) (vs.set i v)
  | _, _, _, .nil => .nil
  | _, _, 0, .cons _ t => .cons r t
  | _, _, i + 1, .cons q t => .cons q (RepA.set r i t)
theorem RepA.take : ∀ {ds : List Val} {vs : List V} (n : Nat), RepA K H ds vs → RepA K H (ds.take n) (vs.take n)
  | _, _, 0, _ => .nil
  | _, _, _ + 1, .nil => .nil
  | _, _, n + 1, .cons r t => .cons r (RepA.take n t)
theorem RepA.drop : ∀ {ds : List Val} {vs : List V} (n : Nat), RepA K H ds vs → RepA K H (ds.drop n) (vs.drop n)
  | _, _, 0, r => r
  | _, _, _ + 1, .nil => .nil
  | _, _, n + 1, .cons _ t => RepA.drop n t
theorem RepA.ints : ∀ {ns : List Int} {vs : List V}, RepA K H (ns.map Val.int) vs → vs = ns.map V.int
  | [], _, .nil => rfl
  | _ :: ns, _, .cons (.int _) t => by rw [RepA.ints (ns := ns) t, List.map_cons]
theorem RepA.ofInts : ∀ (ns : List Int), RepA K H (ns.map Val.int) (ns.map V.int)
  | [] => .nil
  | n :: ns => .cons (.int n) (RepA.ofInts ns)
theorem RepA.bls : ∀ {ns : List Bool} {vs : List V}, RepA K H (ns.map Val.bl) vs → vs = ns.map V.bl
  | [], _, .nil => rfl
  | _ :: ns, _, .cons (.bl _) t => by rw [RepA.bls (ns := ns) t, List.map_cons]
theorem RepA.strs : ∀ {ns : List Str} {vs : List V}, RepA K H (ns.map Val.str) vs → vs = ns.map V.str
  | [], _, .nil => rfl
  | _ :: ns, _, .cons (.str _) t => by rw [RepA.strs (ns := ns) t, List.map_cons]
theorem RepA.ofStrs : ∀ (ns : List Str), RepA K H (ns.map Val.str) (ns.map V.str)
  | [] => .nil
  | n :: ns => .cons (.str n) (RepA.ofStrs ns)
end

/-! ### what may change -/
inductive Cell0 where
  | lst (xs : List Val)
  | dk (kvs : List (Key × Val))
  | ins (C : Addr) (fs : List (Str × Val))
abbrev Mem0 := List (Addr × Cell0)
/-- a cell, or a box: some cells of which only phi is told -/
inductive Cell where
  | b (c : Cell0)
  | box (φ : Mem0 → Prop)
abbrev Cell.lst (xs : List Val) : Cell := .b (.lst xs)
abbrev Cell.dk (kvs : List (Key × Val)) : Cell := .b (.dk kvs)
abbrev Cell.ins (C : Addr) (fs : List (Str × Val)) : Cell := .b (.ins C fs)
def RepC (K : PySem.W.Frag) (H : Hp) : Cell0 → HO → Prop
  | .lst ds, o => ∃ xs, o = .lst xs ∧ RepA K H ds xs
  | .dk ds, o => ∃ kvs : List (Key × V), o = .dK kvs ∧ RepK K H ds kvs
  | .ins C ds, o => ∃ dx fs, o = .ins C dx fs ∧ RepF K H ds fs
theorem RepC.mono {K : PySem.W.Frag} {H H' : Hp} (e : Same H H') : ∀ {c : Cell0} {o : HO}, RepC K H c o → RepC K H' c o
  | .lst _, _, ⟨xs, h, r⟩ => ⟨xs, h, r.mono e⟩
  | .dk _, _, ⟨kvs, h, r⟩ => ⟨kvs, h, r.mono e⟩
  | .ins _ _, _, ⟨dx, fs, h, r⟩ => ⟨dx, fs, h, r.mono e⟩
abbrev Mem := List (Addr × Cell)
/-- Hi: what never changes; F: the cells -/
structure Ok0 (K : PySem.W.Frag) (Hi : Hp) (F : Mem0) (H : Hp) : Prop where
  im : Same Hi H
  ce : ∀ a c, (a, c) ∈ F → Hi a = none ∧ ∃ o, H a = some o ∧ RepC K Hi c o
  nd : (F.map (·.1)).Nodup
/-- the cells of an entry -/
def Opn (p : Addr) : Cell → Mem0 → Prop
  | .b c, B => B = [(p, c)]
  | .box φ, B => φ B ∧ p ∈ B.map (·.1)
inductive Flat : Mem → Mem0 → Prop
  | nil : Flat [] []
  | cons {p : Addr} {c : Cell} {M : Mem} {B F : Mem0} : Opn p c B → Flat M F → Flat ((p, c) :: M) (B ++ F)
def Ok (K : PySem.W.Frag) (Hi : Hp) (M : Mem) (H : Hp) : Prop := ∃ F, Flat M F ∧ Ok0 K Hi F H
theorem same_upd {H : Hp} {p : Addr} {o : HO} (h : H p = none) : Same H (upd H p o) := fun b x e => by
  rw [upd_ne (ne_of_none e h)]
  exact e
section
variable {K : PySem.W.Frag} {Hi Hi' H H' : Hp} {F F' : Mem0} {a p : Addr} {c c' : Cell0} {o : HO}
theorem Ok0.none (k : Ok0 K Hi F H) (h : H p = Option.none) : Hi p = Option.none := k.im.free h
theorem Ok0.notin (k : Ok0 K Hi F H) (h : H p = Option.none) : ∀ c, (p, c) ∉ F := fun c hm => by
  obtain ⟨_, o, e, _⟩ := k.ce p c hm
  rw [h] at e
  cases e
theorem Ok0.fresh (k : Ok0 K Hi F H) (h : H p = Option.none) : p ∉ F.map (·.1) := fun hm => by
  obtain ⟨⟨q, c⟩, h1, h2⟩ := List.mem_map.mp hm
  have e : q = p := h2
  subst e
  exact k.notin h c h1
theorem Ok0.imm (k : Ok0 K Hi F H) (h : H p = Option.none) : Ok0 K (upd Hi p o) F (upd H p o) where
  im := fun b x e => by
    by_cases hb : b = p
    · subst hb
      rw [upd_same] at e ⊢
      exact e
    · rw [upd_ne hb] at e ⊢
      exact k.im b x e
  ce := fun a c hm => by
    obtain ⟨e0, o', e, r⟩ := k.ce a c hm
    have hb : a ≠ p := fun z => k.notin h c (z ▸ hm)
    refine ⟨by rw [upd_ne hb]; exact e0, o', by rw [upd_ne hb]; exact e, r.mono (same_upd (k.none h))⟩
  nd := k.nd
theorem Ok0.new (k : Ok0 K Hi F H) (h : H p = Option.none) (r : RepC K Hi c o) : Ok0 K Hi ((p, c) :: F) (upd H p o) where
  im := fun b x e => by
    have hb : b ≠ p := fun z => by
      subst z
      rw [k.none h] at e
      cases e
    rw [upd_ne hb]
    exact k.im b x e
  ce := fun a c' hm => by
    rcases List.mem_cons.mp hm with e | hm
    · cases e
      exact ⟨k.none h, o, upd_same, r⟩
    · obtain ⟨e0, o', e, r'⟩ := k.ce a c' hm
      have hb : a ≠ p := fun z => k.notin h c' (z ▸ hm)
      exact ⟨e0, o', by rw [upd_ne hb]; exact e, r'⟩
  nd := by
    rw [List.map_cons]
    exact List.nodup_cons.mpr ⟨k.fresh h, k.nd⟩
theorem Ok0.perm (k : Ok0 K Hi F H) (s : F'.Perm F) : Ok0 K Hi F' H := ⟨k.im, fun a c h => k.ce a c (s.subset h), (s.map _).nodup_iff.mpr k.nd⟩
theorem Ok0.sub (k : Ok0 K Hi F H) (s : F'.Sublist F) : Ok0 K Hi F' H := ⟨k.im, fun a c h => k.ce a c (s.subset h), k.nd.sublist (s.map _)⟩
/-- the first cell is written -/
theorem Ok0.set (k : Ok0 K Hi ((a, c) :: F) H) (r : RepC K Hi c' o) : Ok0 K Hi ((a, c') :: F) (upd H a o) where
  im := fun b x e => by
    have hb : b ≠ a := fun z => by
      subst z
      rw [(k.ce b c List.mem_cons_self).1] at e
      cases e
    rw [upd_ne hb]
    exact k.im b x e
  ce := fun b d hm => by
    have nd := k.nd
    rw [List.map_cons] at nd
    rcases List.mem_cons.mp hm with e | hm2
    · cases e
      exact ⟨(k.ce a c List.mem_cons_self).1, o, upd_same, r⟩
    · have hb : b ≠ a := fun z => by
        subst z
        exact (List.nodup_cons.mp nd).1 (List.mem_map.mpr ⟨(b, d), hm2, rfl⟩)
      obtain ⟨e0, o', e, r'⟩ := k.ce b d (List.mem_cons_of_mem _ hm2)
      exact ⟨e0, o', by rw [upd_ne hb]; exact e, r'⟩
  nd := k.nd
/-- the first cell will change no more -/
theorem Ok0.freeze (k : Ok0 K Hi ((p, c) :: F) H) (h : H p = some o) : Ok0 K (upd Hi p o) F H where
  im := fun b x e => by
    by_cases hb : b = p
    · subst hb
      rw [upd_same] at e
      rw [h]
      exact e
    · rw [upd_ne hb] at e
      exact k.im b x e
  ce := fun a d hm => by
    obtain ⟨e0, o', e, r⟩ := k.ce a d (List.mem_cons_of_mem _ hm)
    have nd := k.nd
    rw [List.map_cons] at nd
    have hb : a ≠ p := fun z => by
      subst z
      exact (List.nodup_cons.mp nd).1 (List.mem_map.mpr ⟨(a, d), hm, rfl⟩)
    exact ⟨by rw [upd_ne hb]; exact e0, o', e, r.mono (same_upd (k.ce p c List.mem_cons_self).1)⟩
  nd := by
    have nd := k.nd
    rw [List.map_cons] at nd
    exact (List.nodup_cons.mp nd).2
end
theorem Flat.append : ∀ {M M' : Mem} {F F' : Mem0}, Flat M F → Flat M' F' → Flat (M ++ M') (F ++ F')
  | _, _, _, _, .nil, q => q
  | _, _, _, _, .cons (B := B) (F := F) o r, q => by
    rw [List.append_assoc]
    exact .cons o (r.append q)
theorem Flat.split : ∀ {M M' : Mem} {F : Mem0}, Flat (M ++ M') F → ∃ F1 F2, F = F1 ++ F2 ∧ Flat M F1 ∧ Flat M' F2
  | [], _, F, h => ⟨[], F, rfl, .nil, h⟩
  | (p, c) :: M, M', _, .cons (B := B) (F := F) o r => by
    obtain ⟨F1, F2, rfl, h1, h2⟩ := Flat.split r
    exact ⟨B ++ F1, F2, by rw [List.append_assoc], .cons o h1, h2⟩
theorem Flat.one {p : Addr} {c : Cell0} {M : Mem} {F : Mem0} (h : Flat M F) : Flat ((p, .b c) :: M) ((p, c) :: F) := .cons (B := [(p, c)]) rfl h
theorem Flat.mem {p : Addr} {c : Cell} : ∀ {M : Mem} {F : Mem0}, Flat M F → (p, c) ∈ M → ∃ B, Opn p c B ∧ B.Sublist F
  | _, _, .nil, h => nomatch h
  | _, _, .cons (B := B) (F := F) o r, h => by
    rcases List.mem_cons.mp h with e | h
    · cases e
      exact ⟨B, o, List.sublist_append_left _ _⟩
    · obtain ⟨B', h1, h2⟩ := r.mem h
      exact ⟨B', h1, h2.trans (List.sublist_append_right _ _)⟩
theorem Flat.perm {M M' : Mem} (s : M.Perm M') : ∀ {F : Mem0}, Flat M F → ∃ F', Flat M' F' ∧ F'.Perm F := by
  induction s with
  | nil => exact fun h => ⟨_, h, .refl _⟩
  | cons x _ ih =>
    intro F h
    cases h with
    | cons o r =>
      obtain ⟨F', h1, h2⟩ := ih r
      exact ⟨_, .cons o h1, h2.append_left _⟩
  | swap x y l =>
    intro F h
    cases h with
    | cons o r =>
      cases r with
      | cons o2 r2 =>
        refine ⟨_, .cons o2 (.cons o r2), ?_⟩
        rw [← List.append_assoc, ← List.append_assoc]
        exact List.perm_append_comm.append_right _
  | trans _ _ ih1 ih2 =>
    intro F h
    obtain ⟨F', h1, h2⟩ := ih1 h
    obtain ⟨F'', h3, h4⟩ := ih2 h1
    exact ⟨F'', h3, h4.trans h2⟩
theorem Flat.sub {M M' : Mem} (s : M'.Sublist M) : ∀ {F : Mem0}, Flat M F → ∃ F', Flat M' F' ∧ F'.Sublist F := by
  induction s with
  | slnil => exact fun h => ⟨_, h, .refl _⟩
  | cons x _ ih =>
    intro F h
    cases h with
    | cons o r =>
      obtain ⟨F', h1, h2⟩ := ih r
      exact ⟨F', h1, h2.trans (List.sublist_append_right _ _)⟩
  | cons_cons x _ ih =>
    intro F h
    cases h with
    | cons o r =>
      obtain ⟨F', h1, h2⟩ := ih r
      exact ⟨_, .cons o h1, (List.append_sublist_append_left _).mpr h2⟩
section
variable {K : PySem.W.Frag} {Hi Hi' H H' : Hp} {M M' : Mem} {a p : Addr} {c c' : Cell0} {x : Cell} {o : HO} {B : Mem0} {φ : Mem0 → Prop}
theorem Ok.im (k : Ok K Hi M H) : Same Hi H := by
  obtain ⟨F, _, k⟩ := k
  exact k.im
theorem Ok.ce (k : Ok K Hi M H) : ∀ a c, (a, Cell.b c) ∈ M → Hi a = none ∧ ∃ o, H a = some o ∧ RepC K Hi c o := fun a c h => by
  obtain ⟨F, f, k⟩ := k
  obtain ⟨B, h1, h2⟩ := f.mem h
  have h1 : B = [(a, c)] := h1
  subst h1
  exact k.ce a c (h2.subset List.mem_cons_self)
theorem Ok.none (k : Ok K Hi M H) (h : H p = Option.none) : Hi p = Option.none := k.im.free h
theorem Ok.notin (k : Ok K Hi M H) (h : H p = Option.none) : ∀ c, (p, c) ∉ M := fun c hm => by
  obtain ⟨F, f, k⟩ := k
  obtain ⟨B, h1, h2⟩ := f.mem hm
  have hp : p ∈ B.map (·.1) := by
    cases c with
    | b c =>
      have h1 : B = [(p, c)] := h1
      subst h1
      exact List.mem_cons_self
    | box φ => exact h1.2
  exact k.fresh h ((h2.map _).subset hp)
theorem Ok.fresh (k : Ok K Hi M H) (h : H p = Option.none) : p ∉ M.map (·.1) := fun hm => by
  obtain ⟨⟨q, c⟩, h1, h2⟩ := List.mem_map.mp hm
  have e : q = p := h2
  subst e
  exact k.notin h c h1
/-- a new object that never changes -/
theorem Ok.imm (k : Ok K Hi M H) (h : H p = Option.none) : Ok K (upd Hi p o) M (upd H p o) := by
  obtain ⟨F, f, k⟩ := k
  exact ⟨F, f, k.imm h⟩
/-- a new cell -/
theorem Ok.new (k : Ok K Hi M H) (h : H p = Option.none) (r : RepC K Hi c o) : Ok K Hi ((p, .b c) :: M) (upd H p o) := by
  obtain ⟨F, f, k⟩ := k
  exact ⟨_, f.one, k.new h r⟩
theorem Ok.get {i : Nat} (k : Ok K Hi M H) (h : M[i]? = some (a, .b c)) : Hi a = Option.none ∧ ∃ o, H a = some o ∧ RepC K Hi c o := k.ce a c (List.mem_of_getElem? h)
theorem Ok.perm (k : Ok K Hi M H) (s : M'.Perm M) : Ok K Hi M' H := by
  obtain ⟨F, f, k⟩ := k
  obtain ⟨F', f', q⟩ := f.perm s.symm
  exact ⟨F', f', k.perm q⟩
theorem Ok.sub (k : Ok K Hi M H) (s : M'.Sublist M) : Ok K Hi M' H := by
  obtain ⟨F, f, k⟩ := k
  obtain ⟨F', f', q⟩ := f.sub s
  exact ⟨F', f', k.sub q⟩
theorem perm_at {α : Type} {M : List α} {i : Nat} {x : α} (h : M[i]? = some x) : M.Perm (x :: M.eraseIdx i) := by
  induction M generalizing i with
  | nil => cases h
  | cons y M ih =>
    cases i with
    | zero =>
      cases h
      exact .refl _
    | succ i =>
      rw [List.eraseIdx_cons_succ]
      exact ((ih h).cons y).trans (.swap x y _)
theorem perm_set {α : Type} {M : List α} {i : Nat} {x y : α} (h : M[i]? = some x) : (M.set i y).Perm (y :: M.eraseIdx i) := by
  induction M generalizing i with
  | nil => cases h
  | cons z M ih =>
    cases i with
    | zero => exact .refl _
    | succ i =>
      rw [List.eraseIdx_cons_succ, List.set_cons_succ]
      exact ((ih h).cons z).trans (.swap y z _)
/-- a cell is written -/
theorem Ok.set {i : Nat} (k : Ok K Hi M H) (h : M[i]? = some (a, .b c)) (r : RepC K Hi c' o) : Ok K Hi (M.set i (a, .b c')) (upd H a o) := by
  obtain ⟨F, f, k⟩ := k.perm (perm_at h).symm
  refine Ok.perm ?_ (perm_set (y := (a, Cell.b c')) h)
  cases f with
  | cons o f =>
    have o : _ = [(a, c)] := o
    subst o
    exact ⟨_, f.one, Ok0.set k r⟩
/-- the first cell will change no more -/
theorem Ok.freeze (k : Ok K Hi ((p, .b c) :: M) H) (h : H p = some o) : Ok K (upd Hi p o) M H := by
  obtain ⟨F, f, k⟩ := k
  cases f with
  | cons q f =>
    have q : _ = [(p, c)] := q
    subst q
    exact ⟨_, f, Ok0.freeze k h⟩
theorem Ok.tail {c : Cell} (k : Ok K Hi ((p, c) :: M) H) : Ok K Hi M H := k.sub (List.sublist_cons_self _ _)
theorem Ok.all (H : Hp) : Ok K H [] H := ⟨[], .nil, Same.refl H, (fun _ _ h => nomatch h), List.nodup_nil⟩
/-- the cells of a list of cells -/
abbrev bs (B : Mem0) : Mem := B.map fun x => (x.1, Cell.b x.2)
theorem Flat.bs : ∀ B : Mem0, Flat (bs B) B
  | [] => .nil
  | (_, _) :: B => (Flat.bs B).one
theorem Flat.ofBs : ∀ {B F : Mem0}, Flat (Ab.bs B) F → F = B
  | [], _, .nil => rfl
  | (p, c) :: B, _, .cons o r => by
    have o : _ = [(p, c)] := o
    subst o
    rw [Flat.ofBs r]
    rfl
/-- a box is opened, closed -/
theorem Ok.opn {i : Nat} (k : Ok K Hi M H) (h : M[i]? = some (p, .box φ)) : ∃ B, φ B ∧ p ∈ B.map (·.1) ∧ Ok K Hi (bs B ++ M.eraseIdx i) H := by
  obtain ⟨F, f, k⟩ := k.perm (perm_at h).symm
  cases f with
  | cons o f => exact ⟨_, o.1, o.2, _, (Flat.bs _).append f, k⟩
theorem Ok.cls (k : Ok K Hi (bs B ++ M) H) (h : φ B) (hp : p ∈ B.map (·.1)) : Ok K Hi ((p, .box φ) :: M) H := by
  obtain ⟨F, f, k⟩ := k
  obtain ⟨F1, F2, rfl, h1, h2⟩ := f.split
  rw [Flat.ofBs h1] at k
  exact ⟨_, .cons (show Opn p (.box φ) B from ⟨h, hp⟩) h2, k⟩
theorem Ok.clsAt {i : Nat} (k : Ok K Hi (bs B ++ M.eraseIdx i) H) (hi : M[i]? = some (p, x)) (h : φ B) (hp : p ∈ B.map (·.1)) : Ok K Hi (M.set i (p, .box φ)) H :=
  (k.cls h hp).perm (perm_set hi)
end

/-! ### slots -/
abbrev Gam := List (Option Val)
def EnvR (K : PySem.W.Frag) (H : Hp) (Γ : Gam) (σ : L2.St) : Prop := Γ.length = σ.length ∧ ∀ (i : Nat) (d : Val), Γ[i]? = some (some d) → ∃ v, σ[i]? = some (some v) ∧ Rep K H d v
theorem EnvR.mono {K : PySem.W.Frag} {H H' : Hp} {Γ : Gam} {σ : L2.St} (h : EnvR K H Γ σ) (e : Same H H') : EnvR K H' Γ σ := ⟨h.1, fun i d q => by
  obtain ⟨v, h1, h2⟩ := h.2 i d q
  exact ⟨v, h1, h2.mono e⟩⟩
theorem EnvR.set {K : PySem.W.Frag} {H : Hp} {Γ : Gam} {σ : L2.St} {i : Nat} {d : Val} {v : V} (h : EnvR K H Γ σ) (r : Rep K H d v) : EnvR K H (Γ.set i (some d)) (σ.set i (some v)) := by
  refine ⟨by rw [List.length_set, List.length_set]; exact h.1, fun j e q => ?_⟩
  by_cases hij : i = j
  · subst hij
    by_cases hl : i < Γ.length
    · rw [List.getElem?_set_self hl] at q
      cases q
      exact ⟨v, List.getElem?_set_self (h.1 ▸ hl), r⟩
    · rw [List.getElem?_eq_none_iff.mpr (by rw [List.length_set]; omega)] at q
      cases q
  · rw [List.getElem?_set_ne hij] at q
    obtain ⟨w, h1, h2⟩ := h.2 j e q
    exact ⟨w, by rw [List.getElem?_set_ne hij]; exact h1, h2⟩
theorem EnvR.drop {K : PySem.W.Frag} {H : Hp} {Γ Γ' : Gam} {σ : L2.St} (h : EnvR K H Γ σ) (hl : Γ'.length = Γ.length) (w : ∀ (i : Nat) (d : Val), Γ'[i]? = some (some d) → Γ[i]? = some (some d)) : EnvR K H Γ' σ := ⟨hl.trans h.1, fun i d q => h.2 i d (w i d q)⟩

/-! ### the readings that always fit -/
def WE (X : Cx) (e : Expr) : TE := fun σ H Q => ∃ t, PE X e t ∧ t σ H Q
def WT (X : Cx) (e : Expr) : TT := fun σ H Q => ∃ t, PT X e t ∧ t σ H Q
def WA (X : Cx) (es : List Expr) : TA := fun σ H Q => ∃ t, PA X es t ∧ t σ H Q
def WS (X : Cx) (s : Stmt) : TS := fun D σ H => ∃ t, PS X s t ∧ t D σ H
def WB (X : Cx) (s : List Stmt) : TS := fun D σ H => ∃ t, PSs X s t ∧ t D σ H
section
variable {X : Cx}
theorem pe_we {e : Expr} : PE X e (WE X e) := ⟨fun pins s σ H Q I ⟨t, p, h⟩ => p.run pins s σ H Q I h⟩
theorem pt_wt {e : Expr} : PT X e (WT X e) := ⟨fun pins s σ H Q I ⟨t, p, h⟩ => p.run pins s σ H Q I h⟩
theorem pa_wa {es : List Expr} : PA X es (WA X es) := ⟨fun pos pins s σ H Q I ⟨t, p, h⟩ => p.run pos pins s σ H Q I h⟩
theorem ps_ws {s : Stmt} : PS X s (WS X s) := ⟨fun pins s σ H D I ⟨t, p, h⟩ => p.run pins s σ H D I h⟩
theorem pss_wb {s : List Stmt} : PSs X s (WB X s) := ⟨fun pins s σ H D I ⟨t, p, h⟩ => p.run pins s σ H D I h⟩
end

/-! ### the judgements: what a piece does to values and cells -/
def Post (K : PySem.W.Frag) (Hi : Hp) (P : Val → Mem → Prop) (Q : VK) : Prop := ∀ d M' v Hi' H', P d M' → Same Hi Hi' → Ok K Hi' M' H' → Rep K Hi' d v → Q v H'
def PostA (K : PySem.W.Frag) (Hi : Hp) (P : List Val → Mem → Prop) (Q : List V → Hp → Prop) : Prop := ∀ d M' v Hi' H', P d M' → Same Hi Hi' → Ok K Hi' M' H' → RepA K Hi' d v → Q v H'
def PostT (K : PySem.W.Frag) (Hi : Hp) (P : Bool → Mem → Prop) (Q : Bool → Hp → Prop) : Prop := ∀ b M' Hi' H', P b M' → Same Hi Hi' → Ok K Hi' M' H' → Q b H'
theorem Post.up {K : PySem.W.Frag} {Hi Hi1 : Hp} {P : Val → Mem → Prop} {Q : VK} (h : Post K Hi P Q) (e : Same Hi Hi1) : Post K Hi1 P Q := fun d M' v Hi' H' p s => h d M' v Hi' H' p (e.trans s)
theorem PostT.up {K : PySem.W.Frag} {Hi Hi1 : Hp} {P : Bool → Mem → Prop} {Q : Bool → Hp → Prop} (h : PostT K Hi P Q) (e : Same Hi Hi1) : PostT K Hi1 P Q := fun b M' Hi' H' p s => h b M' Hi' H' p (e.trans s)
theorem PostA.up {K : PySem.W.Frag} {Hi Hi1 : Hp} {P : List Val → Mem → Prop} {Q : List V → Hp → Prop} (h : PostA K Hi P Q) (e : Same Hi Hi1) : PostA K Hi1 P Q := fun d M' v Hi' H' p s => h d M' v Hi' H' p (e.trans s)

def aE (X : Cx) (e : Expr) (Γ : Gam) (M : Mem) (P : Val → Mem → Prop) : Prop := ∀ Hi H σ, Ok X.K Hi M H → EnvR X.K Hi Γ σ → ∀ Q : VK, Post X.K Hi P Q → WE X e σ H Q
def aT (X : Cx) (e : Expr) (Γ : Gam) (M : Mem) (P : Bool → Mem → Prop) : Prop := ∀ Hi H σ, Ok X.K Hi M H → EnvR X.K Hi Γ σ → ∀ Q, PostT X.K Hi P Q → WT X e σ H Q
def aA (X : Cx) (es : List Expr) (Γ : Gam) (M : Mem) (P : List Val → Mem → Prop) : Prop := ∀ Hi H σ, Ok X.K Hi M H → EnvR X.K Hi Γ σ → ∀ Q, PostA X.K Hi P Q → WA X es σ H Q
abbrev aV (X : Cx) (e : Expr) (Γ : Gam) (M : Mem) (d : Val) : Prop := aE X e Γ M fun x M' => x = d ∧ M' = M
abbrev aB (X : Cx) (e : Expr) (Γ : Gam) (M : Mem) (b : Bool) : Prop := aT X e Γ M fun x M' => x = b ∧ M' = M
abbrev aVs (X : Cx) (es : List Expr) (Γ : Gam) (M : Mem) (ds : List Val) : Prop := aA X es Γ M fun x M' => x = ds ∧ M' = M

/-- what is wanted behind a statement -/
structure AK where
  nx : Gam → Mem → Prop
  rt : Val → Mem → Prop
  bk : Gam → Mem → Prop := fun _ _ => False
  ct : Gam → Mem → Prop := fun _ _ => False
structure Real (K : PySem.W.Frag) (Hi : Hp) (k : AK) (D : Ends) : Prop where
  nx : ∀ Γ M σ Hi' H', k.nx Γ M → Same Hi Hi' → Ok K Hi' M H' → EnvR K Hi' Γ σ → D.nx σ H'
  rt : ∀ d M v Hi' H', k.rt d M → Same Hi Hi' → Ok K Hi' M H' → Rep K Hi' d v → D.rt v H'
  bk : ∀ Γ M σ Hi' H', k.bk Γ M → Same Hi Hi' → Ok K Hi' M H' → EnvR K Hi' Γ σ → D.bk σ H'
  ct : ∀ Γ M σ Hi' H', k.ct Γ M → Same Hi Hi' → Ok K Hi' M H' → EnvR K Hi' Γ σ → D.ct σ H'
theorem Real.up {K : PySem.W.Frag} {Hi Hi1 : Hp} {k : AK} {D : Ends} (h : Real K Hi k D) (e : Same Hi Hi1) : Real K Hi1 k D :=
  ⟨fun Γ M σ Hi' H' p s => h.nx Γ M σ Hi' H' p (e.trans s), fun d M v Hi' H' p s => h.rt d M v Hi' H' p (e.trans s), fun Γ M σ Hi' H' p s => h.bk Γ M σ Hi' H' p (e.trans s), fun Γ M σ Hi' H' p s => h.ct Γ M σ Hi' H' p (e.trans s)⟩
def aS (X : Cx) (s : Stmt) (Γ : Gam) (M : Mem) (k : AK) : Prop := ∀ Hi H σ, Ok X.K Hi M H → EnvR X.K Hi Γ σ → ∀ D, Real X.K Hi k D → WS X s D σ H
def aSs (X : Cx) (s : List Stmt) (Γ : Gam) (M : Mem) (k : AK) : Prop := ∀ Hi H σ, Ok X.K Hi M H → EnvR X.K Hi Γ σ → ∀ D, Real X.K Hi k D → WB X s D σ H

section
variable {X : Cx} {Γ : Gam} {M : Mem} {P : Val → Mem → Prop} {e a b c : Expr} {es : List Expr} {pos : Pos} {k : AK} {d d1 d2 : Val}
theorem aE.mono {P' : Val → Mem → Prop} (h : aE X e Γ M P) (f : ∀ d M', P d M' → P' d M') : aE X e Γ M P' := fun Hi H σ ok en Q q => h Hi H σ ok en Q fun d M' v Hi' H' p => q d M' v Hi' H' (f d M' p)
theorem aT.mono {P P' : Bool → Mem → Prop} (h : aT X e Γ M P) (f : ∀ d M', P d M' → P' d M') : aT X e Γ M P' := fun Hi H σ ok en Q q => h Hi H σ ok en Q fun d M' Hi' H' p => q d M' Hi' H' (f d M' p)
theorem aE.val (h : aV X e Γ M d) (p : P d M) : aE X e Γ M P := h.mono fun x M' q => by
  obtain ⟨h1, h2⟩ := q
  subst h1 h2
  exact p
theorem aT.val {P : Bool → Mem → Prop} {b : Bool} (h : aB X e Γ M b) (p : P b M) : aT X e Γ M P := h.mono fun x M' q => by
  obtain ⟨h1, h2⟩ := q
  subst h1 h2
  exact p
theorem aA.val {P : List Val → Mem → Prop} {ds : List Val} (h : aVs X es Γ M ds) (p : P ds M) : aA X es Γ M P := fun Hi H σ ok en Q q => h Hi H σ ok en Q fun d M' v Hi' H' r => by
  obtain ⟨h1, h2⟩ := r
  subst h1 h2
  exact q _ _ v Hi' H' p
/-- a constant -/
theorem ae_c {v : V} {d : Val} (hp : PE X e (tC v)) (r : ∀ K H, Rep K H d v) (h : P d M) : aE X e Γ M P := fun Hi H σ ok _ Q q => ⟨_, hp, q d M v Hi H h (Same.refl _) ok (r _ _)⟩
theorem ae_int {i : Int} {j} (h : P (.int i) M) : aE X (.Constant (.int i) j pos) Γ M P := ae_c pe_int (fun _ _ => .int i) h
theorem ae_bl {i : Bool} {j} (h : P (.bl i) M) : aE X (.Constant (.bool i) j pos) Γ M P := ae_c pe_bl (fun _ _ => .bl i) h
theorem ae_str {i : Str} {j} (h : P (.str i) M) : aE X (.Constant (.str i) j pos) Γ M P := ae_c pe_str (fun _ _ => .str i) h
theorem ae_non {j} (h : P .non M) : aE X (.Constant .none j pos) Γ M P := ae_c pe_non (fun _ _ => .non) h
/-- a name of the def -/
theorem ae_var {x : Str} (i : Nat) {d : Val} (hd : Γ[i]? = some (some d)) (h : P d M) (hN : X.N[i]? = some x := by rfl) (hv : Vis X.env.scope x := by first | exact Or.inl rfl | exact Or.inr (Or.inl rfl) | exact Or.inr (Or.inr rfl))
    (hdb : (x == ("__debug__" : Str)) = false := by decide) (hcd : (x == ("__classdict__" : Str)) = false := by decide) : aE X (.Name x pos) Γ M P := fun Hi H σ ok en Q q => by
  obtain ⟨v, h1, r⟩ := en.2 i d hd
  exact ⟨_, pe_var hN hv hdb hcd, v, h1, q d M v Hi H h (Same.refl _) ok r⟩
/-- a global of the module that is an address -/
theorem ae_glob {x : Str} {f : Addr} (hm : X.mg x = some (.ref f)) (h : P (.ptr f) M) (hg : Gl X x := by rfl) (hd : (x == ("__debug__" : Str)) = false := by decide) : aE X (.Name x pos) Γ M P :=
  ae_c (pe_glob (v := .ref f) hg hm rfl hd) (fun _ _ => .ptr f) h

/-- what an operation on values asks -/
def RV (X : Cx) (r : R2) (x y : Val) (M : Mem) (P : Val → Mem → Prop) : Prop := ∀ Hi H v w, Ok X.K Hi M H → Rep X.K Hi x v → Rep X.K Hi y w → ∀ Q, Post X.K Hi P Q → r v w H Q
theorem ae_op {op : Operator} {r : R2} (ho : OpR X (binaryOp op) r) (h : aE X a Γ M fun x M1 => aE X b Γ M1 fun y M2 => RV X r x y M2 P) : aE X (.BinOp a op b pos) Γ M P := fun Hi H σ ok en Q q => by
  refine ⟨_, pe_op ho pe_we pe_we, ?_⟩
  refine h Hi H σ ok en _ fun x M1 v Hi1 H1 h1 s1 ok1 r1 => ?_
  refine h1 Hi1 H1 σ ok1 (en.mono s1) _ fun y M2 w Hi2 H2 h2 s2 ok2 r2 => ?_
  exact h2 Hi2 H2 v w ok2 (r1.mono s2) r2 Q (q.up (s1.trans s2))
theorem rv_I0 {g : Int → Int → V} {f : Int → Int → Val} {i j : Int} (hr : ∀ K H, Rep K H (f i j) (g i j)) (h : P (f i j) M) : RV X (rI0 g) (.int i) (.int j) M P := fun Hi H v w ok rv rw_ Q q => by
  cases rv
  cases rw_
  exact ⟨i, j, rfl, rfl, q _ _ _ Hi H h (Same.refl _) ok (hr _ _)⟩
theorem rv_I {C : Int → Int → Prop} {g : Int → Int → V} {f : Int → Int → Val} {i j : Int} (hc : C i j) (hr : ∀ K H, Rep K H (f i j) (g i j)) (h : P (f i j) M) : RV X (rI C g) (.int i) (.int j) M P := fun Hi H v w ok rv rw_ Q q => by
  cases rv
  cases rw_
  exact ⟨i, j, rfl, rfl, hc, q _ _ _ Hi H h (Same.refl _) ok (hr _ _)⟩
theorem av_op {op : Operator} {r : R2} (ho : OpR X (binaryOp op) r) (ha : aV X a Γ M d1) (hb : aV X b Γ M d2) (hr : RV X r d1 d2 M P) : aE X (.BinOp a op b pos) Γ M P := ae_op ho (ha.val (hb.val hr))
variable {i j : Int}
theorem av_add (ha : aV X a Γ M (.int i)) (hb : aV X b Γ M (.int j)) : aV X (.BinOp a .Add b pos) Γ M (.int (i + j)) := av_op op_add ha hb (rv_I0 (f := fun i j => .int (i + j)) (fun _ _ => .int _) ⟨rfl, rfl⟩)
theorem av_sub (ha : aV X a Γ M (.int i)) (hb : aV X b Γ M (.int j)) : aV X (.BinOp a .Sub b pos) Γ M (.int (i - j)) := av_op op_sub ha hb (rv_I0 (f := fun i j => .int (i - j)) (fun _ _ => .int _) ⟨rfl, rfl⟩)
theorem av_mul (ha : aV X a Γ M (.int i)) (hb : aV X b Γ M (.int j)) (hc : CMul i j) : aV X (.BinOp a .Mult b pos) Γ M (.int (i * j)) := av_op op_mul ha hb (rv_I (f := fun i j => .int (i * j)) hc (fun _ _ => .int _) ⟨rfl, rfl⟩)
theorem av_mod (ha : aV X a Γ M (.int i)) (hb : aV X b Γ M (.int j)) (hc : 0 < j) : aV X (.BinOp a .Mod b pos) Γ M (.int (i % j)) := av_op op_mod ha hb (rv_I (f := fun i j => .int (i % j)) hc (fun _ _ => .int _) ⟨rfl, rfl⟩)
theorem av_fdiv (ha : aV X a Γ M (.int i)) (hb : aV X b Γ M (.int j)) (hc : CDiv i j) : aV X (.BinOp a .FloorDiv b pos) Γ M (.int (i / j)) := av_op op_fdiv ha hb (rv_I (f := fun i j => .int (i / j)) hc (fun _ _ => .int _) ⟨rfl, rfl⟩)
theorem av_pow (ha : aV X a Γ M (.int i)) (hb : aV X b Γ M (.int j)) (hc : CPow i j) : aV X (.BinOp a .Pow b pos) Γ M (.int (i ^ j.toNat)) := av_op op_pow ha hb (rv_I (f := fun i j => .int (i ^ j.toNat)) hc (fun _ _ => .int _) ⟨rfl, rfl⟩)
end
end Ab

namespace Ab
open PySem PySem.Spec PyProof.Rows L2

/-- a value as it may be read: itself, or the list that stands in its cell -/
inductive Vw (M : Mem) : Val → Val → Prop
  | self (d : Val) : Vw M d d
  | lst (i : Nat) {p : Addr} {xs : List Val} : M[i]? = some (p, .lst xs) → Vw M (.ptr p) (.lst xs)
theorem Vw.rep {K : PySem.W.Frag} {Hi H : Hp} {M : Mem} {d e : Val} {v : V} (h : Vw M d e) (ok : Ok K Hi M H) (r : Rep K Hi d v) : Rep K H e v := by
  cases h with
  | self => exact r.mono ok.im
  | lst i hm =>
    obtain ⟨_, o, ho, xs', rfl, ra⟩ := ok.get hm
    cases r
    exact .lst (SqL.of ho) (ra.mono ok.im)

mutual
def toD : Val → Option PyData
  | .non => some .none
  | .bl b => some (.bool b)
  | .int i => some (.int i)
  | .str x => some (.str x)
  | .lst xs => (toDs xs).map PyData.list
  | .tup xs => (toDs xs).map PyData.tuple
  | .ty _ => none
  | .ptr _ => none
  | .obj _ _ => none
  | .exc _ _ => none
def toDs : List Val → Option (List PyData)
  | [] => some []
  | x :: xs => (toD x).bind fun d => (toDs xs).map fun ds => d :: ds
end
mutual
theorem rep_dp {K : PySem.W.Frag} {H : Hp} : ∀ (x : Val) {v : V} {d : PyData}, Rep K H x v → toD x = some d → Dp K H v d
  | .non, _, _, .non, e => by cases e; exact .non
  | .bl b, _, _, .bl _, e => by cases e; exact .bl b
  | .int i, _, _, .int _, e => by cases e; exact .int i
  | .str x, _, _, .str _, e => by cases e; exact .str x
  | .lst xs, _, _, .lst h r, e => by
    unfold toD at e
    obtain ⟨ds, h1, rfl⟩ := Option.map_eq_some_iff.mp e
    exact .lst h (rep_dps xs r h1)
  | .tup xs, _, _, .tup h r, e => by
    unfold toD at e
    obtain ⟨ds, h1, rfl⟩ := Option.map_eq_some_iff.mp e
    exact .tup h (rep_dps xs r h1)
  | .ty _, _, _, _, e => by cases e
  | .ptr _, _, _, _, e => by cases e
  | .obj _ _, _, _, _, e => by cases e
  | .exc _ _, _, _, _, e => by cases e
theorem rep_dps {K : PySem.W.Frag} {H : Hp} : ∀ (xs : List Val) {vs : List V} {ds : List PyData}, RepA K H xs vs → toDs xs = some ds → DpAll K H vs ds
  | [], _, _, .nil, e => by cases e; exact .nil
  | x :: xs, _, _, .cons a r, e => by
    unfold toDs at e
    obtain ⟨d, h1, h2⟩ := Option.bind_eq_some_iff.mp e
    obtain ⟨ds, h3, rfl⟩ := Option.map_eq_some_iff.mp h2
    exact .cons (rep_dp x a h1) (rep_dps xs r h3)
end

section
variable {X : Cx} {Γ : Gam} {M : Mem} {P : Val → Mem → Prop} {e a b c : Expr} {es : List Expr} {pos : Pos} {k : AK} {d d1 d2 d3 : Val} {i j : Int}

/-! ### comparisons -/
def Cmp (X : Cx) (op : CmpOp) (M : Mem) (x y : Val) (b : Bool) : Prop := ∃ r, OpR X (compareOp op) r ∧ RV X r x y M fun z M' => z = .bl b ∧ M' = M
theorem cmp_lt : Cmp X .Lt M (.int i) (.int j) (decide (i < j)) := ⟨_, op_lt, rv_I0 (f := fun i j => .bl (decide (i < j))) (fun _ _ => .bl _) ⟨rfl, rfl⟩⟩
theorem cmp_le : Cmp X .LtE M (.int i) (.int j) (decide (i ≤ j)) := ⟨_, op_le, rv_I0 (f := fun i j => .bl (decide (i ≤ j))) (fun _ _ => .bl _) ⟨rfl, rfl⟩⟩
theorem cmp_gt : Cmp X .Gt M (.int i) (.int j) (decide (j < i)) := ⟨_, op_gt, rv_I0 (f := fun i j => .bl (decide (j < i))) (fun _ _ => .bl _) ⟨rfl, rfl⟩⟩
theorem cmp_ge : Cmp X .GtE M (.int i) (.int j) (decide (j ≤ i)) := ⟨_, op_ge, rv_I0 (f := fun i j => .bl (decide (j ≤ i))) (fun _ _ => .bl _) ⟨rfl, rfl⟩⟩
theorem cmp_eqI : Cmp X .Eq M (.int i) (.int j) (decide (i = j)) := ⟨_, op_eq, fun Hi H v w ok rv rw_ Q q => by
  cases rv
  cases rw_
  refine ⟨rfl, ?_⟩
  have e : decide (V.int i = V.int j) = decide (i = j) := by simp
  rw [e]
  exact q _ M _ Hi H ⟨rfl, rfl⟩ (Same.refl _) ok (.bl _)⟩
theorem cmp_neI : Cmp X .NotEq M (.int i) (.int j) (!decide (i = j)) := ⟨_, op_ne, fun Hi H v w ok rv rw_ Q q => by
  cases rv
  cases rw_
  refine ⟨rfl, ?_⟩
  have e : decide (V.int i = V.int j) = decide (i = j) := by simp
  rw [e]
  exact q _ M _ Hi H ⟨rfl, rfl⟩ (Same.refl _) ok (.bl _)⟩
theorem cmp_eqS {x y : Str} : Cmp X .Eq M (.str x) (.str y) (decide (x = y)) := ⟨_, op_eq, fun Hi H v w ok rv rw_ Q q => by
  cases rv
  cases rw_
  refine ⟨rfl, ?_⟩
  have e : decide (V.str x = V.str y) = decide (x = y) := by simp
  rw [e]
  exact q _ M _ Hi H ⟨rfl, rfl⟩ (Same.refl _) ok (.bl _)⟩
theorem cmp_neS {x y : Str} : Cmp X .NotEq M (.str x) (.str y) (!decide (x = y)) := ⟨_, op_ne, fun Hi H v w ok rv rw_ Q q => by
  cases rv
  cases rw_
  refine ⟨rfl, ?_⟩
  have e : decide (V.str x = V.str y) = decide (x = y) := by simp
  rw [e]
  exact q _ M _ Hi H ⟨rfl, rfl⟩ (Same.refl _) ok (.bl _)⟩
/-- data of any depth -/
theorem cmp_eqD {d1' d2' : Val} {p q : PyData} (v1 : Vw M d1 d1') (v2 : Vw M d2 d2') (h1 : toD d1' = some p) (h2 : toD d2' = some q) (s1 : SeqAt.shaped p = true) (s2 : SeqAt.shaped q = true) (hu : X.A.units + 64 < cLine) : Cmp X .Eq M d1 d2 (PyData.eqv p q) :=
  ⟨_, op_eqD hu, fun Hi H v w ok rv rw_ Q post => ⟨p, q, rep_dp _ (v1.rep ok rv) h1, rep_dp _ (v2.rep ok rw_) h2, s1, s2, post _ M _ Hi H ⟨rfl, rfl⟩ (Same.refl _) ok (.bl _)⟩⟩
theorem cmp_neD {d1' d2' : Val} {p q : PyData} (v1 : Vw M d1 d1') (v2 : Vw M d2 d2') (h1 : toD d1' = some p) (h2 : toD d2' = some q) (s1 : SeqAt.shaped p = true) (s2 : SeqAt.shaped q = true) (hu : X.A.units + 64 < cLine) : Cmp X .NotEq M d1 d2 (!PyData.eqv p q) :=
  ⟨_, op_neD hu, fun Hi H v w ok rv rw_ Q post => ⟨p, q, rep_dp _ (v1.rep ok rv) h1, rep_dp _ (v2.rep ok rw_) h2, s1, s2, post _ M _ Hi H ⟨rfl, rfl⟩ (Same.refl _) ok (.bl _)⟩⟩
def Val.isN : Val → Bool
  | .non => true
  | _ => false
theorem rep_isN {K : PySem.W.Frag} {H : Hp} {x : Val} {v : V} (r : Rep K H x v) : decide (v = .non) = x.isN := by
  cases r <;> rfl
theorem cmp_isN : Cmp X .Is M d .non d.isN := ⟨_, op_isN, fun Hi H v w ok rv rw_ Q q => by
  cases rw_
  refine ⟨rfl, ?_⟩
  rw [rep_isN rv]
  exact q _ M _ Hi H ⟨rfl, rfl⟩ (Same.refl _) ok (.bl _)⟩
theorem cmp_notN : Cmp X .IsNot M d .non (!d.isN) := ⟨_, op_notN, fun Hi H v w ok rv rw_ Q q => by
  cases rw_
  refine ⟨rfl, ?_⟩
  rw [rep_isN rv]
  exact q _ M _ Hi H ⟨rfl, rfl⟩ (Same.refl _) ok (.bl _)⟩
theorem Cmp.eq {op : CmpOp} {x y : Val} {b b' : Bool} (h : Cmp X op M x y b) (e : b = b') : Cmp X op M x y b' := e ▸ h
/-- a comparison as a value, as a test -/
theorem ae_cmp {op : CmpOp} {k : Bool} (ha : aV X a Γ M d1) (hb : aV X b Γ M d2) (hc : Cmp X op M d1 d2 k) (h : P (.bl k) M) (hm : behindInMarks op b = false := by first | exact nomark _ | rfl) : aE X (.Compare a [op] [b] pos) Γ M P := fun Hi H σ ok en Q q => by
  obtain ⟨r, ho, hr⟩ := hc
  refine ⟨_, pe_cmpR ho pe_we pe_we hm, ?_⟩
  refine ha Hi H σ ok en _ fun x M1 v Hi1 H1 h1 s1 ok1 r1 => ?_
  obtain ⟨rfl, rfl⟩ := h1
  refine hb Hi1 H1 σ ok1 (en.mono s1) _ fun y M2 w Hi2 H2 h2 s2 ok2 r2 => ?_
  obtain ⟨rfl, rfl⟩ := h2
  exact hr Hi2 H2 v w ok2 (r1.mono s2) r2 Q fun z M' v' Hi3 H3 h3 s3 ok3 r3 => by
    obtain ⟨rfl, rfl⟩ := h3
    exact q _ _ v' Hi3 H3 h ((s1.trans s2).trans s3) ok3 r3
theorem at_cmp {op : CmpOp} {k : Bool} {P : Bool → Mem → Prop} (ha : aV X a Γ M d1) (hb : aV X b Γ M d2) (hc : Cmp X op M d1 d2 k) (h : P k M) (hm : behindInMarks op b = false := by first | exact nomark _ | rfl) : aT X (.Compare a [op] [b] pos) Γ M P := fun Hi H σ ok en Q q => by
  obtain ⟨r, ho, hr⟩ := hc
  refine ⟨_, pt_cmpR ho pe_we pe_we hm, ?_⟩
  refine ha Hi H σ ok en _ fun x M1 v Hi1 H1 h1 s1 ok1 r1 => ?_
  obtain ⟨rfl, rfl⟩ := h1
  refine hb Hi1 H1 σ ok1 (en.mono s1) _ fun y M2 w Hi2 H2 h2 s2 ok2 r2 => ?_
  obtain ⟨rfl, rfl⟩ := h2
  exact hr Hi2 H2 v w ok2 (r1.mono s2) r2 _ fun z M' v' Hi3 H3 h3 s3 ok3 r3 => by
    obtain ⟨rfl, rfl⟩ := h3
    cases r3
    exact ⟨k, rfl, q _ _ Hi3 H3 h ((s1.trans s2).trans s3) ok3⟩
/-- a op b op' c -/
theorem ae_chain {op op' : CmpOp} {k1 k2 : Bool} (ha : aV X a Γ M d1) (hb : aV X b Γ M d2) (hc : aV X c Γ M d3) (h1 : Cmp X op M d1 d2 k1) (h2 : Cmp X op' M d2 d3 k2) (h : P (.bl (k1 && k2)) M) (hm : lastMarks [op, op'] [b, c] = false := by with_unfolding_all rfl) :
    aE X (.Compare a [op, op'] [b, c] pos) Γ M P := fun Hi H σ ok en Q q => by
  obtain ⟨r, ho, hr⟩ := h1
  obtain ⟨r', ho', hr'⟩ := h2
  refine ⟨_, pe_chain ho ho' pe_we pe_we pe_we hm, ?_⟩
  refine ha Hi H σ ok en _ fun x M1 v Hi1 H1 h1 s1 ok1 r1 => ?_
  obtain ⟨rfl, rfl⟩ := h1
  refine hb Hi1 H1 σ ok1 (en.mono s1) _ fun y M2 w Hi2 H2 h2 s2 ok2 r2 => ?_
  obtain ⟨rfl, rfl⟩ := h2
  refine hr Hi2 H2 v w ok2 (r1.mono s2) r2 _ fun z M' v' Hi3 H3 h3 s3 ok3 r3 => ?_
  obtain ⟨rfl, rfl⟩ := h3
  cases r3
  refine ⟨k1, rfl, ?_⟩
  have s13 := (s1.trans s2).trans s3
  cases k1 with
  | false => exact iteF (q _ _ _ Hi3 H3 h s13 ok3 (.bl _))
  | true =>
    refine iteT (hc Hi3 H3 σ ok3 (en.mono s13) _ fun y4 M4 w4 Hi4 H4 h4 s4 ok4 r4 => ?_)
    obtain ⟨rfl, rfl⟩ := h4
    exact hr' Hi4 H4 w w4 ok4 (r2.mono (s3.trans s4)) r4 Q fun z M' v' Hi5 H5 h5 s5 ok5 r5 => by
      obtain ⟨rfl, rfl⟩ := h5
      exact q _ _ v' Hi5 H5 h ((s13.trans s4).trans s5) ok5 r5
theorem at_chain {op op' : CmpOp} {k1 k2 : Bool} {P : Bool → Mem → Prop} (ha : aV X a Γ M d1) (hb : aV X b Γ M d2) (hc : aV X c Γ M d3) (h1 : Cmp X op M d1 d2 k1) (h2 : Cmp X op' M d2 d3 k2) (h : P (k1 && k2) M) (hm : lastMarks [op, op'] [b, c] = false := by with_unfolding_all rfl) :
    aT X (.Compare a [op, op'] [b, c] pos) Γ M P := fun Hi H σ ok en Q q => by
  obtain ⟨r, ho, hr⟩ := h1
  obtain ⟨r', ho', hr'⟩ := h2
  refine ⟨_, pt_chain ho ho' pe_we pe_we pe_we hm, ?_⟩
  refine ha Hi H σ ok en _ fun x M1 v Hi1 H1 h1 s1 ok1 r1 => ?_
  obtain ⟨rfl, rfl⟩ := h1
  refine hb Hi1 H1 σ ok1 (en.mono s1) _ fun y M2 w Hi2 H2 h2 s2 ok2 r2 => ?_
  obtain ⟨rfl, rfl⟩ := h2
  refine hr Hi2 H2 v w ok2 (r1.mono s2) r2 _ fun z M' v' Hi3 H3 h3 s3 ok3 r3 => ?_
  obtain ⟨rfl, rfl⟩ := h3
  cases r3
  refine ⟨k1, rfl, ?_⟩
  have s13 := (s1.trans s2).trans s3
  cases k1 with
  | false => exact iteF ⟨false, rfl, q _ _ Hi3 H3 h s13 ok3⟩
  | true =>
    refine iteT (hc Hi3 H3 σ ok3 (en.mono s13) _ fun y4 M4 w4 Hi4 H4 h4 s4 ok4 r4 => ?_)
    obtain ⟨rfl, rfl⟩ := h4
    exact hr' Hi4 H4 w w4 ok4 (r2.mono (s3.trans s4)) r4 _ fun z M' v' Hi5 H5 h5 s5 ok5 r5 => by
      obtain ⟨rfl, rfl⟩ := h5
      cases r5
      exact ⟨_, rfl, q _ _ Hi5 H5 h ((s13.trans s4).trans s5) ok5⟩

/-! ### tests -/
theorem at_val {P : Bool → Mem → Prop} (h : aE X e Γ M fun x M' => ∃ k, x = .bl k ∧ P k M') (he : ∀ whole, isTrue e X.env whole = (do let v ← whole; standAt e.pos; holding [v] (truthy v)) := by intro _; rfl) : aT X e Γ M P := fun Hi H σ ok en Q q => by
  refine ⟨_, pt_val pe_we he, ?_⟩
  refine h Hi H σ ok en _ fun x M1 v Hi1 H1 h1 s1 ok1 r1 => ?_
  obtain ⟨k, rfl, p⟩ := h1
  cases r1
  exact ⟨k, rfl, q _ _ Hi1 H1 p s1 ok1⟩
theorem at_not {P : Bool → Mem → Prop} (h : aT X a Γ M fun x M' => P (!x) M') : aT X (.UnaryOp .Not a pos) Γ M P := fun Hi H σ ok en Q q => by
  refine ⟨_, pt_not pt_wt, ?_⟩
  exact h Hi H σ ok en _ fun x M1 Hi1 H1 h1 s1 ok1 => q _ _ Hi1 H1 h1 s1 ok1
def WW (X : Cx) (e : Expr) : TT := fun σ H Q => ∃ t, PW X e t ∧ t σ H Q
theorem pw_ww : PW X e (WW X e) := ⟨fun whole pins s σ H Q I ⟨t, p, h⟩ => p.run whole pins s σ H Q I h⟩
def aW (X : Cx) (e : Expr) (Γ : Gam) (M : Mem) (P : Bool → Mem → Prop) : Prop := ∀ Hi H σ, Ok X.K Hi M H → EnvR X.K Hi Γ σ → ∀ Q, PostT X.K Hi P Q → WW X e σ H Q
theorem at_w {P : Bool → Mem → Prop} (h : aW X e Γ M P) : aT X e Γ M P := fun Hi H σ ok en Q q => by
  obtain ⟨t, p, z⟩ := h Hi H σ ok en Q q
  exact ⟨t, p.pt, z⟩
theorem aw_and1 {P : Bool → Mem → Prop} (h : aT X a Γ M P) : aW X (.BoolOp .And [a] pos) Γ M P := fun Hi H σ ok en Q q => ⟨_, pw_and1 pt_wt, h Hi H σ ok en Q q⟩
theorem aw_or1 {P : Bool → Mem → Prop} (h : aT X a Γ M P) : aW X (.BoolOp .Or [a] pos) Γ M P := fun Hi H σ ok en Q q => ⟨_, pw_or1 pt_wt, h Hi H σ ok en Q q⟩
theorem aw_and {P : Bool → Mem → Prop} {rest : List Expr} (h : aT X a Γ M fun x M' => (x = true → aW X (.BoolOp .And (b :: rest) pos) Γ M' P) ∧ (x = false → P false M')) : aW X (.BoolOp .And (a :: b :: rest) pos) Γ M P := fun Hi H σ ok en Q q => by
  refine ⟨_, pw_and pt_wt pw_ww, ?_⟩
  refine h Hi H σ ok en _ fun x M1 Hi1 H1 h1 s1 ok1 => ?_
  cases x with
  | true => exact iteT (h1.1 rfl Hi1 H1 σ ok1 (en.mono s1) _ (q.up s1))
  | false => exact iteF (q _ _ Hi1 H1 (h1.2 rfl) s1 ok1)
theorem aw_or {P : Bool → Mem → Prop} {rest : List Expr} (h : aT X a Γ M fun x M' => (x = true → P true M') ∧ (x = false → aW X (.BoolOp .Or (b :: rest) pos) Γ M' P)) : aW X (.BoolOp .Or (a :: b :: rest) pos) Γ M P := fun Hi H σ ok en Q q => by
  refine ⟨_, pw_or pt_wt pw_ww, ?_⟩
  refine h Hi H σ ok en _ fun x M1 Hi1 H1 h1 s1 ok1 => ?_
  cases x with
  | false => exact iteF (h1.2 rfl Hi1 H1 σ ok1 (en.mono s1) _ (q.up s1))
  | true => exact iteT (q _ _ Hi1 H1 (h1.1 rfl) s1 ok1)
/-- as values -/
theorem ae_and {rest : List Expr} (h : aE X a Γ M fun x M' => ∃ k, x = .bl k ∧ (k = true → aE X (.BoolOp .And (b :: rest) pos) Γ M' P) ∧ (k = false → P (.bl false) M')) : aE X (.BoolOp .And (a :: b :: rest) pos) Γ M P := fun Hi H σ ok en Q q => by
  refine ⟨_, pe_and pe_we pe_we, ?_⟩
  refine h Hi H σ ok en _ fun x M1 v Hi1 H1 h1 s1 ok1 r1 => ?_
  obtain ⟨k, rfl, h2, h3⟩ := h1
  cases r1
  refine ⟨k, rfl, ?_⟩
  cases k with
  | true => exact iteT (h2 rfl Hi1 H1 σ ok1 (en.mono s1) _ (q.up s1))
  | false => exact iteF (q _ _ _ Hi1 H1 (h3 rfl) s1 ok1 (.bl _))
theorem ae_or {rest : List Expr} (h : aE X a Γ M fun x M' => ∃ k, x = .bl k ∧ (k = true → P (.bl true) M') ∧ (k = false → aE X (.BoolOp .Or (b :: rest) pos) Γ M' P)) : aE X (.BoolOp .Or (a :: b :: rest) pos) Γ M P := fun Hi H σ ok en Q q => by
  refine ⟨_, pe_or pe_we pe_we, ?_⟩
  refine h Hi H σ ok en _ fun x M1 v Hi1 H1 h1 s1 ok1 r1 => ?_
  obtain ⟨k, rfl, h2, h3⟩ := h1
  cases r1
  refine ⟨k, rfl, ?_⟩
  cases k with
  | false => exact iteF (h3 rfl Hi1 H1 σ ok1 (en.mono s1) _ (q.up s1))
  | true => exact iteT (q _ _ _ Hi1 H1 (h2 rfl) s1 ok1 (.bl _))
theorem ae_one {op} (h : aE X a Γ M P) : aE X (.BoolOp op [a] pos) Γ M P := fun Hi H σ ok en Q q => ⟨_, pe_one pe_we, h Hi H σ ok en Q q⟩
theorem ae_not (h : aE X a Γ M fun x M' => ∃ k, x = .bl k ∧ P (.bl (!k)) M') : aE X (.UnaryOp .Not a pos) Γ M P := fun Hi H σ ok en Q q => by
  refine ⟨_, pe_not pe_we, ?_⟩
  refine h Hi H σ ok en _ fun x M1 v Hi1 H1 h1 s1 ok1 r1 => ?_
  obtain ⟨k, rfl, h2⟩ := h1
  cases r1
  exact ⟨k, rfl, q _ _ _ Hi1 H1 h2 s1 ok1 (.bl _)⟩
theorem ae_if (h : aT X c Γ M fun x M' => (x = true → aE X a Γ M' P) ∧ (x = false → aE X b Γ M' P)) : aE X (.IfExp c a b pos) Γ M P := fun Hi H σ ok en Q q => by
  refine ⟨_, pe_ifExp pt_wt pe_we pe_we, ?_⟩
  refine h Hi H σ ok en _ fun x M1 Hi1 H1 h1 s1 ok1 => ?_
  cases x with
  | true => exact iteT (h1.1 rfl Hi1 H1 σ ok1 (en.mono s1) _ (q.up s1))
  | false => exact iteF (h1.2 rfl Hi1 H1 σ ok1 (en.mono s1) _ (q.up s1))
/-- truth of a pure test in two ways -/
theorem ae_ifd {p : Prop} [Decidable p] (hc : aB X c Γ M (decide p)) (h1 : p → aE X a Γ M P) (h2 : ¬ p → aE X b Γ M P) : aE X (.IfExp c a b pos) Γ M P :=
  ae_if (hc.val ⟨fun z => h1 (of_decide_eq_true z), fun z => h2 (of_decide_eq_false z)⟩)

/-! ### arguments, displays -/
theorem aa_nil {P : List Val → Mem → Prop} (h : P [] M) : aA X [] Γ M P := fun Hi H σ ok en Q q => ⟨_, pa_nil, q _ _ _ Hi H h (Same.refl _) ok .nil⟩
theorem aa_cons {P : List Val → Mem → Prop} (h : aE X e Γ M fun x M1 => aA X es Γ M1 fun xs M2 => P (x :: xs) M2) (hs : starEach (e :: es) X.env = (false, eval e X.env) :: starEach es X.env := by rfl) : aA X (e :: es) Γ M P := fun Hi H σ ok en Q q => by
  refine ⟨_, pa_cons pe_we pa_wa hs, ?_⟩
  refine h Hi H σ ok en _ fun x M1 v Hi1 H1 h1 s1 ok1 r1 => ?_
  exact h1 Hi1 H1 σ ok1 (en.mono s1) _ fun xs M2 vs Hi2 H2 h2 s2 ok2 r2 => q _ _ _ Hi2 H2 h2 (s1.trans s2) ok2 (.cons (r1.mono s2) r2)
theorem avs_nil : aVs X [] Γ M [] := aa_nil ⟨rfl, rfl⟩
theorem avs_cons {ds : List Val} (h : aV X e Γ M d) (hr : aVs X es Γ M ds) (hs : starEach (e :: es) X.env = (false, eval e X.env) :: starEach es X.env := by rfl) : aVs X (e :: es) Γ M (d :: ds) :=
  aa_cons (h.val (hr.val ⟨rfl, rfl⟩)) hs
theorem ae_tup {x1} (h : aA X es Γ M fun xs M' => xs.length ≤ sizeLine ∧ P (.tup xs) M') : aE X (.Tuple es x1 pos) Γ M P := fun Hi H σ ok en Q q => by
  refine ⟨_, pe_tup pa_wa, ?_⟩
  refine h Hi H σ ok en _ fun xs M1 vs Hi1 H1 h1 s1 ok1 r1 => ?_
  refine ⟨r1.length ▸ h1.1, fun p hp => ?_⟩
  have s2 := same_upd (o := .tup vs) (ok1.none hp)
  exact q _ _ _ _ _ h1.2 (s1.trans s2) (ok1.imm hp) (.tup (SqT.of upd_same) (r1.mono s2))
theorem av_tup {x1} {ds : List Val} (h : aVs X es Γ M ds) (hl : ds.length ≤ sizeLine) : aV X (.Tuple es x1 pos) Γ M (.tup ds) := ae_tup (h.val ⟨hl, rfl, rfl⟩)
/-- a list that will not change -/
theorem ae_lst (h : aA X es Γ M fun xs M' => xs.length ≤ sizeLine ∧ P (.lst xs) M') : aE X (.List es pos) Γ M P := fun Hi H σ ok en Q q => by
  refine ⟨_, pe_lst pa_wa, ?_⟩
  refine h Hi H σ ok en _ fun xs M1 vs Hi1 H1 h1 s1 ok1 r1 => ?_
  refine ⟨r1.length ▸ h1.1, fun p hp => ?_⟩
  have s2 := same_upd (o := .lst vs) (ok1.none hp)
  exact q _ _ _ _ _ h1.2 (s1.trans s2) (ok1.imm hp) (.lst (SqL.of upd_same) (r1.mono s2))
/-- a list that will change: a new cell -/
theorem ae_lstC (h : aA X es Γ M fun xs M' => xs.length ≤ sizeLine ∧ ∀ p, P (.ptr p) ((p, .lst xs) :: M')) : aE X (.List es pos) Γ M P := fun Hi H σ ok en Q q => by
  refine ⟨_, pe_lst pa_wa, ?_⟩
  refine h Hi H σ ok en _ fun xs M1 vs Hi1 H1 h1 s1 ok1 r1 => ?_
  refine ⟨r1.length ▸ h1.1, fun p hp => ?_⟩
  exact q _ _ _ _ _ (h1.2 p) s1 (ok1.new hp ⟨vs, rfl, r1⟩) (.ptr p)

/-! ### places -/
theorem rep_at {K : PySem.W.Frag} {H : Hp} {ds : List Val} {vs : List V} (r : RepA K H ds vs) {i : Int} {d : Val} (h : atI ds i = some d) : ∃ v, atI vs i = some v ∧ Rep K H d v := by
  unfold atI at h ⊢
  rw [← r.length]
  cases e : ixN ds.length i with
  | none => rw [e] at h; cases h
  | some j =>
    rw [e] at h
    exact r.get h
/-- xs[i], t[i] -/
theorem ae_ixL {xs : List Val} (ha : aV X a Γ M d1) (hb : aV X b Γ M (.int i)) (hv : Vw M d1 (.lst xs)) (h : ∃ d, atI xs i = some d ∧ P d M) (hs : PlainIx b := by exact fun _ _ => rfl) : aE X (.Subscript a b pos) Γ M P := fun Hi H σ ok en Q q => by
  obtain ⟨d, hd, p⟩ := h
  refine ⟨_, pe_ix ix_list pe_we pe_we hs, ?_⟩
  refine ha Hi H σ ok en _ fun x M1 v Hi1 H1 h1 s1 ok1 r1 => ?_
  obtain ⟨rfl, rfl⟩ := h1
  refine hb Hi1 H1 σ ok1 (en.mono s1) _ fun y M2 w Hi2 H2 h2 s2 ok2 r2 => ?_
  obtain ⟨rfl, rfl⟩ := h2
  cases r2
  cases hv with
  | self =>
    cases r1.mono s2 with
    | lst hq ra =>
      obtain ⟨z, hz, rz⟩ := rep_at ra hd
      exact ⟨_, _, i, z, rfl, rfl, ok2.im.seq hq, hz, q _ _ z Hi2 H2 p (s1.trans s2) ok2 rz⟩
  | lst j hm =>
    obtain ⟨_, o, ho, xs', rfl, ra⟩ := ok2.get hm
    cases r1
    obtain ⟨z, hz, rz⟩ := rep_at ra hd
    exact ⟨_, _, i, z, rfl, rfl, SqL.of ho, hz, q _ _ z Hi2 H2 p (s1.trans s2) ok2 rz⟩
theorem ae_ixT {xs : List Val} (ha : aV X a Γ M (.tup xs)) (hb : aV X b Γ M (.int i)) (h : ∃ d, atI xs i = some d ∧ P d M) (hs : PlainIx b := by exact fun _ _ => rfl) : aE X (.Subscript a b pos) Γ M P := fun Hi H σ ok en Q q => by
  obtain ⟨d, hd, p⟩ := h
  refine ⟨_, pe_ix ix_tup pe_we pe_we hs, ?_⟩
  refine ha Hi H σ ok en _ fun x M1 v Hi1 H1 h1 s1 ok1 r1 => ?_
  obtain ⟨rfl, rfl⟩ := h1
  refine hb Hi1 H1 σ ok1 (en.mono s1) _ fun y M2 w Hi2 H2 h2 s2 ok2 r2 => ?_
  obtain ⟨rfl, rfl⟩ := h2
  cases r2
  cases r1.mono s2 with
  | tup hq ra =>
    obtain ⟨z, hz, rz⟩ := rep_at ra hd
    exact ⟨_, _, i, z, rfl, rfl, sameT ok2.im hq, hz, q _ _ z Hi2 H2 p (s1.trans s2) ok2 rz⟩
theorem av_ixL {xs : List Val} (ha : aV X a Γ M d1) (hb : aV X b Γ M (.int i)) (hv : Vw M d1 (.lst xs)) (hd : atI xs i = some d) (hs : PlainIx b := by exact fun _ _ => rfl) : aV X (.Subscript a b pos) Γ M d := ae_ixL ha hb hv ⟨d, hd, rfl, rfl⟩ hs
theorem av_ixT {xs : List Val} (ha : aV X a Γ M (.tup xs)) (hb : aV X b Γ M (.int i)) (hd : atI xs i = some d) (hs : PlainIx b := by exact fun _ _ => rfl) : aV X (.Subscript a b pos) Γ M d := ae_ixT ha hb ⟨d, hd, rfl, rfl⟩ hs
end
end Ab

namespace Ab
open PySem PySem.Spec PyProof.Rows L2
section
variable {X : Cx} {Γ : Gam} {M : Mem} {P : Val → Mem → Prop} {e a b c o : Expr} {es : List Expr} {pos p1 p2 apos : Pos} {k : AK} {d d1 d2 d3 : Val} {i j : Int} {x f m : Str}

/-- a new list's cell that will not change -/
theorem ae_frz (h : aE X e Γ M fun d M' => ∃ p xs M'', d = .ptr p ∧ M' = (p, .lst xs) :: M'' ∧ P (.lst xs) M'') : aE X e Γ M P := fun Hi H σ ok en Q q => by
  refine h Hi H σ ok en _ fun d M1 v Hi1 H1 h1 s1 ok1 r1 => ?_
  obtain ⟨p, xs, M2, rfl, rfl, hp⟩ := h1
  obtain ⟨e0, o, ho, vs, rfl, ra⟩ := ok1.ce p _ List.mem_cons_self
  cases r1
  have s2 := same_upd (o := .lst vs) e0
  exact q _ _ _ _ _ hp (s1.trans s2) (ok1.freeze ho) (.lst (SqL.of upd_same) (ra.mono s2))

/-! ### calls of built-ins -/
def RA (X : Cx) (r : List V → Hp → VK → Prop) (xs : List Val) (M : Mem) (P : Val → Mem → Prop) : Prop := ∀ Hi H vs, Ok X.K Hi M H → RepA X.K Hi xs vs → ∀ Q, Post X.K Hi P Q → r vs H Q
theorem ae_callB {id : String} {r : List V → Hp → VK → Prop} (hc : CallR X (.builtin id) r) (hm : X.mg x = none) (hv : bootBuiltins x = some (.builtin id)) (h : aA X (e :: es) Γ M fun xs M' => RA X r xs M' P)
    (hg : Gl X x := by rfl) (hn : x ≠ "__name__" := by decide) (hdb : (x == ("__debug__" : Str)) = false := by decide)
    (he : starEach (e :: es) X.env = (false, eval e X.env) :: starEach es X.env := by rfl) (hpl : (backTo pos (starEach es X.env)).any (·.1) = false := by rfl) : aE X (.Call (.Name x p1) (e :: es) [] pos) Γ M P := fun Hi H σ ok en Q q => by
  refine ⟨_, pe_callB hc hg hm hv pa_wa hn hdb he hpl, ?_⟩
  exact h Hi H σ ok en _ fun xs M1 vs Hi1 H1 h1 s1 ok1 r1 => h1 Hi1 H1 vs ok1 r1 Q (q.up s1)
theorem ae_callTy {T : String} {r : List V → Hp → VK → Prop} (hc : CallR X (.type T) r) (hm : X.mg x = none) (hv : bootBuiltins x = some (.type T)) (h : aA X (e :: es) Γ M fun xs M' => RA X r xs M' P)
    (hg : Gl X x := by rfl) (hn : x ≠ "__name__" := by decide) (hdb : (x == ("__debug__" : Str)) = false := by decide)
    (he : starEach (e :: es) X.env = (false, eval e X.env) :: starEach es X.env := by rfl) (hpl : (backTo pos (starEach es X.env)).any (·.1) = false := by rfl) : aE X (.Call (.Name x p1) (e :: es) [] pos) Γ M P := fun Hi H σ ok en Q q => by
  refine ⟨_, pe_callTy hc hg hm hv pa_wa hn hdb he hpl, ?_⟩
  exact h Hi H σ ok en _ fun xs M1 vs Hi1 H1 h1 s1 ok1 r1 => h1 Hi1 H1 vs ok1 r1 Q (q.up s1)
/-- what a list or tuple value is -/
inductive Sq (M : Mem) : Val → List Val → Prop
  | l {d : Val} {xs : List Val} : Vw M d (.lst xs) → Sq M d xs
  | t {xs : List Val} : Sq M (.tup xs) xs
theorem Sq.rep {K : PySem.W.Frag} {Hi H : Hp} {d : Val} {xs : List Val} {v : V} (h : Sq M d xs) (ok : Ok K Hi M H) (r : Rep K Hi d v) : ∃ p ys, v = .ref p ∧ (SqL K H p ys ∨ SqT K H p ys) ∧ RepA K Hi xs ys := by
  cases h with
  | l h =>
    cases h with
    | self => cases r with
      | lst hq ra => exact ⟨_, _, rfl, .inl (ok.im.seq hq), ra⟩
    | lst i hm =>
      obtain ⟨_, o, ho, ys, rfl, ra⟩ := ok.get hm
      cases r
      exact ⟨_, _, rfl, .inl (SqL.of ho), ra⟩
  | t => cases r with
    | tup hq ra => exact ⟨_, _, rfl, .inr (sameT ok.im hq), ra⟩
theorem Vw.repL {K : PySem.W.Frag} {Hi H : Hp} {d : Val} {xs : List Val} {v : V} (h : Vw M d (.lst xs)) (ok : Ok K Hi M H) (r : Rep K Hi d v) : ∃ p ys, v = .ref p ∧ SqL K H p ys ∧ RepA K Hi xs ys := by
  cases h with
  | self => cases r with
    | lst hq ra => exact ⟨_, _, rfl, ok.im.seq hq, ra⟩
  | lst i hm =>
    obtain ⟨_, o, ho, ys, rfl, ra⟩ := ok.get hm
    cases r
    exact ⟨_, _, rfl, SqL.of ho, ra⟩
theorem ae_len {xs : List Val} (hm : X.mg "len" = none) (ha : aV X a Γ M d) (hs : Sq M d xs) (h : P (.int xs.length) M) (hg : Gl X "len" := by rfl) (hst : starEach [a] X.env = [(false, eval a X.env)] := by rfl) : aE X (.Call (.Name "len" p1) [a] [] pos) Γ M P :=
  ae_callB call_len_seq hm PySem.boot_len (aa_cons (ha.val (aa_nil fun Hi H vs ok r Q q => by
    cases r with
    | cons r1 r2 =>
      cases r2
      obtain ⟨p, ys, rfl, hq, ra⟩ := hs.rep ok r1
      refine ⟨p, ys, rfl, hq, ?_⟩
      rw [← ra.length]
      exact q _ _ _ Hi H h (Same.refl _) ok (.int _))) hst) hg (he := hst) (hpl := rfl)
theorem av_len {xs : List Val} (hm : X.mg "len" = none) (ha : aV X a Γ M d) (hs : Sq M d xs) (hg : Gl X "len" := by rfl) (hst : starEach [a] X.env = [(false, eval a X.env)] := by rfl) : aV X (.Call (.Name "len" p1) [a] [] pos) Γ M (.int xs.length) := ae_len hm ha hs ⟨rfl, rfl⟩ hg hst
/-- list(x): a new cell -/
theorem ae_list (hm : X.mg "list" = none) (ha : aE X a Γ M fun d M' => ∃ xs, Sq M' d xs ∧ ∀ p, P (.ptr p) ((p, .lst xs) :: M')) (hg : Gl X "list" := by rfl) (hst : starEach [a] X.env = [(false, eval a X.env)] := by rfl) : aE X (.Call (.Name "list" p1) [a] [] pos) Γ M P :=
  ae_callTy call_list_of hm (by decide +kernel) (aa_cons (ha.mono fun d M' ⟨xs, hs, h⟩ => aa_nil fun Hi H vs ok r Q q => by
    cases r with
    | cons r1 r2 =>
      cases r2
      obtain ⟨p, ys, rfl, hq, ra⟩ := hs.rep ok r1
      exact ⟨p, ys, rfl, hq, fun l hl => q _ _ _ _ _ (h l) (Same.refl _) (ok.new hl ⟨ys, rfl, ra⟩) (.ptr l)⟩) hst) hg (he := hst) (hpl := rfl)
/-- tuple(x) -/
theorem ae_tuple (hm : X.mg "tuple" = none) (ha : aE X a Γ M fun d M' => ∃ xs, Sq M' d xs ∧ P (.tup xs) M') (hg : Gl X "tuple" := by rfl) (hst : starEach [a] X.env = [(false, eval a X.env)] := by rfl) : aE X (.Call (.Name "tuple" p1) [a] [] pos) Γ M P :=
  ae_callTy call_tuple_of hm (by decide +kernel) (aa_cons (ha.mono fun d M' ⟨xs, hs, h⟩ => aa_nil fun Hi H vs ok r Q q => by
    cases r with
    | cons r1 r2 =>
      cases r2
      cases hs with
      | l hs =>
        obtain ⟨p, ys, rfl, hq, ra⟩ := hs.repL ok r1
        refine ⟨p, ys, rfl, .inl ⟨hq, fun l hl => ?_⟩⟩
        have s2 := same_upd (o := .tup ys) (ok.none hl)
        exact q _ _ _ _ _ h s2 (ok.imm hl) (.tup (SqT.of upd_same) (ra.mono s2))
      | t =>
        cases r1 with
        | tup hq ra => exact ⟨_, _, rfl, .inr ⟨sameT ok.im hq, q _ _ _ Hi H h (Same.refl _) ok (.tup hq ra)⟩⟩) hst) hg (he := hst) (hpl := rfl)

/-! ### slices -/
def aO (X : Cx) (e : Option Expr) (Γ : Gam) (M : Mem) (o : Option Int) : Prop := ∀ Hi H σ, Ok X.K Hi M H → EnvR X.K Hi Γ σ → ∀ Q : Option Int → Hp → Prop, (∀ Hi' H', Same Hi Hi' → Ok X.K Hi' M H' → Q o H') → ∃ t, PO X e t ∧ t σ H Q
theorem ao_none : aO X none Γ M none := fun Hi H σ ok en Q q => ⟨_, po_none, q Hi H (Same.refl _) ok⟩
theorem ao_some (h : aV X e Γ M (.int i)) : aO X (some e) Γ M (some i) := fun Hi H σ ok en Q q => by
  refine ⟨_, po_some pe_we, ?_⟩
  refine h Hi H σ ok en _ fun x M1 v Hi1 H1 h1 s1 ok1 r1 => ?_
  obtain ⟨rfl, rfl⟩ := h1
  cases r1
  exact ⟨i, rfl, q Hi1 H1 s1 ok1⟩
def WO (X : Cx) (e : Option Expr) : TO := fun σ H Q => ∃ t, PO X e t ∧ t σ H Q
theorem po_wo {e : Option Expr} : PO X e (WO X e) := ⟨fun pins s σ H Q I ⟨t, p, h⟩ => p.run pins s σ H Q I h⟩
def cutA (xs : List Val) (lo hi : Option Int) : List Val := (xs.drop (HT.sIx xs.length 0 lo)).take (HT.sIx xs.length xs.length hi - HT.sIx xs.length 0 lo)
theorem rep_cut {K : PySem.W.Frag} {H : Hp} {xs : List Val} {vs : List V} (r : RepA K H xs vs) (lo hi : Option Int) : RepA K H (cutA xs lo hi) (cutV vs lo hi) := by
  unfold cutA cutV
  rw [← r.length]
  exact (r.drop _).take _
theorem ae_sliceL {xs : List Val} {elo ehi : Option Expr} {lo hi : Option Int} (ha : aV X a Γ M d) (hl : aO X elo Γ M lo) (hh : aO X ehi Γ M hi) (hv : Vw M d (.lst xs)) (h : ∀ p, P (.ptr p) ((p, .lst (cutA xs lo hi)) :: M)) : aE X (.Subscript a (.Slice elo ehi none p2) pos) Γ M P := fun Hi H σ ok en Q q => by
  refine ⟨_, pe_slice sl_list pe_we po_wo po_wo, ?_⟩
  refine ha Hi H σ ok en _ fun x M1 v Hi1 H1 h1 s1 ok1 r1 => ?_
  obtain ⟨rfl, rfl⟩ := h1
  refine hl Hi1 H1 σ ok1 (en.mono s1) _ fun Hi2 H2 s2 ok2 => ?_
  refine hh Hi2 H2 σ ok2 (en.mono (s1.trans s2)) _ fun Hi3 H3 s3 ok3 => ?_
  have s13 := (s1.trans s2).trans s3
  obtain ⟨p, ys, rfl, hq, ra⟩ := hv.repL ok3 (r1.mono (s2.trans s3))
  exact ⟨p, ys, rfl, hq, fun l hl => q _ _ _ _ _ (h l) s13 (ok3.new hl ⟨_, rfl, rep_cut ra lo hi⟩) (.ptr l)⟩
theorem ae_sliceT {xs : List Val} {elo ehi : Option Expr} {lo hi : Option Int} (ha : aV X a Γ M (.tup xs)) (hl : aO X elo Γ M lo) (hh : aO X ehi Γ M hi) (h : P (.tup (cutA xs lo hi)) M) : aE X (.Subscript a (.Slice elo ehi none p2) pos) Γ M P := fun Hi H σ ok en Q q => by
  refine ⟨_, pe_slice sl_tupA pe_we po_wo po_wo, ?_⟩
  refine ha Hi H σ ok en _ fun x M1 v Hi1 H1 h1 s1 ok1 r1 => ?_
  obtain ⟨rfl, rfl⟩ := h1
  refine hl Hi1 H1 σ ok1 (en.mono s1) _ fun Hi2 H2 s2 ok2 => ?_
  refine hh Hi2 H2 σ ok2 (en.mono (s1.trans s2)) _ fun Hi3 H3 s3 ok3 => ?_
  have s13 := (s1.trans s2).trans s3
  cases r1.mono (s2.trans s3) with
  | @tup p ys _ hq ra =>
    refine ⟨p, ys, rfl, sameT ok3.im hq, fun hw => ?_, fun hw l hl => ?_⟩
    · have e : cutA xs lo hi = xs := by
        unfold cutA
        rw [ra.length, hw.1, hw.2]
        rw [← ra.length]
        simp
      rw [e] at h
      exact q _ _ _ Hi3 H3 h s13 ok3 (.tup hq ra)
    · have s4 := same_upd (o := .tup (cutV ys lo hi)) (ok3.none hl)
      exact q _ _ _ _ _ h (s13.trans s4) (ok3.imm hl) (.tup (SqT.of upd_same) ((rep_cut ra lo hi).mono s4))

/-! ### fields -/
/-- an instance: one that will not change, or a cell -/
inductive Ob (M : Mem) (C : Addr) : Val → List (Str × Val) → Prop
  | im (fs : List (Str × Val)) : Ob M C (.obj C fs) fs
  | ce (i : Nat) {p : Addr} {fs : List (Str × Val)} : M[i]? = some (p, .ins C fs) → Ob M C (.ptr p) fs
theorem Ob.rep {K : PySem.W.Frag} {Hi H : Hp} {C : Addr} {d : Val} {fs : List (Str × Val)} {v : V} (h : Ob M C d fs) (ok : Ok K Hi M H) (r : Rep K Hi d v) : ∃ p dx gs, v = .ref p ∧ H p = some (.ins C dx gs) ∧ RepF K Hi fs gs := by
  cases h with
  | im => cases r with
    | obj hq ra => exact ⟨_, _, _, rfl, ok.im _ _ hq, ra⟩
  | ce i hm =>
    obtain ⟨_, o, ho, dx, gs, rfl, ra⟩ := ok.get hm
    cases r
    exact ⟨_, _, _, rfl, ho, ra⟩
theorem ae_fld {C : Addr} (c : Cls X.K C) (n : NoAttr X.K C f) (ha : aE X a Γ M fun d M' => ∃ fs v, Ob M' C d fs ∧ fs.lookup f = some v ∧ P v M') (hb : attributeBase a f X.env (eval a X.env) = eval a X.env := by rfl) : aE X (.Attribute a f pos) Γ M P := fun Hi H σ ok en Q q => by
  refine ⟨_, pe_fld pe_we hb, ?_⟩
  refine ha Hi H σ ok en _ fun x M1 v Hi1 H1 h1 s1 ok1 r1 => ?_
  obtain ⟨fs, z, ho, hf, hp⟩ := h1
  obtain ⟨p, dx, gs, rfl, hq, ra⟩ := ho.rep ok1 r1
  obtain ⟨w, hw, rw_⟩ := ra.lookup hf
  exact ⟨p, C, dx, gs, w, rfl, hq, c, n, hw, q _ _ w Hi1 H1 hp s1 ok1 rw_⟩
theorem av_fld {C : Addr} {fs : List (Str × Val)} (c : Cls X.K C) (n : NoAttr X.K C f) (ha : aV X a Γ M d) (ho : Ob M C d fs) (hf : fs.lookup f = some d1) (hb : attributeBase a f X.env (eval a X.env) = eval a X.env := by rfl) : aV X (.Attribute a f pos) Γ M d1 :=
  ae_fld c n (ha.val ⟨fs, d1, ho, hf, rfl, rfl⟩) hb

/-! ### dicts -/
theorem ae_dget {n : Nat} {p : Addr} {kvs : List (Key × Val)} (hu : X.A.units + 1 < cLine) (ha : aV X a Γ M (.ptr p)) (hb : aV X b Γ M (.str x)) (hm : M[n]? = some (p, .dk kvs)) (h : ∃ d, dGet kvs (.inr x) = some d ∧ P d M) (hs : NoSl b := by exact fun _ _ => rfl) : aE X (.Subscript a b pos) Γ M P := fun Hi H σ ok en Q q => by
  obtain ⟨d, hd, hp⟩ := h
  refine ⟨_, pe_dget hu pe_we pe_we hs, ?_⟩
  refine ha Hi H σ ok en _ fun x M1 v Hi1 H1 h1 s1 ok1 r1 => ?_
  obtain ⟨rfl, rfl⟩ := h1
  refine hb Hi1 H1 σ ok1 (en.mono s1) _ fun y M2 w Hi2 H2 h2 s2 ok2 r2 => ?_
  obtain ⟨rfl, rfl⟩ := h2
  cases r1
  cases r2
  obtain ⟨_, o, ho, ks, rfl, rk⟩ := ok2.get hm
  obtain ⟨z, hz, rz⟩ := rk.get hd
  exact ⟨p, z, rfl, .inl ⟨ks, .inr _, .inl ho, rfl, hz.symm⟩, q _ _ z Hi2 H2 hp (s1.trans s2) ok2 rz⟩
theorem av_dget {n : Nat} {p : Addr} {kvs : List (Key × Val)} (hu : X.A.units + 1 < cLine) (ha : aV X a Γ M (.ptr p)) (hb : aV X b Γ M (.str x)) (hm : M[n]? = some (p, .dk kvs)) (hd : dGet kvs (.inr x) = some d) (hs : NoSl b := by exact fun _ _ => rfl) : aV X (.Subscript a b pos) Γ M d := ae_dget hu ha hb hm ⟨d, hd, rfl, rfl⟩ hs
theorem as_dput {n : Nat} {p : Addr} {kvs : List (Key × Val)} {ppos : Pos} (hu : X.A.units + 1 < cLine) (ha : aV X a Γ M (.ptr p)) (hb : aV X b Γ M (.str x)) (he : aV X e Γ M d) (hm : M[n]? = some (p, .dk kvs)) (hl : kvs.length < sizeLine) (h : k.nx Γ (M.set n (p, .dk (dPut kvs (.inr x) d))))
    (hs : swapsWith e (some (.Subscript a b ppos)) pos.line X.env = pure false := by rfl) : aS X (.Assign [.Subscript a b ppos] e pos) Γ M k := fun Hi H σ ok en D q => by
  refine ⟨_, ps_dput hu pe_we pe_we pe_we hs, ?_⟩
  refine he Hi H σ ok en _ fun x0 M0 v0 Hi0 H0 h0 s0 ok0 r0 => ?_
  obtain ⟨rfl, rfl⟩ := h0
  refine ha Hi0 H0 σ ok0 (en.mono s0) _ fun x M1 v Hi1 H1 h1 s1 ok1 r1 => ?_
  obtain ⟨rfl, rfl⟩ := h1
  refine hb Hi1 H1 σ ok1 (en.mono (s0.trans s1)) _ fun y M2 w Hi2 H2 h2 s2 ok2 r2 => ?_
  obtain ⟨rfl, rfl⟩ := h2
  cases r1
  cases r2
  obtain ⟨_, o, ho, ks, rfl, rk⟩ := ok2.get hm
  have s02 := (s0.trans s1).trans s2
  exact ⟨p, _, rfl, .inl ⟨ks, .inr _, ho, rfl, by rw [← rk.length]; exact hl, rfl⟩, q.nx _ _ σ Hi2 _ h s02 (ok2.set hm ⟨_, rfl, rk.put (r0.mono (s1.trans s2))⟩) (en.mono s02)⟩
end
end Ab

namespace Ab
open PySem PySem.Spec PyProof.Rows L2
section
variable {X : Cx} {Γ : Gam} {M : Mem} {P : Val → Mem → Prop} {e a b c o : Expr} {es : List Expr} {pos p1 p2 apos : Pos} {k : AK} {d d1 d2 d3 : Val} {i j : Int} {x y f m : Str} {st : Stmt} {sts : List Stmt}

/-! ### blocks -/
theorem as_nil (h : k.nx Γ M) : aSs X [] Γ M k := fun Hi H σ ok en D q => ⟨_, pss_nil, q.nx Γ M σ Hi H h (Same.refl _) ok en⟩
theorem as_cons (h : aS X st Γ M { k with nx := fun Γ' M' => aSs X sts Γ' M' k }) : aSs X (st :: sts) Γ M k := fun Hi H σ ok en D q => by
  refine ⟨_, pss_cons ps_ws pss_wb, ?_⟩
  exact h Hi H σ ok en { D with nx := WB X sts D } ⟨fun Γ' M' σ' Hi' H' hn s ok' en' => hn Hi' H' σ' ok' en' D (q.up s), q.rt, q.bk, q.ct⟩
theorem as_one (h : aS X st Γ M k) : aSs X [st] Γ M k := fun Hi H σ ok en D q => ⟨_, pss_one ps_ws, h Hi H σ ok en D q⟩
theorem aSs.mono {k' : AK} (h : aSs X sts Γ M k) (f1 : ∀ Γ M, k.nx Γ M → k'.nx Γ M) (f2 : ∀ d M, k.rt d M → k'.rt d M) (f3 : ∀ Γ M, k.bk Γ M → k'.bk Γ M) (f4 : ∀ Γ M, k.ct Γ M → k'.ct Γ M) : aSs X sts Γ M k' := fun Hi H σ ok en D q =>
  h Hi H σ ok en D ⟨fun Γ M σ Hi' H' p => q.nx Γ M σ Hi' H' (f1 Γ M p), fun d M v Hi' H' p => q.rt d M v Hi' H' (f2 d M p), fun Γ M σ Hi' H' p => q.bk Γ M σ Hi' H' (f3 Γ M p), fun Γ M σ Hi' H' p => q.ct Γ M σ Hi' H' (f4 Γ M p)⟩
/-- the list in a slot's cell will change no more -/
theorem as_frz (i : Nat) {p : Addr} {xs : List Val} (hΓ : Γ[i]? = some (some (.ptr p))) (h : aSs X sts (Γ.set i (some (.lst xs))) M k) : aSs X sts Γ ((p, .lst xs) :: M) k := fun Hi H σ ok en D q => by
  obtain ⟨e0, o, ho, vs, rfl, ra⟩ := ok.ce p _ List.mem_cons_self
  have s2 := same_upd (o := .lst vs) e0
  obtain ⟨v, hv, rv⟩ := en.2 i _ hΓ
  cases rv
  have en2 := (en.mono s2).set (i := i) (d := .lst xs) (v := .ref p) (.lst (SqL.of upd_same) (ra.mono s2))
  have e : σ.set i (some (V.ref p)) = σ := by
    apply List.ext_getElem?
    intro j
    by_cases hij : i = j
    · subst hij
      rw [List.getElem?_set_self (List.getElem?_eq_some_iff.mp hv).1, hv]
    · rw [List.getElem?_set_ne hij]
  rw [e] at en2
  exact h _ H σ (ok.freeze ho) en2 D (q.up s2)
/-- forget a cell, slots -/
theorem as_drop {c : Addr × Cell} (h : aSs X sts Γ M k) : aSs X sts Γ (c :: M) k := fun Hi H σ ok en D q => h Hi H σ (Ok.tail (p := c.1) (c := c.2) ok) en D q

/-! ### statements -/
theorem as_expr (h : aE X e Γ M fun _ M' => k.nx Γ M') (hs : swapsWith e none pos.line X.env = pure false := by rfl) : aS X (.Expr e pos) Γ M k := fun Hi H σ ok en D q => by
  refine ⟨_, ps_expr pe_we hs, ?_⟩
  exact h Hi H σ ok en _ fun x M1 v Hi1 H1 h1 s1 ok1 r1 => q.nx _ _ σ Hi1 H1 h1 s1 ok1 (en.mono s1)
theorem as_ret (h : aE X e Γ M k.rt) : aS X (.Return (some e) pos) Γ M k := fun Hi H σ ok en D q => by
  refine ⟨_, ps_ret pe_we, ?_⟩
  exact h Hi H σ ok en _ fun x M1 v Hi1 H1 h1 s1 ok1 r1 => q.rt _ _ v Hi1 H1 h1 s1 ok1 r1
theorem as_retN (h : k.rt .non M) : aS X (.Return none pos) Γ M k := fun Hi H σ ok en D q => ⟨_, ps_retN, q.rt _ _ _ Hi H h (Same.refl _) ok .non⟩
theorem as_pass (h : k.nx Γ M) : aS X (.Pass pos) Γ M k := fun Hi H σ ok en D q => ⟨_, ps_pass, q.nx Γ M σ Hi H h (Same.refl _) ok en⟩
theorem as_break (h : k.bk Γ M) : aS X (.Break pos) Γ M k := fun Hi H σ ok en D q => ⟨_, ps_break, q.bk Γ M σ Hi H h (Same.refl _) ok en⟩
theorem as_continue (h : k.ct Γ M) : aS X (.Continue pos) Γ M k := fun Hi H σ ok en D q => ⟨_, ps_continue, q.ct Γ M σ Hi H h (Same.refl _) ok en⟩
theorem as_if {s1 s2 : List Stmt} (h : aT X c Γ M fun b M' => (b = true → aSs X s1 Γ M' k) ∧ (b = false → aSs X s2 Γ M' k)) : aS X (.If c s1 s2 pos) Γ M k := fun Hi H σ ok en D q => by
  refine ⟨_, ps_if pt_wt pss_wb pss_wb, ?_⟩
  refine h Hi H σ ok en _ fun x M1 Hi1 H1 h1 s1 ok1 => ?_
  cases x with
  | true => exact iteT (h1.1 rfl Hi1 H1 σ ok1 (en.mono s1) D (q.up s1))
  | false => exact iteF (h1.2 rfl Hi1 H1 σ ok1 (en.mono s1) D (q.up s1))
theorem as_ifd {s1 s2 : List Stmt} {p : Prop} [Decidable p] (hc : aB X c Γ M (decide p)) (h1 : p → aSs X s1 Γ M k) (h2 : ¬ p → aSs X s2 Γ M k) : aS X (.If c s1 s2 pos) Γ M k :=
  as_if (hc.val ⟨fun z => h1 (of_decide_eq_true z), fun z => h2 (of_decide_eq_false z)⟩)
theorem as_ift {s1 s2 : List Stmt} (hc : aB X c Γ M true) (h1 : aSs X s1 Γ M k) : aS X (.If c s1 s2 pos) Γ M k := as_if (hc.val ⟨fun _ => h1, fun z => nomatch z⟩)
theorem as_iff {s1 s2 : List Stmt} (hc : aB X c Γ M false) (h2 : aSs X s2 Γ M k) : aS X (.If c s1 s2 pos) Γ M k := as_if (hc.val ⟨(fun z => nomatch z), fun _ => h2⟩)

/-! ### targets -/
def WG (X : Cx) (tg : Expr) : TG := fun v σ H Q => ∃ t, PG X tg t ∧ t v σ H Q
theorem pg_wg : PG X e (WG X e) := ⟨fun pins s σ H v u Q I r ⟨t, p, h⟩ => p.run pins s σ H v u Q I r h⟩
def aG (X : Cx) (tg : Expr) (d : Val) (Γ : Gam) (M : Mem) (R : Gam → Mem → Prop) : Prop := ∀ Hi H σ v, Ok X.K Hi M H → EnvR X.K Hi Γ σ → Rep X.K Hi d v → ∀ Q : L2.St → Hp → Prop, (∀ Γ' M' σ' Hi' H', R Γ' M' → Same Hi Hi' → Ok X.K Hi' M' H' → EnvR X.K Hi' Γ' σ' → Q σ' H') → WG X tg v σ H Q
theorem ag_name {R : Gam → Mem → Prop} (n : Nat) (hN : X.N.Nodup) (h : R (Γ.set n (some d)) M) (hi : X.N[n]? = some x := by rfl) (hx : Loc X.env.scope x := by first | exact Or.inl rfl | exact Or.inr rfl) (hf : X.fn x = true ∨ X.env.scope.names.lookup x = some .local := by first | exact .inl rfl | exact .inr rfl | assumption) :
    aG X (.Name x pos) d Γ M R := fun Hi H σ v ok en r Q q => ⟨_, pg_name hN hi hx hf, q _ _ _ Hi H h (Same.refl _) ok (en.set r)⟩
def aGs (X : Cx) (tgs : List Expr) (ds : List Val) (Γ : Gam) (M : Mem) (R : Gam → Mem → Prop) : Prop := ∀ Hi H σ vs, Ok X.K Hi M H → EnvR X.K Hi Γ σ → RepA X.K Hi ds vs → ∀ Q : L2.St → Hp → Prop, (∀ Γ' M' σ' Hi' H', R Γ' M' → Same Hi Hi' → Ok X.K Hi' M' H' → EnvR X.K Hi' Γ' σ' → Q σ' H') → ∃ t, PGs X tgs t ∧ t vs σ H Q
def WGs (X : Cx) (tgs : List Expr) : TGs := fun v σ H Q => ∃ t, PGs X tgs t ∧ t v σ H Q
theorem pgs_wgs : PGs X es (WGs X es) := ⟨fun pins s σ H v u Q I r ⟨t, p, h⟩ => p.run pins s σ H v u Q I r h⟩
theorem ags_nil {R : Gam → Mem → Prop} (h : R Γ M) : aGs X [] [] Γ M R := fun Hi H σ vs ok en r Q q => by
  cases r
  exact ⟨_, pgs_nil, rfl, q _ _ _ Hi H h (Same.refl _) ok en⟩
theorem ags_cons {R : Gam → Mem → Prop} {ds : List Val} (h : aG X e d Γ M fun Γ' M' => aGs X es ds Γ' M' R) (hs : (assignEach (e :: es) X.env).map (·.2) = assign e X.env :: (assignEach es X.env).map (·.2) := by rfl) : aGs X (e :: es) (d :: ds) Γ M R := fun Hi H σ vs ok en r Q q => by
  cases r with
  | cons r1 r2 =>
    refine ⟨_, pgs_cons pg_wg pgs_wgs hs, _, _, rfl, ?_⟩
    refine h Hi H σ _ ok en r1 _ fun Γ' M' σ' Hi' H' h1 s1 ok1 en1 => ?_
    exact h1 Hi' H' σ' _ ok1 en1 (r2.mono s1) Q fun Γ2 M2 σ2 Hi2 H2 h2 s2 ok2 en2 => q _ _ _ Hi2 H2 h2 (s1.trans s2) ok2 en2
theorem ag_tup {kk : Nat} {R : Gam → Mem → Prop} {ds : List Val} (hc : X.calm = true) (h : aGs X es ds Γ M R) (hl : (assignEach es X.env).length = ds.length := by rfl) (hst : (assignEach es X.env).findIdx? (·.1) = none := by rfl) : aG X (.Tuple es kk pos) (.tup ds) Γ M R := fun Hi H σ v ok en r Q q => by
  cases r with
  | tup hq ra => exact ⟨_, pg_tup hc pgs_wgs rfl hst, _, _, rfl, sameT ok.im hq, ra.length.symm.trans hl.symm, h Hi H σ _ ok en ra Q q⟩
theorem as_asg {tg : Expr} (he : aE X e Γ M fun d M' => aG X tg d Γ M' k.nx) (hs : swapsWithSole [tg] e pos.line X.env = pure false := by rfl) (hw : swappedStores [tg] e X.env = pure none := by rfl) (h1 : (assignEach [tg] X.env).map (·.2) = [assign tg X.env] := by rfl) : aS X (.Assign [tg] e pos) Γ M k := fun Hi H σ ok en D q => by
  refine ⟨_, ps_asg pe_we pg_wg hs hw h1, ?_⟩
  refine he Hi H σ ok en _ fun x M1 v Hi1 H1 h1 s1 ok1 r1 => ?_
  exact h1 Hi1 H1 σ v ok1 (en.mono s1) r1 _ fun Γ2 M2 σ2 Hi2 H2 h2 s2 ok2 en2 => q.nx _ _ _ Hi2 H2 h2 (s1.trans s2) ok2 en2
theorem as_set {ps : Pos} (n : Nat) (hN : X.N.Nodup) (he : aE X e Γ M fun d M' => k.nx (Γ.set n (some d)) M') (hi : X.N[n]? = some x := by rfl) (hx : Loc X.env.scope x := by first | exact Or.inl rfl | exact Or.inr rfl)
    (hs : swapsWith e (some (.Name x ps)) pos.line X.env = pure false := by rfl) (hf : X.fn x = true ∨ X.env.scope.names.lookup x = some .local := by first | exact .inl rfl | exact .inr rfl | assumption) : aS X (.Assign [.Name x ps] e pos) Γ M k := fun Hi H σ ok en D q => by
  refine ⟨_, ps_set hN hi hx pe_we hs hf, ?_⟩
  exact he Hi H σ ok en _ fun x M1 v Hi1 H1 h1 s1 ok1 r1 => q.nx _ _ _ Hi1 H1 h1 s1 ok1 ((en.mono s1).set r1)
/-- a, b = e1, e2 -/
theorem as_par {px py pt : Pos} {kt k2 pt2} (n m : Nat) (hN : X.N.Nodup) (hc : X.calm = true) (hnm : n ≠ m) (he : aA X [a, b] Γ M fun ds M' => ∃ d1 d2, ds = [d1, d2] ∧ k.nx ((Γ.set n (some d1)).set m (some d2)) M')
    (hi : X.N[n]? = some x := by rfl) (hj : X.N[m]? = some y := by rfl) (hx : X.env.scope.names.lookup x = some .local := by rfl) (hy : X.env.scope.names.lookup y = some .local := by rfl)
    (hw : swappedStores [.Tuple [.Name x px, .Name y py] kt pt] (.Tuple [a, b] k2 pt2) X.env = pure (some [x, y]) := by rfl)
    (hs : swapsWithSole [.Tuple [.Name x px, .Name y py] kt pt] (.Tuple [a, b] k2 pt2) pos.line X.env = pure false := by rfl) : aS X (.Assign [.Tuple [.Name x px, .Name y py] kt pt] (.Tuple [a, b] k2 pt2) pos) Γ M k := fun Hi H σ ok en D q => by
  refine ⟨_, ps_par hc hN hi hj hnm hx hy pa_wa hw hs, ?_⟩
  refine he Hi H σ ok en _ fun ds M1 vs Hi1 H1 h1 s1 ok1 r1 => ?_
  obtain ⟨d1, d2, rfl, h2⟩ := h1
  cases r1 with
  | cons r1 r2 =>
    cases r2 with
    | cons r2 r3 =>
      cases r3
      exact ⟨_, _, rfl, q.nx _ _ _ Hi1 H1 h2 s1 ok1 (((en.mono s1).set r1).set r2)⟩
/-- x += e, whole numbers -/
theorem as_augI {op : Operator} {g : Int → Int → Int} {ps : Pos} (n : Nat) (hN : X.N.Nodup) (ho : PIp X op (ipI g)) (hΓ : Γ[n]? = some (some (.int i))) (he : aE X e Γ M fun d M' => ∃ j, d = .int j ∧ k.nx (Γ.set n (some (.int (g i j)))) M') (hi : X.N[n]? = some x := by rfl) (hx : Loc X.env.scope x := by first | exact Or.inl rfl | exact Or.inr rfl)
    (hf : X.fn x = true ∨ X.env.scope.names.lookup x = some .local := by first | exact .inl rfl | exact .inr rfl | assumption) : aS X (.AugAssign (.Name x ps) op e pos) Γ M k := fun Hi H σ ok en D q => by
  refine ⟨_, ps_aug hN hi hx pe_we ho hf, ?_⟩
  obtain ⟨v, hv, rv⟩ := en.2 n _ hΓ
  cases rv
  refine ⟨_, hv, ?_⟩
  refine he Hi H σ ok en _ fun x M1 v Hi1 H1 h1 s1 ok1 r1 => ?_
  obtain ⟨j, rfl, h2⟩ := h1
  cases r1
  exact ⟨i, j, rfl, rfl, q.nx _ _ _ Hi1 H1 h2 s1 ok1 ((en.mono s1).set (.int _))⟩
/-- xs[i] = e -/
theorem ag_sub {n : Nat} {p : Addr} {xs : List Val} {jj : Nat} {R : Gam → Mem → Prop} (ha : aV X a Γ M (.ptr p)) (hb : aV X b Γ M (.int i)) (hm : M[n]? = some (p, .lst xs)) (hj : ixN xs.length i = some jj) (h : R Γ (M.set n (p, .lst (xs.set jj d))))
    (hsl : ∀ v, assign (.Subscript a b pos) X.env v = (do
      let ov ← holding [v] (eval a X.env)
      let iv ← holding [v, ov] (eval b X.env)
      standAt pos
      holding [v, ov, iv] (setItem ov iv v)
      release [v, ov, iv] []) := by intro _; rfl) : aG X (.Subscript a b pos) d Γ M R := fun Hi H σ v ok en r Q q => by
  refine ⟨_, pg_sub pe_we pe_we set_list hsl, ?_⟩
  refine ha Hi H σ ok en _ fun x M1 v1 Hi1 H1 h1 s1 ok1 r1 => ?_
  obtain ⟨rfl, rfl⟩ := h1
  refine hb Hi1 H1 σ ok1 (en.mono s1) _ fun y M2 w Hi2 H2 h2 s2 ok2 r2 => ?_
  obtain ⟨rfl, rfl⟩ := h2
  cases r1
  cases r2
  obtain ⟨_, o, ho, ys, rfl, ra⟩ := ok2.get hm
  have s12 := s1.trans s2
  exact ⟨p, ys, i, jj, rfl, rfl, ho, by rw [← ra.length]; exact hj, q _ _ _ Hi2 _ h s12 (ok2.set hm ⟨_, rfl, ra.set (r.mono s12) jj⟩) (en.mono s12)⟩

/-! ### fields stored -/
theorem as_fld {C : Addr} {ps : Pos} (c : Cls X.K C) (na : NoAttr X.K C f) (he : aE X e Γ M fun d M' => aE X a Γ M' fun o M2 => ∃ n p fs, o = .ptr p ∧ M2[n]? = some (p, .ins C fs) ∧ fs.length < 1000 ∧ k.nx Γ (M2.set n (p, .ins C (putV f d fs))))
    (hs : swapsWith e (some (.Attribute a f ps)) pos.line X.env = pure false := by rfl) : aS X (.Assign [.Attribute a f ps] e pos) Γ M k := fun Hi H σ ok en D q => by
  refine ⟨_, ps_fld pe_we pe_we hs, ?_⟩
  refine he Hi H σ ok en _ fun d M1 v Hi1 H1 h1 s1 ok1 r1 => ?_
  refine h1 Hi1 H1 σ ok1 (en.mono s1) _ fun o M2 w Hi2 H2 h2 s2 ok2 r2 => ?_
  obtain ⟨n, p, fs, rfl, hm, hl, hk⟩ := h2
  cases r2
  obtain ⟨_, o, ho, dx, gs, rfl, rf⟩ := ok2.get hm
  refine ⟨p, C, dx, gs, rfl, ho, c, na, by rw [← rf.length]; exact hl, ?_⟩
  have s12 := s1.trans s2
  exact q.nx _ _ σ Hi2 _ hk s12 (ok2.set hm ⟨dx, _, rfl, rf.put (r1.mono s2)⟩) (en.mono s12)

/-! ### append -/
theorem ae_append {n0 : Nat} {p : Addr} {xs0 : List Val} (ha : aV X a Γ M (.ptr p)) (hm0 : M[n0]? = some (p, .lst xs0)) (he : aE X e Γ M fun y M2 => ∃ n xs, M2[n]? = some (p, .lst xs) ∧ xs.length < sizeLine ∧ P .non (M2.set n (p, .lst (xs ++ [y]))))
    (hbase : attributeBase a "append" X.env (eval a X.env) = eval a X.env := by rfl)
    (hfew : ((backTo pos (starEach [e] X.env)).all (fun x => !x.1) && (backToKw pos (keywordEach [] X.env)).all (fun x => x.1.isSome)
      && decide (([e] : List Expr).length + ([] : List Keyword).length + (if ([] : List Keyword).isEmpty then 0 else 1) < 30)) = true := by rfl)
    (hline : (apos.endLine == pos.line) = true := by rfl) (hs : starEach [e] X.env = (false, eval e X.env) :: starEach [] X.env := by rfl) : aE X (.Call (.Attribute a "append" apos) [e] [] pos) Γ M P := fun Hi H σ ok en Q q => by
  refine ⟨_, pe_bm PySem.F.plainAttrs_list PySem.F.slot_list_append PySem.F.type_list_append mt_append pe_we (pa_cons pe_we pa_nil hs) hbase hfew hline hs rfl, ?_⟩
  refine ha Hi H σ ok en _ fun d M1 v Hi1 H1 h1 s1 ok1 r1 => ?_
  obtain ⟨rfl, rfl⟩ := h1
  cases r1
  obtain ⟨_, o, ho, ys, rfl, ra⟩ := ok1.get hm0
  refine ⟨.inl ⟨rfl, _, SqL.of ho⟩, ?_⟩
  refine he Hi1 H1 σ ok1 (en.mono s1) _ fun y M2 w Hi2 H2 h2 s2 ok2 r2 => ?_
  obtain ⟨n, xs, hm, hl, hp⟩ := h2
  obtain ⟨_, o, ho2, zs, rfl, rz⟩ := ok2.get hm
  exact ⟨p, zs, w, rfl, rfl, ho2, by rw [← rz.length]; exact hl, q _ _ _ Hi2 _ hp (s1.trans s2) (ok2.set hm ⟨_, rfl, rz.append (.cons r2 .nil)⟩) .non⟩

/-! ### loops -/
def WI (X : Cx) (tg iter : Expr) : TI := fun σ H R => ∃ t, PI X tg iter t ∧ t σ H R
theorem pi_wi {tg iter : Expr} : PI X tg iter (WI X tg iter) := ⟨fun pins s σ H R I ⟨t, p, h⟩ => p.run pins s σ H R I h⟩
/-- n turns, the i-th gives it i; while G holds of the cells -/
def aI (X : Cx) (tg iter : Expr) (Γ : Gam) (M : Mem) (n : Nat) (it : Nat → Val) (G : Mem → Prop) (P : Mem → Prop) : Prop := ∀ Hi H σ, Ok X.K Hi M H → EnvR X.K Hi Γ σ → ∀ R : It → Hp → Prop,
  (∀ J M1 Hi1 H1, P M1 → Same Hi Hi1 → Ok X.K Hi1 M1 H1 →
    Walk J n (fun H' => ∃ Hi' M', Same Hi1 Hi' ∧ Ok X.K Hi' M' H' ∧ G M') (fun i H' v H'' => ∀ Hi' M', Same Hi1 Hi' → Ok X.K Hi' M' H' → G M' → ∃ Hi'', Same Hi' Hi'' ∧ Ok X.K Hi'' M' H'' ∧ Rep X.K Hi'' (it i) v) → R J H1) → WI X tg iter σ H R
theorem as_for {tg iter : Expr} {body : List Stmt} {n : Nat} {it : Nat → Val} {G : Mem → Prop} (I : Nat → Gam → Mem → Prop) (hp : PassesOwn (model X.prog X.w) X.A X.env X.xe) (hc : X.calm = true) (hi : aI X tg iter Γ M n it G (I 0 Γ)) (hG : ∀ i Γ M, i ≤ n → I i Γ M → G M)
    (hs : ∀ i Γ M, i < n → I i Γ M → aG X tg (it i) Γ M fun Γ2 M2 => aSs X body Γ2 M2 { k with nx := I (i + 1), ct := I (i + 1), bk := k.nx }) (hd : ∀ Γ M, I n Γ M → k.nx Γ M)
    (hf : ∀ x, foldedSetIterable iter X.env x = pure x := by intro _; rfl) : aS X (.For tg iter body [] pos) Γ M k := fun Hi H σ ok en D q => by
  refine ⟨_, ps_for hp hc pi_wi pg_wg pss_wb hf, ?_⟩
  refine hi Hi H σ ok en _ fun J M1 Hi1 H1 h1 s1 ok1 w => ?_
  refine for_it w (fun i σ' H' => ∃ Γ' M' Hi', I i Γ' M' ∧ Same Hi1 Hi' ∧ Ok X.K Hi' M' H' ∧ EnvR X.K Hi' Γ' σ') ⟨Γ, M1, Hi1, h1, Same.refl _, ok1, en.mono s1⟩ ?_ ?_ ?_
  · rintro i σ' H' hi ⟨Γ', M', Hi', h2, s2, ok2, en2⟩
    exact ⟨Hi', M', s2, ok2, hG i Γ' M' hi h2⟩
  · rintro i v σ' H' H'' hi ⟨Γ', M', Hi', h2, s2, ok2, en2⟩ hy
    obtain ⟨Hi3, s3, ok3, r3⟩ := hy Hi' M' s2 ok2 (hG i Γ' M' (Nat.le_of_lt hi) h2)
    have s13 := (s1.trans s2).trans s3
    refine hs i Γ' M' hi h2 Hi3 H'' σ' v ok3 (en2.mono s3) r3 _ fun Γ4 M4 σ4 Hi4 H4 h4 s4 ok4 en4 => ?_
    have s24 := (s2.trans s3).trans s4
    exact h4 Hi4 H4 σ4 ok4 en4 _ ⟨fun Γ5 M5 σ5 Hi5 H5 h5 s5 ok5 en5 => ⟨Γ5, M5, Hi5, h5, s24.trans s5, ok5, en5⟩, (q.up (s13.trans s4)).rt, (q.up (s13.trans s4)).nx, fun Γ5 M5 σ5 Hi5 H5 h5 s5 ok5 en5 => ⟨Γ5, M5, Hi5, h5, s24.trans s5, ok5, en5⟩⟩
  · rintro σ' H' ⟨Γ', M', Hi', h2, s2, ok2, en2⟩
    exact q.nx Γ' M' σ' Hi' H' (hd Γ' M' h2) (s1.trans s2) ok2 en2
theorem as_while {body : List Stmt} (I : Nat → Gam → Mem → Prop) (n : Nat) (hp : PassesOwn (model X.prog X.w) X.A X.env X.xe) (h0 : I n Γ M)
    (hs : ∀ n Γ M, I n Γ M → aT X c Γ M fun b M1 => (b = true → aSs X body Γ M1 { k with nx := fun Γ' M' => ∃ m, m < n ∧ I m Γ' M', ct := fun Γ' M' => ∃ m, m < n ∧ I m Γ' M', bk := k.nx }) ∧ (b = false → k.nx Γ M1)) : aS X (.While c body [] pos) Γ M k := fun Hi H σ ok en D q => by
  refine ⟨_, ps_while hp pt_wt pss_wb, ?_⟩
  refine ⟨fun m σ' H' => ∃ Γ' M' Hi', I m Γ' M' ∧ Same Hi Hi' ∧ Ok X.K Hi' M' H' ∧ EnvR X.K Hi' Γ' σ', ⟨n, Γ, M, Hi, h0, Same.refl _, ok, en⟩, ?_⟩
  rintro m σ' H' ⟨Γ', M', Hi', h2, s2, ok2, en2⟩
  refine hs m Γ' M' h2 Hi' H' σ' ok2 en2 _ fun b M3 Hi3 H3 h3 s3 ok3 => ?_
  cases b with
  | true =>
    refine iteT ⟨fun σ5 H5 => ∃ Γ5 M5 Hi5, (∃ m', m' < m ∧ I m' Γ5 M5) ∧ Same Hi3 Hi5 ∧ Ok X.K Hi5 M5 H5 ∧ EnvR X.K Hi5 Γ5 σ5, ?_, ?_⟩
    · rintro σ5 H5 ⟨Γ5, M5, Hi5, ⟨m', hl, h5⟩, s5, ok5, en5⟩
      exact ⟨m', hl, Γ5, M5, Hi5, h5, (s2.trans s3).trans s5, ok5, en5⟩
    · have q3 := q.up (s2.trans s3)
      exact h3.1 rfl Hi3 H3 σ' ok3 (en2.mono s3) _ ⟨fun Γ5 M5 σ5 Hi5 H5 h5 s5 ok5 en5 => ⟨Γ5, M5, Hi5, h5, s5, ok5, en5⟩, q3.rt, q3.nx, fun Γ5 M5 σ5 Hi5 H5 h5 s5 ok5 en5 => ⟨Γ5, M5, Hi5, h5, s5, ok5, en5⟩⟩
  | false => exact iteF (q.nx Γ' M3 σ' Hi3 H3 (h3.2 rfl) (s2.trans s3) ok3 (en2.mono s3))

/-! ### what is walked -/
theorem Sq.at {K : PySem.W.Frag} {H : Hp} {ds : List Val} {vs : List V} {i : Nat} {v : V} (r : RepA K H ds vs) (h : vs[i]? = some v) : Rep K H (ds.getD i .non) v := by
  obtain ⟨d, h1, h2⟩ := r.getV h
  rw [List.getD_eq_getElem?_getD, h1]
  exact h2
theorem ai_lst {tg : Expr} {R : Mem → Prop} {xs : List Val} (ha : aE X a Γ M fun d M' => d = .lst xs ∧ R M') : aI X tg a Γ M xs.length (fun i => xs.getD i .non) (fun _ => True) R := fun Hi H σ ok en R' q => by
  refine ⟨_, pi_list pe_we, ?_⟩
  refine ha Hi H σ ok en _ fun d M1 v Hi1 H1 h1 s1 ok1 r1 => ?_
  obtain ⟨rfl, hp⟩ := h1
  cases r1 with
  | @lst p ys _ hq ra =>
    refine ⟨p, rfl, ⟨ys, ok1.im.seq hq⟩, q _ M1 Hi1 H1 hp s1 ok1 ?_⟩
    rw [ra.length]
    refine walk_list.mono (fun H' hG => ?_) fun i H' v H'' hi hG hy Hi' M' s2 ok2 _ => ?_
    · obtain ⟨Hi', M', s2, ok2, _⟩ := hG
      exact ok2.im.seq (s2.seq hq)
    · obtain ⟨rfl, hv⟩ := hy
      exact ⟨Hi', Same.refl _, ok2, (Sq.at ra hv).mono s2⟩
theorem ai_tup {tg : Expr} {R : Mem → Prop} {xs : List Val} (ha : aE X a Γ M fun d M' => d = .tup xs ∧ R M') : aI X tg a Γ M xs.length (fun i => xs.getD i .non) (fun _ => True) R := fun Hi H σ ok en R' q => by
  refine ⟨_, pi_tup pe_we, ?_⟩
  refine ha Hi H σ ok en _ fun d M1 v Hi1 H1 h1 s1 ok1 r1 => ?_
  obtain ⟨rfl, hp⟩ := h1
  cases r1 with
  | @tup p ys _ hq ra =>
    refine ⟨p, rfl, ⟨ys, sameT ok1.im hq⟩, q _ M1 Hi1 H1 hp s1 ok1 ?_⟩
    rw [ra.length]
    refine walk_tup.mono (fun H' hG => ?_) fun i H' v H'' hi hG hy Hi' M' s2 ok2 _ => ?_
    · obtain ⟨Hi', M', s2, ok2, _⟩ := hG
      exact sameT ok2.im (sameT s2 hq)
    · obtain ⟨rfl, hv⟩ := hy
      exact ⟨Hi', Same.refl _, ok2, (Sq.at ra hv).mono s2⟩
theorem ai_range1 {tg : Expr} {R : Mem → Prop} {n : Nat} (hm : X.mg "range" = none) (ha : aE X a Γ M fun d M' => ∃ j : Int, d = .int j ∧ j.toNat = n ∧ -(2 ^ 62) ≤ j ∧ j < 2 ^ 62 ∧ R M') (hg : Gl X "range" := by rfl) (hs : starEach [a] X.env = [(false, eval a X.env)] := by rfl) :
    aI X tg (.Call (.Name "range" p1) [a] [] pos) Γ M n (fun i => .int (0 + i)) (fun _ => True) R := fun Hi H σ ok en R' q => by
  refine ⟨_, pi_range1 hg hm (pa_cons pe_we pa_nil hs) hs, ?_⟩
  refine ha Hi H σ ok en _ fun d M1 v Hi1 H1 h1 s1 ok1 r1 => ?_
  obtain ⟨j, rfl, rfl, hl, hh, hp⟩ := h1
  cases r1
  refine ⟨j, rfl, hl, hh, q _ M1 Hi1 H1 hp s1 ok1 ?_⟩
  refine walk_range.mono (fun _ _ => trivial) fun i H' v H'' hi hG hy Hi' M' s2 ok2 _ => ?_
  obtain ⟨rfl, rfl⟩ := hy
  exact ⟨Hi', Same.refl _, ok2, .int _⟩
theorem ai_range2 {tg : Expr} {R : Mem → Prop} {n : Nat} {lo : Int} (hm : X.mg "range" = none) (ha : aA X [a, b] Γ M fun ds M' => ∃ hi : Int, ds = [.int lo, .int hi] ∧ (hi - lo).toNat = n ∧ (-(2 ^ 62) ≤ lo ∧ lo < 2 ^ 62 ∧ -(2 ^ 62) ≤ hi ∧ hi < 2 ^ 62) ∧ R M') (hg : Gl X "range" := by rfl)
    (hs : starEach [a, b] X.env = [(false, eval a X.env), (false, eval b X.env)] := by rfl) (hs2 : starEach [b] X.env = [(false, eval b X.env)] := by rfl) :
    aI X tg (.Call (.Name "range" p1) [a, b] [] pos) Γ M n (fun i => .int (lo + i)) (fun _ => True) R := fun Hi H σ ok en R' q => by
  refine ⟨_, pi_range2 hg hm pa_wa hs hs2, ?_⟩
  refine ha Hi H σ ok en _ fun d M1 v Hi1 H1 h1 s1 ok1 r1 => ?_
  obtain ⟨hi, rfl, rfl, hb, hp⟩ := h1
  cases r1 with
  | cons r1 r2 =>
    cases r2 with
    | cons r2 r3 =>
      cases r3
      cases r1
      cases r2
      refine ⟨lo, hi, rfl, hb, q _ M1 Hi1 H1 hp s1 ok1 ?_⟩
      refine walk_range.mono (fun _ _ => trivial) fun i H' v H'' hi hG hy Hi' M' s2 ok2 _ => ?_
      obtain ⟨rfl, rfl⟩ := hy
      exact ⟨Hi', Same.refl _, ok2, .int _⟩
theorem ai_enumL {elts : List Expr} {kk : Nat} {tpos : Pos} {R : Mem → Prop} {xs : List Val} (hm : X.mg "enumerate" = none) (ha : aE X a Γ M fun d M' => d = .lst xs ∧ R M') (hg : Gl X "enumerate" := by rfl) (hs : starEach [a] X.env = [(false, eval a X.env)] := by rfl) :
    aI X (.Tuple elts kk tpos) (.Call (.Name "enumerate" p1) [a] [] pos) Γ M xs.length (fun i => .tup [.int i, xs.getD i .non]) (fun _ => True) R := fun Hi H σ ok en R' q => by
  refine ⟨_, pi_enum hg hm (pa_cons pe_we pa_nil hs) hs, ?_⟩
  refine ha Hi H σ ok en _ fun d M1 v Hi1 H1 h1 s1 ok1 r1 => ?_
  obtain ⟨rfl, hp⟩ := h1
  cases r1 with
  | @lst p ys _ hq ra =>
    refine ⟨p, ys, rfl, ok1.im.seq hq, q _ M1 Hi1 H1 hp s1 ok1 ?_⟩
    rw [ra.length]
    refine walk_enum.mono (fun H' hG => ?_) fun i H' v H'' hi hG hy Hi' M' s2 ok2 _ => ?_
    · obtain ⟨Hi', M', s2, ok2, _⟩ := hG
      exact ok2.im.seq (s2.seq hq)
    · obtain ⟨T, x, y, rfl, hT, rfl, hx, hy⟩ := hy
      cases hx
      have s3 := same_upd (o := .tup [.int (i : Nat), y]) (ok2.none hT)
      exact ⟨_, s3, ok2.imm hT, .tup (SqT.of upd_same) (.cons (.int _) (.cons ((Sq.at ra hy).mono (s2.trans s3)) .nil))⟩
end
end Ab

namespace Ab
open PySem PySem.Spec PyProof.Rows L2

/-! ### promises -/
/-- positional arguments, cells, what follows -/
abbrev ASp := List Val → Mem → (Val → Mem → Prop) → Prop
/-- .. and the keywords' values -/
abbrev ASx := List Val → List Val → Mem → (Val → Mem → Prop) → Prop
def spA (K : PySem.W.Frag) (s : ASp) : Sp := fun vs H Q _ => ∃ Hi M ds P, RepA K Hi ds vs ∧ Ok K Hi M H ∧ s ds M P ∧ Post K Hi P Q
def spX (K : PySem.W.Frag) (s : ASx) (vs zs : List V) (H : Hp) (Q : VK) : Prop := ∃ Hi M ds es P, RepA K Hi ds vs ∧ RepA K Hi es zs ∧ Ok K Hi M H ∧ s ds es M P ∧ Post K Hi P Q
/-- the end of a def: cells of its own are forgotten, or will change no more -/
inductive Ret (P : Val → Mem → Prop) : Val → Mem → Prop
  | ok {d : Val} {M : Mem} : P d M → Ret P d M
  | drop {d : Val} {M : Mem} {c : Addr × Cell} : Ret P d M → Ret P d (c :: M)
  | frz {p : Addr} {xs : List Val} {M : Mem} : Ret P (.lst xs) M → Ret P (.ptr p) ((p, .lst xs) :: M)
  | obj {p C : Addr} {fs : List (Str × Val)} {M : Mem} : Ret P (.obj C fs) M → Ret P (.ptr p) ((p, .ins C fs) :: M)
  | tr {d : Val} {M M' : Mem} : (∀ K Hi H, Ok K Hi M H → Ok K Hi M' H) → Ret P d M' → Ret P d M
theorem Ret.post {K : PySem.W.Frag} {P : Val → Mem → Prop} {Q : VK} {d : Val} {M : Mem} (h : Ret P d M) : ∀ {Hi Hi' H' : Hp} {v : V}, Post K Hi P Q → Same Hi Hi' → Ok K Hi' M H' → Rep K Hi' d v → Q v H' := by
  induction h with
  | ok hp => exact fun q s ok r => q _ _ _ _ _ hp s ok r
  | drop _ ih => exact fun q s ok r => ih q s (Ok.tail ok) r
  | tr t _ ih => exact fun q s ok r => ih q s (t _ _ _ ok) r
  | frz _ ih =>
    intro Hi Hi' H' v q s ok r
    obtain ⟨e0, o, ho, vs, rfl, ra⟩ := ok.ce _ _ List.mem_cons_self
    cases r
    have s2 := same_upd (o := .lst vs) e0
    exact ih q (s.trans s2) (ok.freeze ho) (.lst (SqL.of upd_same) (ra.mono s2))
  | @obj p C fs M _ ih =>
    intro Hi Hi' H' v q s ok r
    obtain ⟨e0, o, ho, dx, gs, rfl, ra⟩ := ok.ce _ _ List.mem_cons_self
    cases r
    have s2 := same_upd (o := .ins C dx gs) e0
    exact ih q (s.trans s2) (ok.freeze ho) (.obj upd_same (ra.mono s2))

/-- the slots at a def's entry -/
def gam (N : List Str) (ds : List Val) : Gam := ds.map some ++ List.replicate (N.length - ds.length) none
theorem env_start {K : PySem.W.Frag} {H : Hp} {N : List Str} {ds : List Val} {vs : List V} (r : RepA K H ds vs) : EnvR K H (gam N ds) (L2.start N vs) := by
  refine ⟨by simp [gam, L2.start, r.length], fun i d h => ?_⟩
  unfold gam at h
  unfold L2.start
  by_cases hi : i < ds.length
  · rw [List.getElem?_append_left (by simpa using hi), List.getElem?_map] at h
    obtain ⟨d', h1, h2⟩ := Option.map_eq_some_iff.mp h
    cases h2
    obtain ⟨v, h3, h4⟩ := r.get h1
    refine ⟨v, ?_, h4⟩
    rw [List.getElem?_append_left (by rw [List.length_map, ← r.length]; exact hi), List.getElem?_map, h3]
    rfl
  · rw [List.getElem?_append_right (by simpa using Nat.le_of_not_lt hi)] at h
    have := List.mem_of_getElem? h
    rw [List.mem_replicate] at this
    cases this.2
abbrev kOf (P : Val → Mem → Prop) : AK := { nx := fun _ M => Ret P .non M, rt := Ret P }
/-- the context of a def's body -/
abbrev bcx (P : Program) (w : World) (K : PySem.W.Frag) (mg : Str → Option Value) (base : Heap) (N : List Str) (qual : Str) (sc : Scope) (f : Addr) (cdv : Value) (A : Around) (outer : List Env) (s : Shared) (H : Hp) (E : XK) : Cx := (cxOf CX0 P w K mg base N qual sc f cdv A outer s H E).nox
/-- room for k calls, nothing guarded -/
structure Rm (k : Nat) (A : Around) : Prop where
  room : Room k A
  gd : A.guards = some []
theorem Rm.mono {j k : Nat} {A : Around} (r : Rm k A) (h : j ≤ k) : Rm j A := ⟨r.room.mono h, r.gd⟩
theorem Rm.deeper {k : Nat} {A : Around} (r : Rm (k + 1) A) (env : Env) : Rm k (A.deeper env) := ⟨r.room.deeper env, r.gd⟩
theorem Rm.in1 {k : Nat} {A : Around} (r : Rm (k + 1) A) : Rm k A.in1 := ⟨r.room.in1, r.gd⟩
theorem Rm.make {k : Nat} {A : Around} (r : Rm (k + 1) A) (C : Addr) (us : List Value) (kw : List (Str × Value)) : Rm k (A.under (.builtin "type.__call__" ⟨.ref C :: us, kw⟩)) := ⟨r.room.make C us kw, by
  show pushGuards (Code.builtin "type.__call__" ⟨.ref C :: us, kw⟩).guards A.guards = some []
  rw [r.gd]
  first | rfl | simp [Code.guards, pushGuards]⟩
theorem Rm.u1 {k : Nat} {A : Around} (r : Rm k A) : A.units + 1 < cLine := hu_of r.room
theorem Rm.u64 {k : Nat} {A : Around} (r : Rm k A) : A.units + 64 < cLine := Nat.lt_of_le_of_lt (by omega) r.room.un
section
variable {P : Program} {w : World} {K : PySem.W.Frag} {mg : Str → Option Value} {base : Heap}
theorem body_of {N : List Str} {qual : Str} {sc : Scope} {f : Addr} {cdv : Value} {A : Around} {outer : List Env} {s : Shared} {H : Hp} {E : XK} {body : List Stmt} {s0 : ASp} {vs : List V} {Q : VK}
    (hb : ∀ ds M R, s0 ds M R → aSs (bcx P w K mg base N qual sc f cdv A outer s H E) body (gam N ds) M (kOf R)) (h : spA K s0 vs H Q E) :
    ∃ t, PSs (bcx P w K mg base N qual sc f cdv A outer s H E) body t ∧ t { nx := fun _ H' => Q .non H', rt := Q } (L2.start N vs) H := by
  obtain ⟨Hi, M, ds, R, r, ok, hs, q⟩ := h
  refine hb ds M R hs Hi H _ ok (env_start r) _ ⟨fun Γ M' σ Hi' H' h1 s1 ok1 _ => h1.post q s1 ok1 .non, fun d M' v Hi' H' h1 s1 ok1 r1 => h1.post q s1 ok1 r1, fun _ _ _ _ _ z => z.elim, fun _ _ _ _ _ z => z.elim⟩
/-- a def by its call: ks the keywords of the call -/
structure FnX (P : Program) (w : World) (K : PySem.W.Frag) (mg : Str → Option Value) (base : Heap) (k : Nat) (f : Addr) (ks : List Str) (sp : List V → List V → Hp → VK → Prop) : Prop where
  run : ∀ (A : Around) (outer : List Env) (s : Shared) (H : Hp) (us ws : List Value) (vs zs : List V) (Q : VK), Rm k A → Env0 P w K mg base A outer s H → Vals vs us → Vals zs ws → zs.length = ks.length → sp vs zs H Q →
    codeAny (model P w) A (.call (.ref f) ⟨us, ks.zip ws⟩) (CR CX0 outer P w H s Q E0) s
theorem FnX.mono {j k : Nat} {f : Addr} {ks : List Str} {sp : List V → List V → Hp → VK → Prop} (F : FnX P w K mg base j f ks sp) (h : j ≤ k) : FnX P w K mg base k f ks sp := ⟨fun A outer s H us ws vs zs Q hr => F.run A outer s H us ws vs zs Q (hr.mono h)⟩
/-- what a def's body must do, in every context in which it may be called -/
abbrev BodyOk (P : Program) (w : World) (K : PySem.W.Frag) (mg : Str → Option Value) (base : Heap) (k : Nat) (f : Addr) (N : List Str) (qual : Str) (sc : Scope) (body : List Stmt) (s0 : ASp) : Prop :=
  ∀ cdv A outer s H E, Rm k (A.deeper (envOfC qual sc s.heap.objs.size f cdv)) → ∀ ds M R, s0 ds M R → aSs (bcx P w K mg base N qual sc f cdv A outer s H E) body (gam N ds) M (kOf R)
theorem fnx_kbn {x qual : Str} {params : Arguments} {body : List Stmt} {sc : Scope} {dvs : List V} {kws : List (Str × V)} {f : Addr} {fd : FuncData} {N ps ks : List Str} {k n : Nat} {s0 : ASp} {g : List Value → List Value → List Value} {gV : List V → List V → List V} (gA : List Val → List Val → List Val)
    (F : FunD K x qual params body sc dvs kws f fd) (S : FnScope N ps sc) (b : KBn K fd ps n ks g gV)
    (hrel : ∀ H ds vs es zs, RepA K H ds vs → RepA K H es zs → ds.length = n → es.length = ks.length → RepA K H (gA ds es) (gV vs zs)) (len : ∀ ds M R, s0 ds M R → ds.length = ps.length)
    (hb : BodyOk P w K mg base k f N qual sc body s0) : FnX P w K mg base (k + 1) f ks (spX K fun ds es M R => ds.length = n ∧ s0 (gA ds es) M R) := by
  refine ⟨fun A outer s H us ws vs zs Q hr e0 r rz hz ⟨Hi, M, ds, es, R, ra, re, ok, ⟨hn, hs⟩, q⟩ => ?_⟩
  obtain ⟨oc, od, dV, kV, doc, pm, an, cdv, ct, osl, rfl, lk, hcd, _, _⟩ := F.ex
  have KX : K.In s.heap := e0.mod.kin.keeps fun b o e => (e0.bs b o e).1
  have hbt := b.to s us ws KX (by rw [← r.length, ← ra.length]; exact hn) (by rw [← rz.length]; exact hz)
  have rg := hrel Hi ds vs es zs ra re hn (re.length.trans hz)
  have hl : (gV vs zs).length = ps.length := rg.length.symm.trans (len _ _ _ hs)
  refine StX.run_bnd (CX := CX0) (E := E0) (G := fun vs' H2 => vs' = gV vs zs ∧ H2 = H) lk hcd S hr.room e0 (fun A' Ex Q' h => ?_) fun s2 H2 vs' hG hr' => ?_
  · exact hbt _ _ _ _ (h s H (gV vs zs) (g us ws) e0 Un.refl rfl (fun _ _ z => z) (b.rel r rz) hl ⟨rfl, rfl⟩)
  · obtain ⟨rfl, rfl⟩ := hG
    obtain ⟨t, p, z⟩ := body_of (hb cdv A outer s2 H2 E0 (hr.deeper _)) (Q := Q) (vs := gV vs zs) ⟨Hi, M, gA ds es, R, rg, ok, hs, q⟩
    exact ⟨t, p.nox, z⟩
theorem kbn_pos {fd : FuncData} {ps : List Str} (b : Binds K fd ps []) : KBn K fd ps ps.length [] (fun us _ => us) (fun vs _ => vs) := ⟨fun s us ws KX hl hw => by
  have h := b s us KX (by simpa using hl)
  rw [List.append_nil] at h
  have e : ws = [] := List.length_eq_zero_iff.mp hw
  subst e
  exact h, fun r _ => r⟩
theorem fun_d {x qual : Str} {st : Stmt} {f : Addr} {fd : FuncData} (F : Fun K x qual st f fd) : FunD K x qual (defArgs st) (defBody st) (defScope st) [] [] f fd := by
  obtain ⟨⟨oc, od, kV, doc, pm, an, cdv, ct, osl, rfl, lk, hcd⟩, kp⟩ := F
  exact ⟨⟨oc, od, .none, kV, doc, pm, an, cdv, ct, osl, rfl, lk, hcd, .inl ⟨rfl, rfl⟩, .inl rfl⟩, kp⟩
/-- a def without defaults, called by positions -/
theorem fnx_pos {x qual : Str} {st : Stmt} {f : Addr} {fd : FuncData} {N ps : List Str} {k : Nat} {s0 : ASp} (F : Fun K x qual st f fd) (b : Binds K fd ps []) (S : FnScope N ps (defScope st)) (len : ∀ ds M R, s0 ds M R → ds.length = ps.length)
    (hb : BodyOk P w K mg base k f N qual (defScope st) (defBody st) s0) : FnX P w K mg base (k + 1) f [] (spX K fun ds _ => s0 ds) := by
  have F1 := fnx_kbn (fun ds _ => ds) (fun_d F) S (kbn_pos b) (fun H ds vs es zs r _ _ _ => r) len hb
  exact ⟨fun A outer s H us ws vs zs Q hr e0 r rz hz ⟨Hi, M, ds, es, R, ra, re, ok, hs, q⟩ => F1.run A outer s H us ws vs zs Q hr e0 r rz hz ⟨Hi, M, ds, es, R, ra, re, ok, ⟨len _ _ _ hs, hs⟩, q⟩⟩
end

/-! ### calls -/
section
variable {X : Cx} {Γ : Gam} {M : Mem} {P : Val → Mem → Prop} {e a b c o : Expr} {es : List Expr} {kws : List Keyword} {pos p1 p2 apos kpos : Pos} {k : AK} {d d1 d2 d3 : Val} {i j : Int} {x y m : Str} {n : Nat} {f C : Addr} {ks : List Str} {sx : ASx} {nm : Option Str}
theorem run_x {pins : List (Addr × Obj)} {σ : L2.St} {H : Hp} {s : Shared} {Q : VK} {us ws : List Value} {vs zs : List V} {sp : List V → List V → Hp → VK → Prop} (F : FnX X.prog X.w X.K X.mg X.base n f ks sp) (hr : Rm n X.A)
    (I : Inv X pins σ H s) (r : Vals vs us) (rz : Vals zs ws) (l2 : zs.length = ks.length) (h : sp vs zs H Q) : wpAny (model X.prog X.w) X.A (call (.ref f) us (ks.zip ws)) (EP X pins σ Q) X.xe s := by
  refine wpAny_call (codeAny_mono (F.run X.A X.stack s H us ws vs zs Q hr I.env0 r rz l2 h) fun r s' hq => ?_)
  cases r with
  | error e => exact False.elim hq
  | ok fl =>
    cases fl with
    | ret u => exact I.after hq
    | next => exact False.elim hq
    | brk => exact False.elim hq
    | cont => exact False.elim hq
def aKw (X : Cx) (kws : List Keyword) (Γ : Gam) (M : Mem) (P : List Val → Mem → Prop) : Prop := ∀ Hi H σ, Ok X.K Hi M H → EnvR X.K Hi Γ σ → ∀ Q, PostA X.K Hi P Q → ∃ t, PK X kws t ∧ t σ H Q
def WK (X : Cx) (kws : List Keyword) : TA := fun σ H Q => ∃ t, PK X kws t ∧ t σ H Q
theorem pk_wk : PK X kws (WK X kws) := ⟨fun pos pins s σ H Q I ⟨t, p, h⟩ => p.run pos pins s σ H Q I h⟩
theorem ak_nil {P : List Val → Mem → Prop} (h : P [] M) : aKw X [] Γ M P := fun Hi H σ ok en Q q => ⟨_, pk_nil, q _ _ _ Hi H h (Same.refl _) ok .nil⟩
theorem ak_cons {P : List Val → Mem → Prop} (h : aE X e Γ M fun x M1 => aKw X kws Γ M1 fun xs M2 => P (x :: xs) M2) : aKw X (⟨nm, e, kpos⟩ :: kws) Γ M P := fun Hi H σ ok en Q q => by
  refine ⟨_, pk_cons pe_we pk_wk, ?_⟩
  refine h Hi H σ ok en _ fun x M1 v Hi1 H1 h1 s1 ok1 r1 => ?_
  exact h1 Hi1 H1 σ ok1 (en.mono s1) _ fun xs M2 vs Hi2 H2 h2 s2 ok2 r2 => q _ _ _ Hi2 H2 h2 (s1.trans s2) ok2 (.cons (r1.mono s2) r2)
/-- f(e, .., k = v, ..) -/
theorem ae_call (F : FnX X.prog X.w X.K X.mg X.base n f ks (spX X.K sx)) (hr : Rm n X.A) (hm : X.mg x = some (.ref f)) (hk : PySem.W.keepIn X.K (.ref f) = true) (h : aA X (e :: es) Γ M fun ds M1 => aKw X kws Γ M1 fun zs M2 => zs.length = ks.length ∧ sx ds zs M2 P)
    (hg : Gl X x := by rfl) (hall : (backToKw pos (keywordEach kws X.env)).all (·.1.isSome) = true := by rfl) (hks : (backToKw pos (keywordEach kws X.env)).filterMap (·.1) = ks := by rfl) (hdb : (x == ("__debug__" : Str)) = false := by decide)
    (he : starEach (e :: es) X.env = (false, eval e X.env) :: starEach es X.env := by rfl) (hpl : ((backTo pos (starEach (e :: es) X.env)).any (·.1) || (backToKw pos (keywordEach kws X.env)).any (·.1.isNone)) = false := by rfl) : aE X (.Call (.Name x p1) (e :: es) kws pos) Γ M P := fun Hi H σ ok en Q q => by
  refine ⟨fun σ H Q => WA X (e :: es) σ H fun vs H1 => WK X kws σ H1 fun zs H2 => zs.length = ks.length ∧ spX X.K sx vs zs H2 Q, ⟨fun pins s σ H Q I h => ?_⟩, ?_⟩
  · refine wpAny_Call_Name_kw (ld_glob I hg hm ?_ hdb)
    refine PySem.W.callWith_KW (h₀ := X.base) I.ok.mod.kin hk hall (thn (pa_wa.run pos pins s σ H _ I h) fun us s1 ⟨vs, H1, I1, r, q⟩ => ?_) hpl he
    refine thn (pk_wk.run pos pins s1 σ H1 _ I1 q) fun ws s2 ⟨zs, H2, I2, rz, l2, q2⟩ => ⟨I2.kIn, ?_⟩
    rw [hks]
    exact run_x F hr I2 r rz l2 q2
  · refine h Hi H σ ok en _ fun ds M1 vs Hi1 H1 h1 s1 ok1 r1 => ?_
    refine h1 Hi1 H1 σ ok1 (en.mono s1) _ fun zs M2 ws Hi2 H2 h2 s2 ok2 r2 => ?_
    exact ⟨r2.length.symm.trans h2.1, Hi2, M2, ds, zs, P, r1.mono s2, r2, ok2, h2.2, q.up (s1.trans s2)⟩
theorem ae_call0 (F : FnX X.prog X.w X.K X.mg X.base n f ks (spX X.K sx)) (hr : Rm n X.A) (hm : X.mg x = some (.ref f)) (hk : PySem.W.keepIn X.K (.ref f) = true) (h : aKw X kws Γ M fun zs M2 => zs.length = ks.length ∧ sx [] zs M2 P)
    (hg : Gl X x := by rfl) (hall : (backToKw pos (keywordEach kws X.env)).all (·.1.isSome) = true := by rfl) (hks : (backToKw pos (keywordEach kws X.env)).filterMap (·.1) = ks := by rfl) (hdb : (x == ("__debug__" : Str)) = false := by decide)
    (hpl : ((backTo pos (starEach [] X.env)).any (·.1) || (backToKw pos (keywordEach kws X.env)).any (·.1.isNone)) = false := by rfl) : aE X (.Call (.Name x p1) [] kws pos) Γ M P := fun Hi H σ ok en Q q => by
  refine ⟨fun σ H Q => WK X kws σ H fun zs H2 => zs.length = ks.length ∧ spX X.K sx [] zs H2 Q, ⟨fun pins s σ H Q I h => ?_⟩, ?_⟩
  · refine wpAny_Call_Name_kw (ld_glob I hg hm ?_ hdb)
    refine PySem.W.callWith_KW0 (h₀ := X.base) I.ok.mod.kin hk hall ?_ hpl
    refine thn (pk_wk.run pos pins s σ H _ I h) fun ws s2 ⟨zs, H2, I2, rz, l2, q2⟩ => ⟨I2.kIn, ?_⟩
    rw [hks]
    exact run_x F hr I2 .nil rz l2 q2
  · refine h Hi H σ ok en _ fun zs M2 ws Hi2 H2 h2 s2 ok2 r2 => ?_
    exact ⟨r2.length.symm.trans h2.1, Hi2, M2, [], zs, P, .nil, r2, ok2, h2.2, q.up s2⟩
/-- o.m(e, .., k = v, ..) -/
theorem ae_meth {pl : Sem Bool} {fs : List (Str × Val)} (c : Cls X.K C) (hm : Meth X.K C m f) (F : FnX X.prog X.w X.K X.mg X.base n f ks (spX X.K sx)) (hr : Rm n X.A) (ho : aV X o Γ M d) (hob : Ob M C d fs) (hl : fs.lookup m = none)
    (h : aA X (e :: es) Γ M fun ds M1 => aKw X kws Γ M1 fun zs M2 => zs.length = ks.length ∧ sx (d :: ds) zs M2 P)
    (hall : (backToKw pos (keywordEach kws X.env)).all (·.1.isSome) = true := by rfl) (hks : (backToKw pos (keywordEach kws X.env)).filterMap (·.1) = ks := by rfl)
    (he : starEach (e :: es) X.env = (false, eval e X.env) :: starEach es X.env := by rfl) (hpl : ((backTo pos (starEach (e :: es) X.env)).any (·.1) || (backToKw pos (keywordEach kws X.env)).any (·.1.isNone)) = false := by rfl)
    (ht : eval (.Call (.Attribute o m apos) (e :: es) kws pos) X.env = (do
      let ov ← eval o X.env
      standAt apos.atName
      let (f, first) ← holding [ov] (getMethod ov m pl)
      callWith pos f first (backTo pos (starEach (e :: es) X.env)) (backToKw pos (keywordEach kws X.env))) := by rfl) : aE X (.Call (.Attribute o m apos) (e :: es) kws pos) Γ M P := fun Hi H σ ok en Q q => by
  refine ⟨fun σ H Q => WE X o σ H fun x H0 => ∃ a dx fs, x = .ref a ∧ H0 a = some (.ins C dx fs) ∧ fs.lookup m = none ∧ WA X (e :: es) σ H0 fun vs H1 => WK X kws σ H1 fun zs H2 => zs.length = ks.length ∧ spX X.K sx (x :: vs) zs H2 Q, ⟨fun pins s σ H Q I h => ?_⟩, ?_⟩
  · refine PySem.W.methodCall_KW (pl := pl) (thn (pe_we.run pins s σ H _ I h) fun u s1 ⟨x, H1, I1, rx, a, dx, fs, ex, ea, l, q⟩ => ?_) ht
    subst ex
    obtain rfl : u = Value.ref a := rx
    refine getmeth_ok I1 ea c hm l ?_
    refine PySem.W.callWith_KW (first := [.ref a]) (h₀ := X.base) I.ok.mod.kin hm.kp hall (thn (pa_wa.run pos pins s1 σ H1 _ I1 q) fun us s2 ⟨vs, H2, I2, r, q2⟩ => ?_) hpl he
    refine thn (pk_wk.run pos pins s2 σ H2 _ I2 q2) fun ws s3 ⟨zs, H3, I3, rz, l2, q3⟩ => ⟨I3.kIn, ?_⟩
    rw [hks]
    exact run_x (us := .ref a :: us) (vs := .ref a :: vs) F hr I3 (.cons rfl r) rz l2 q3
  · refine ho Hi H σ ok en _ fun x M0 v0 Hi0 H0 h0 s0 ok0 r0 => ?_
    obtain ⟨rfl, rfl⟩ := h0
    obtain ⟨p, dx, gs, rfl, hp, rf⟩ := hob.rep ok0 r0
    refine ⟨p, dx, gs, rfl, hp, rf.none hl, ?_⟩
    refine h Hi0 H0 σ ok0 (en.mono s0) _ fun ds M1 vs Hi1 H1 h1 s1 ok1 r1 => ?_
    refine h1 Hi1 H1 σ ok1 (en.mono (s0.trans s1)) _ fun zs M2 ws Hi2 H2 h2 s2 ok2 r2 => ?_
    exact ⟨r2.length.symm.trans h2.1, Hi2, M2, _ :: ds, zs, P, .cons (r0.mono (s1.trans s2)) (r1.mono s2), r2, ok2, h2.2, q.up ((s0.trans s1).trans s2)⟩
theorem ae_meth0 {pl : Sem Bool} {fs : List (Str × Val)} (c : Cls X.K C) (hm : Meth X.K C m f) (F : FnX X.prog X.w X.K X.mg X.base n f ks (spX X.K sx)) (hr : Rm n X.A) (ho : aV X o Γ M d) (hob : Ob M C d fs) (hl : fs.lookup m = none)
    (h : aKw X kws Γ M fun zs M2 => zs.length = ks.length ∧ sx [d] zs M2 P)
    (hall : (backToKw pos (keywordEach kws X.env)).all (·.1.isSome) = true := by rfl) (hks : (backToKw pos (keywordEach kws X.env)).filterMap (·.1) = ks := by rfl)
    (hpl : ((backTo pos (starEach [] X.env)).any (·.1) || (backToKw pos (keywordEach kws X.env)).any (·.1.isNone)) = false := by rfl)
    (ht : eval (.Call (.Attribute o m apos) [] kws pos) X.env = (do
      let ov ← eval o X.env
      standAt apos.atName
      let (f, first) ← holding [ov] (getMethod ov m pl)
      callWith pos f first (backTo pos (starEach [] X.env)) (backToKw pos (keywordEach kws X.env))) := by rfl) : aE X (.Call (.Attribute o m apos) [] kws pos) Γ M P := fun Hi H σ ok en Q q => by
  refine ⟨fun σ H Q => WE X o σ H fun x H0 => ∃ a dx fs, x = .ref a ∧ H0 a = some (.ins C dx fs) ∧ fs.lookup m = none ∧ WK X kws σ H0 fun zs H2 => zs.length = ks.length ∧ spX X.K sx [x] zs H2 Q, ⟨fun pins s σ H Q I h => ?_⟩, ?_⟩
  · refine PySem.W.methodCall_KW (pl := pl) (thn (pe_we.run pins s σ H _ I h) fun u s1 ⟨x, H1, I1, rx, a, dx, fs, ex, ea, l, q⟩ => ?_) ht
    subst ex
    obtain rfl : u = Value.ref a := rx
    refine getmeth_ok I1 ea c hm l ?_
    refine PySem.W.callWith_KW0 (first := [.ref a]) (h₀ := X.base) I.ok.mod.kin hm.kp hall ?_ hpl
    refine thn (pk_wk.run pos pins s1 σ H1 _ I1 q) fun ws s3 ⟨zs, H3, I3, rz, l2, q3⟩ => ⟨I3.kIn, ?_⟩
    rw [hks]
    exact run_x (us := [.ref a]) (vs := [.ref a]) F hr I3 (.cons rfl .nil) rz l2 q3
  · refine ho Hi H σ ok en _ fun x M0 v0 Hi0 H0 h0 s0 ok0 r0 => ?_
    obtain ⟨rfl, rfl⟩ := h0
    obtain ⟨p, dx, gs, rfl, hp, rf⟩ := hob.rep ok0 r0
    refine ⟨p, dx, gs, rfl, hp, rf.none hl, ?_⟩
    refine h Hi0 H0 σ ok0 (en.mono s0) _ fun zs M2 ws Hi2 H2 h2 s2 ok2 r2 => ?_
    exact ⟨r2.length.symm.trans h2.1, Hi2, M2, [_], zs, P, .cons (r0.mono s2) .nil, r2, ok2, h2.2, q.up (s0.trans s2)⟩
/-- C(e, .., k = v, ..) -/
theorem run_mk {pins : List (Addr × Obj)} {σ : L2.St} {H : Hp} {s : Shared} {Q : VK} {us ws : List Value} {vs zs : List V} {sp : List V → List V → Hp → VK → Prop} (Mk_ : Mk X.K C f) (F : FnX X.prog X.w X.K X.mg X.base n f ks sp) (hr : Rm (n + 1) X.A)
    (I : Inv X pins σ H s) (r : Vals vs us) (rz : Vals zs ws) (l2 : zs.length = ks.length)
    (h : ∀ x dx, H x = none → H dx = none → dx ≠ x → sp (.ref x :: vs) zs (upd (upd H dx (.own x)) x (.ins C dx [])) (fun v H2 => v = .non ∧ Q (.ref x) H2)) :
    wpAny (model X.prog X.w) X.A (call (.ref C) us (ks.zip ws)) (EP X pins σ Q) X.xe s := by
  have hq := h (s.heap.objs.size + 1) s.heap.objs.size (I.hok.fresh (Nat.le_succ _)) (I.hok.fresh (Nat.le_refl _)) (Nat.ne_of_lt (Nat.lt_succ_self _))
  have I2 := Inv.made (C := C) I
  have r1 : Vals (V.ref (s.heap.objs.size + 1) :: vs) (Value.ref (s.heap.objs.size + 1) :: us) := .cons rfl r
  refine wpAny_call (make_map (f := f) I.kIn Mk_.makes Mk_.init (beq_iff_eq.mp Mk_.fn) (codeAny_mono (F.run _ X.stack _ _ (Value.ref (s.heap.objs.size + 1) :: us) ws _ zs _ (hr.make C us (ks.zip ws))
    (I2.env0.make C us (ks.zip ws)) r1 rz l2 hq) fun r s' hq' => ?_))
  cases r with
  | error e => exact False.elim hq'
  | ok fl =>
    cases fl with
    | ret u =>
      obtain ⟨v, H', I3, rv, ev, q3⟩ := I2.after hq'
      subst ev
      exact ⟨rv, ⟨V.ref (s.heap.objs.size + 1), H', I3, rfl, q3⟩⟩
    | next => exact False.elim hq'
    | brk => exact False.elim hq'
    | cont => exact False.elim hq'
theorem ae_make (Mk_ : Mk X.K C f) (F : FnX X.prog X.w X.K X.mg X.base n f ks (spX X.K sx)) (hr : Rm (n + 1) X.A) (hm : X.mg x = some (.ref C))
    (h : aA X (e :: es) Γ M fun ds M1 => aKw X kws Γ M1 fun zs M2 => zs.length = ks.length ∧ ∀ p, p ∉ M2.map (·.1) → sx (.ptr p :: ds) zs ((p, .ins C []) :: M2) (fun v M3 => v = .non ∧ P (.ptr p) M3))
    (hg : Gl X x := by rfl) (hall : (backToKw pos (keywordEach kws X.env)).all (·.1.isSome) = true := by rfl) (hks : (backToKw pos (keywordEach kws X.env)).filterMap (·.1) = ks := by rfl) (hdb : (x == ("__debug__" : Str)) = false := by decide)
    (he : starEach (e :: es) X.env = (false, eval e X.env) :: starEach es X.env := by rfl) (hpl : ((backTo pos (starEach (e :: es) X.env)).any (·.1) || (backToKw pos (keywordEach kws X.env)).any (·.1.isNone)) = false := by rfl) : aE X (.Call (.Name x p1) (e :: es) kws pos) Γ M P := fun Hi H σ ok en Q q => by
  refine ⟨fun σ H Q => WA X (e :: es) σ H fun vs H1 => WK X kws σ H1 fun zs H2 => zs.length = ks.length ∧ ∀ x dx, H2 x = none → H2 dx = none → dx ≠ x → spX X.K sx (.ref x :: vs) zs (upd (upd H2 dx (.own x)) x (.ins C dx [])) (fun v H3 => v = .non ∧ Q (.ref x) H3), ⟨fun pins s σ H Q I h => ?_⟩, ?_⟩
  · refine wpAny_Call_Name_kw (ld_glob I hg hm ?_ hdb)
    refine PySem.W.callWith_KW (h₀ := X.base) I.ok.mod.kin Mk_.kp hall (thn (pa_wa.run pos pins s σ H _ I h) fun us s1 ⟨vs, H1, I1, r, q⟩ => ?_) hpl he
    refine thn (pk_wk.run pos pins s1 σ H1 _ I1 q) fun ws s2 ⟨zs, H2, I2, rz, l2, q2⟩ => ⟨I2.kIn, ?_⟩
    rw [hks]
    exact run_mk Mk_ F hr I2 r rz l2 q2
  · refine h Hi H σ ok en _ fun ds M1 vs Hi1 H1 h1 s1 ok1 r1 => ?_
    refine h1 Hi1 H1 σ ok1 (en.mono s1) _ fun zs M2 ws Hi2 H2 h2 s2 ok2 r2 => ?_
    refine ⟨r2.length.symm.trans h2.1, fun x dx hx hdx hne => ?_⟩
    have s3 := same_upd (o := .own x) (ok2.none hdx)
    have ok3 : Ok X.K (upd Hi2 dx (.own x)) M2 (upd H2 dx (.own x)) := ok2.imm hdx
    have hx3 : upd H2 dx (.own x) x = none := by rw [upd_ne hne.symm]; exact hx
    refine ⟨_, (x, .ins C []) :: M2, .ptr x :: ds, zs, _, .cons (.ptr x) (r1.mono (s2.trans s3)), r2.mono s3, ok3.new hx3 ⟨dx, [], rfl, .nil⟩, h2.2 x (ok2.fresh hx), ?_⟩
    rintro d M4 v Hi4 H4 ⟨rfl, hp⟩ s4 ok4 r4
    cases r4
    exact ⟨rfl, q _ _ _ Hi4 H4 hp (((s1.trans s2).trans s3).trans s4) ok4 (.ptr x)⟩
end
end Ab

namespace Ab
open PySem PySem.Spec PyProof.Rows L2
open AutoSeq1 (wpAny_loadPart')
/-! enumerate(tuple) -/
theorem enum_newT (l : Addr) (items : Array Value) (n : Nat) (dct : Option Addr) (sl : Array (Option Value)) :
    Meets (Builtin.«enumerate.__new__» ⟨[.type "enumerate", .ref l], []⟩) (fun _ R s => s.heap.get? l = some { cls := .type "tuple", dict := dct, data := .seq items n, slots := sl } ∧
      R (.ok (.ret (.ref (s.heap.push { cls := .type "tuple_iterator", data := .fields #[.ref l, .int 0 0] }).objs.size)))
        { s with heap := (s.heap.push { cls := .type "tuple_iterator", data := .fields #[.ref l, .int 0 0] }).push { cls := .type "enumerate", data := .fields #[.none, .bool false, .ref s.heap.objs.size, rawInt 0, .none, .none] } }) :=
  .of_wp fun prog w A R s h => by
    obtain ⟨hp, g, d, tk, os⟩ := s
    obtain ⟨hl, h⟩ := h
    have hsub := sub_enumerate
    have hT : Heap.IsTuple (Shared.heap ⟨hp, g, d, tk, os⟩) l items := ⟨_, hl, rfl, n, rfl⟩
    wp_walk using wpAny_loadPart' hl
    refine wpAny_stack_any fun st => wpAny_pure ?_
    split
    · rename_i c _ _ _ _ _
      cases (c == Value.type "enumerate") <;> (wp_walk using wpAny_loadPart' hl, wpAny_pyIter_tuple hT; exact ⟨_, rfl, h⟩)
    · wp_walk using wpAny_loadPart' hl, wpAny_pyIter_tuple hT
      exact ⟨_, rfl, h⟩
section
variable {prog : Program} {w : World} {A : Around} {E : Value → Shared → Prop} {s : Shared}
theorem call_enumT {l : Addr} {items : Array Value} {Q : Value → Shared → Prop} (hL : s.heap.IsTuple l items)
    (h : ∀ h', IsEnum h' (s.heap.objs.size + 1) s.heap.objs.size 0 .none → h'.IsTupleIter s.heap.objs.size l 0 →
      (∀ b o, s.heap.get? b = some o → h'.get? b = some o) → Q (.ref (s.heap.objs.size + 1)) { s with heap := h' }) :
    wpAny (model prog w) A (call (.type "enumerate") [.ref l]) Q E s := by
  obtain ⟨⟨c, dct, dt, sl⟩, hl, hc, n, hd⟩ := hL
  obtain rfl : c = .type "tuple" := hc
  obtain rfl : dt = .seq items n := hd
  refine callType_new F.called_enumerate (by decide) (F.typeCall_enumerate_1 _) (F.newCall_enumerate_1 _) (fun obj => F.args_object_init_2 obj _) F.entry_enumerate_new (enum_newT l items n dct sl) ⟨hl, ?_⟩
  have hz : (s.heap.push { cls := .type "tuple_iterator", data := .fields #[.ref l, .int 0 0] }).objs.size = s.heap.objs.size + 1 := Heap.size_push ..
  show _ ∧ _
  rw [hz]
  have he : IsEnum ((s.heap.push { cls := .type "tuple_iterator", data := .fields #[.ref l, .int 0 0] }).push
      { cls := .type "enumerate", data := .fields #[.none, .bool false, .ref s.heap.objs.size, rawInt 0, .none, .none] }) (s.heap.objs.size + 1) s.heap.objs.size 0 .none := by
    have q := Heap.get?_push_size (s.heap.push { cls := .type "tuple_iterator", data := .fields #[.ref l, .int 0 0] })
      (o := { cls := .type "enumerate", data := .fields #[.none, .bool false, .ref s.heap.objs.size, rawInt 0, .none, .none] }) rfl
    rw [hz] at q
    exact q
  exact ⟨⟨_, he, rfl⟩, h _ he ⟨_, Heap.get?_push_of_some _ (Heap.get?_push_size _ rfl), rfl, rfl⟩ fun b o x => Heap.get?_push_of_some _ (Heap.get?_push_of_some _ x)⟩
end
/-- the tuple at a, each item in a new pair -/
def IteT (K : PySem.W.Frag) (a : Addr) : It where
  go := fun i H => ∃ (xs : List V) (x : V), SqT K H a xs ∧ xs[i]? = some x
  yld := fun i H v H' => ∃ T x, v = .ref T ∧ H T = none ∧ H' = upd H T (.tup [.int (i : Nat), x]) ∧ ∀ xs, SqT K H a xs → xs[i]? = some x
  stop := fun i H => ∃ xs : List V, SqT K H a xs ∧ xs.length = i
theorem turn_enumT {P : Program} {w : World} {K : PySem.W.Frag} {elts : List Expr} {kk : Nat} {tpos : Pos} (a e it : Addr) :
    Turn P w K (.Tuple elts kk tpos) (IteT K a) [e, it] e (fun i h => (∃ old, IsEnum h e it ((i : Nat) : Int) old) ∧ h.IsTupleIter it a i ∧ e ≠ it) where
  mem := by simp
  obj := fun i h st b hb => by
    obtain ⟨⟨old, he⟩, ⟨o, ho, hc, hd⟩, _⟩ := st
    have e' : b = e ∨ b = it := by simpa using hb
    rcases e' with z | z
    · rw [z]; exact ⟨_, he, fun v q => nomatch q⟩
    · rw [z]; exact ⟨o, ho, fun v q => by rw [hd] at q; cases q⟩
  keep := fun i h h' st k => let ⟨⟨old, he⟩, hi, hne⟩ := st; ⟨⟨old, k e (by simp) _ he⟩, hi.at fun o q => k it (by simp) o q, hne⟩
  item := by
    intro X hP hw hK hc i pins s σ H E I hf st hg
    subst hP hw hK
    obtain ⟨⟨old, he⟩, hit, hne⟩ := st
    obtain ⟨xs, x, hq, hx⟩ := hg
    obtain ⟨its, rv, p, hz⟩ := I.tuple hq
    have hl := rv.length
    have hlt : i < its.toArray.size := by
      have := (List.getElem?_eq_some_iff.mp hx).1
      simp
      omega
    have hel : e < s.heap.objs.size := Heap.lt_size he
    have hil : it < s.heap.objs.size := by obtain ⟨_, q, _⟩ := hit; exact Heap.lt_size q
    have hta : a ≠ it := fun z => by
      subst z
      obtain ⟨o1, h1, h2, _⟩ := p
      obtain ⟨o2, h3, h4, _⟩ := hit
      rw [h1] at h3
      cases h3
      rw [h2] at h4
      exact absurd h4 (by decide)
    have hte : e ≠ a := fun z => by
      subst z
      obtain ⟨o1, h1, h2, _⟩ := p
      rw [he] at h1
      cases h1
      exact absurd (show Value.type "enumerate" = Value.type "tuple" from h2) (by decide)
    refine wpAny_pyNext_enum_itemC (c := (i : Int)) (Draws.tuple (show X.A.in1.handled = none from I.ok.hd hc) it a hta its.toArray) he ⟨hit, p⟩ hlt hne (by simp [hne, hte]) fun u h' tk hu ho hst' hT hsz hk => ?_
    have ru : RelV x u := by
      obtain ⟨u', hu', ru'⟩ := rv.get hx
      have : its.toArray[i]? = some u' := by simpa using hu'
      rw [this] at hu
      cases hu
      exact ru'
    refine ⟨_, rfl, wpAny_letOwnedTupleGo_enum (s := { s with heap := h', toks := tk + 1 }) ho fun h'' he' sb => ?_⟩
    have hT2 : h''.get? s.heap.objs.size = some { cls := .type "tuple", data := .seq #[.int i tk, u] } := (sb.2 _ (Nat.ne_of_gt hel)).trans hT
    have new : ObjOk X.prog X.w (upd H s.heap.objs.size (.tup [.int (i : Nat), x])) h'' s.heap.objs.size (.tup [.int (i : Nat), x]) :=
      ⟨by show 2 ≤ sizeLine; decide, [.int i tk, u], .cons ⟨_, rfl⟩ (.cons ru .nil), ⟨_, hT2, rfl, _, rfl⟩⟩
    have I1 : Inv X pins σ (upd H s.heap.objs.size (.tup [.int (i : Nat), x])) { s with heap := h'', toks := tk + 1 } :=
      I.turnedNew (ch := [e, it]) (fun b ob hb q => (sb.2 b (fun z => hb (by simp [z]))).trans (hk b ob (fun z => hb (by simp [z])) (fun z => hb (by simp [z])) q)) hf (Nat.le_refl _) new
    refine ⟨.ref s.heap.objs.size, _, I1, rfl, ⟨_, x, rfl, I.hok.fresh (Nat.le_refl _), rfl, fun ys hy => by rw [I.tuple_inj hy hq]; exact hx⟩, ⟨⟨u, ?_⟩, hst'.1.at fun o q => (sb.2 it (Ne.symm hne)).trans q, hne⟩, fun b hb => ?_⟩
    · rw [show ((i + 1 : Nat) : Int) = (i : Int) + 1 by omega]
      exact he'
    · have hb' : b < s.heap.objs.size := by
        have e' : b = e ∨ b = it := by simpa using hb
        rcases e' with z | z
        · rw [z]; exact hel
        · rw [z]; exact hil
      rw [upd_ne (Nat.ne_of_lt hb')]
      exact (hf b hb).1
  done := by
    intro X hP hw hK hc i pins s σ H E I hf st hg
    subst hP hw hK
    obtain ⟨⟨old, he⟩, hit, hne⟩ := st
    obtain ⟨xs, hq, hx⟩ := hg
    obtain ⟨its, rv, p, hz⟩ := I.tuple hq
    obtain ⟨f0, f1, f2, f3, f4, f5⟩ := hf it (by simp)
    have hl := rv.length
    have hi : its.toArray.size = i := by
      simp
      omega
    have hta : a ≠ it := fun z => by
      subst z
      obtain ⟨o1, h1, h2, _⟩ := p
      obtain ⟨o2, h3, h4, _⟩ := hit
      rw [h1] at h3
      cases h3
      rw [h2] at h4
      exact absurd h4 (by decide)
    refine wpAny_pyNext_enum_endD (Draws.tuple (show X.A.in1.handled = none from I.ok.hd hc) it a hta its.toArray) he (by rw [hi]; exact ⟨hit, p⟩) fun h' eb => ⟨rfl, I.turned (t' := s.toks) (fun b o hb q => eb b o hb q) f0 f1 f3 f4 f5⟩
  self := fun A i s Q E st h => let ⟨⟨_, he⟩, _⟩ := st; wpAny_pyIter_enum he h
def iEnumT (K : PySem.W.Frag) (ta : TA) : TI := fun σ H R => ta σ H fun vs H1 => ∃ a xs, vs = [.ref a] ∧ SqT K H1 a xs ∧ R (IteT K a) H1
theorem pi_enumT {X : Cx} {e : Expr} {ta : TA} {p pos tpos : Pos} {elts : List Expr} {kk : Nat} (hg : Gl X "enumerate") (hm : X.mg "enumerate" = none) (ha : PA X [e] ta) (hs : starEach [e] X.env = [(false, eval e X.env)] := by rfl) :
    PI X (.Tuple elts kk tpos) (.Call (.Name "enumerate" p) [e] [] pos) (iEnumT X.K ta) := by
  refine ⟨fun pins s σ H R I h => Call_ (ld_blt I hg hm boot_enumerate (PyProof.Rows.callWith_type1 (thn (ha.run pos pins s σ H _ I h) fun us s1 ⟨vs, H1, I1, r1, q1⟩ => ?_) hs rfl))⟩
  obtain ⟨a, xs, rfl, hq, q⟩ := q1
  cases r1 with
  | cons r rr =>
    cases rr
    cases r
    obtain ⟨its, rv, p', hz⟩ := I1.tuple hq
    refine call_enumT p' fun h' he hit hk => wpAny_pyIter_enum he ?_
    have I2 : Inv X pins σ H1 { s1 with heap := h' } := I1.kept (t' := s1.toks) hk
    refine ⟨s1.heap.objs.size + 1, [s1.heap.objs.size + 1, s1.heap.objs.size], _, _, H1, rfl, I2, turn_enumT a (s1.heap.objs.size + 1) s1.heap.objs.size, ⟨⟨.none, he⟩, hit, Nat.succ_ne_self _⟩, fun b hb => ?_, q⟩
    have e' : b = s1.heap.objs.size + 1 ∨ b = s1.heap.objs.size := by simpa using hb
    have hle : s1.heap.objs.size ≤ b := by
      rcases e' with z | z
      · exact z ▸ Nat.le_succ _
      · exact z ▸ Nat.le_refl _
    exact I1.fpOk hle (I1.hok.fresh hle)
theorem walk_enumT {K : PySem.W.Frag} {a : Addr} {xs : List V} : Walk (IteT K a) xs.length (fun H => SqT K H a xs) (YPair (fun i => some (.int (i : Nat))) (fun i => xs[i]?)) := by
  refine ⟨fun i _ hi q => ⟨xs, xs[i], q, by simp [hi]⟩, fun _ q => ⟨xs, q, rfl⟩, fun i H v H' _ q y => ?_⟩
  obtain ⟨T, x, h1, h2, h3, h4⟩ := y
  exact ⟨T, .int (i : Nat), x, h1, h2, h3, rfl, h4 xs q⟩
section
variable {X : Cx} {Γ : Gam} {M : Mem} {a : Expr} {pos p1 : Pos}
theorem ai_enumT {elts : List Expr} {kk : Nat} {tpos : Pos} {R : Mem → Prop} {xs : List Val} (hm : X.mg "enumerate" = none) (ha : aE X a Γ M fun d M' => d = .tup xs ∧ R M') (hg : Gl X "enumerate" := by rfl) (hs : starEach [a] X.env = [(false, eval a X.env)] := by rfl) :
    aI X (.Tuple elts kk tpos) (.Call (.Name "enumerate" p1) [a] [] pos) Γ M xs.length (fun i => .tup [.int i, xs.getD i .non]) (fun _ => True) R := fun Hi H σ ok en R' q => by
  refine ⟨_, pi_enumT hg hm (pa_cons pe_we pa_nil hs) hs, ?_⟩
  refine ha Hi H σ ok en _ fun d M1 v Hi1 H1 h1 s1 ok1 r1 => ?_
  obtain ⟨rfl, hp⟩ := h1
  cases r1 with
  | @tup p ys _ hq ra =>
    refine ⟨p, ys, rfl, sameT ok1.im hq, q _ M1 Hi1 H1 hp s1 ok1 ?_⟩
    rw [ra.length]
    refine walk_enumT.mono (fun H' hG => ?_) fun i H' v H'' hi hG hy Hi' M' s2 ok2 _ => ?_
    · obtain ⟨Hi', M', s2, ok2, _⟩ := hG
      exact sameT ok2.im (sameT s2 hq)
    · obtain ⟨T, x, y, rfl, hT, rfl, hx, hy⟩ := hy
      cases hx
      have s3 := same_upd (o := .tup [.int (i : Nat), y]) (ok2.none hT)
      exact ⟨_, s3, ok2.imm hT, .tup (SqT.of upd_same) (.cons (.int _) (.cons ((Sq.at ra hy).mono (s2.trans s3)) .nil))⟩
end
end Ab

namespace Ab
open PySem PySem.Spec PyProof.Rows L2
/-! ### comprehensions -/
theorem wipe_set (n : Nat) (x : Option V) : ∀ (vs : List Nat) (σ : L2.St), wipe (σ.set n x) vs = if n ∈ vs then wipe σ vs else (wipe σ vs).set n x
  | [], σ => by simp [wipe]
  | v :: vs, σ => by
    unfold wipe
    rw [wipe_set n x vs σ]
    by_cases h : n ∈ vs
    · rw [if_pos h, if_pos (List.mem_cons_of_mem _ h)]
    · rw [if_neg h]
      by_cases e : n = v
      · subst e
        rw [if_pos List.mem_cons_self, List.set_set]
      · rw [if_neg (by simp [e, h]), List.set_comm _ _ e]
def wipeG (Γ : Gam) : List Nat → Gam
  | [] => Γ
  | v :: vs => (wipeG Γ vs).set v none
theorem env_none {K : PySem.W.Frag} {H : Hp} {Γ : Gam} {σ : L2.St} (n : Nat) (h : EnvR K H Γ σ) : EnvR K H (Γ.set n none) (σ.set n none) := by
  refine ⟨by rw [List.length_set, List.length_set]; exact h.1, fun j e q => ?_⟩
  by_cases hij : n = j
  · subst hij
    by_cases hl : n < Γ.length
    · rw [List.getElem?_set_self hl] at q
      cases q
    · rw [List.getElem?_eq_none_iff.mpr (by rw [List.length_set]; omega)] at q
      cases q
  · rw [List.getElem?_set_ne hij] at q
    obtain ⟨w, h1, h2⟩ := h.2 j e q
    exact ⟨w, by rw [List.getElem?_set_ne hij]; exact h1, h2⟩
theorem env_wipe {K : PySem.W.Frag} {H : Hp} {Γ : Gam} {σ : L2.St} (h : EnvR K H Γ σ) : ∀ vs : List Nat, EnvR K H (wipeG Γ vs) (wipe σ vs)
  | [] => h
  | v :: vs => env_none v (env_wipe h vs)
section
variable {X : Cx} {Γ : Gam} {M : Mem} {P : Val → Mem → Prop} {e a b c o : Expr} {es : List Expr} {kws : List Keyword} {pos p1 p2 apos kpos : Pos} {k : AK} {d d1 d2 d3 : Val} {i j : Int} {x y m : Str} {n : Nat} {f C : Addr}
/-- a target within a comprehension: slots of vs alone -/
def aGw (X : Cx) (vs : List Nat) (tg : Expr) (d : Val) (Γ : Gam) (M : Mem) (R : Gam → Mem → Prop) : Prop := ∀ Hi H σ v, Ok X.K Hi M H → EnvR X.K Hi Γ σ → Rep X.K Hi d v → ∀ Q : L2.St → Hp → Prop, (∀ Γ' M' σ' Hi' H', R Γ' M' → Same Hi Hi' → Ok X.K Hi' M' H' → EnvR X.K Hi' Γ' σ' → wipe σ' vs = wipe σ vs → Q σ' H') → WG X tg v σ H Q
theorem agw_name {vs : List Nat} {R : Gam → Mem → Prop} (n : Nat) (hN : X.N.Nodup) (h : R (Γ.set n (some d)) M) (hn : n ∈ vs := by decide) (hi : X.N[n]? = some x := by rfl) (hx : Loc X.env.scope x := by first | exact Or.inl rfl | exact Or.inr rfl) (hf : X.fn x = true ∨ X.env.scope.names.lookup x = some .local := by first | exact .inl rfl | exact .inr rfl | assumption) :
    aGw X vs (.Name x pos) d Γ M R := fun Hi H σ v ok en r Q q => ⟨_, pg_name hN hi hx hf, q _ _ _ Hi H h (Same.refl _) ok (en.set r) (by rw [wipe_set, if_pos hn])⟩
def aGws (X : Cx) (vs : List Nat) (tgs : List Expr) (ds : List Val) (Γ : Gam) (M : Mem) (R : Gam → Mem → Prop) : Prop := ∀ Hi H σ ws, Ok X.K Hi M H → EnvR X.K Hi Γ σ → RepA X.K Hi ds ws → ∀ Q : L2.St → Hp → Prop, (∀ Γ' M' σ' Hi' H', R Γ' M' → Same Hi Hi' → Ok X.K Hi' M' H' → EnvR X.K Hi' Γ' σ' → wipe σ' vs = wipe σ vs → Q σ' H') → ∃ t, PGs X tgs t ∧ t ws σ H Q
theorem agws_nil {vs : List Nat} {R : Gam → Mem → Prop} (h : R Γ M) : aGws X vs [] [] Γ M R := fun Hi H σ ws ok en r Q q => by
  cases r
  exact ⟨_, pgs_nil, rfl, q _ _ _ Hi H h (Same.refl _) ok en rfl⟩
theorem agws_cons {vs : List Nat} {R : Gam → Mem → Prop} {ds : List Val} (h : aGw X vs e d Γ M fun Γ' M' => aGws X vs es ds Γ' M' R) (hs : (assignEach (e :: es) X.env).map (·.2) = assign e X.env :: (assignEach es X.env).map (·.2) := by rfl) : aGws X vs (e :: es) (d :: ds) Γ M R := fun Hi H σ ws ok en r Q q => by
  cases r with
  | cons r1 r2 =>
    refine ⟨_, pgs_cons pg_wg pgs_wgs hs, _, _, rfl, ?_⟩
    refine h Hi H σ _ ok en r1 _ fun Γ' M' σ' Hi' H' h1 s1 ok1 en1 w1 => ?_
    exact h1 Hi' H' σ' _ ok1 en1 (r2.mono s1) Q fun Γ2 M2 σ2 Hi2 H2 h2 s2 ok2 en2 w2 => q _ _ _ Hi2 H2 h2 (s1.trans s2) ok2 en2 (w2.trans w1)
theorem agw_tup {vs : List Nat} {kk : Nat} {R : Gam → Mem → Prop} {ds : List Val} (hc : X.calm = true) (h : aGws X vs es ds Γ M R) (hl : (assignEach es X.env).length = ds.length := by rfl) (hst : (assignEach es X.env).findIdx? (·.1) = none := by rfl) : aGw X vs (.Tuple es kk pos) (.tup ds) Γ M R := fun Hi H σ v ok en r Q q => by
  cases r with
  | tup hq ra => exact ⟨_, pg_tup hc pgs_wgs rfl hst, _, _, rfl, sameT ok.im hq, ra.length.symm.trans hl.symm, h Hi H σ _ ok en ra Q q⟩
def aTs (X : Cx) (ifs : List Expr) (Γ : Gam) (M : Mem) (P : Bool → Mem → Prop) : Prop := ∀ Hi H σ, Ok X.K Hi M H → EnvR X.K Hi Γ σ → ∀ Q, PostT X.K Hi P Q → ∃ t, PTs X ifs t ∧ t σ H Q
def WTs (X : Cx) (ifs : List Expr) : TT := fun σ H Q => ∃ t, PTs X ifs t ∧ t σ H Q
theorem pts_wts {ifs : List Expr} : PTs X ifs (WTs X ifs) := ⟨fun pins s σ H Q I ⟨t, p, h⟩ => p.run pins s σ H Q I h⟩
theorem ats_nil {P : Bool → Mem → Prop} (h : P true M) : aTs X [] Γ M P := fun Hi H σ ok en Q q => ⟨_, pts_nil, q _ _ Hi H h (Same.refl _) ok⟩
theorem ats_one {P : Bool → Mem → Prop} (h : aT X c Γ M P) : aTs X [c] Γ M P := fun Hi H σ ok en Q q => ⟨_, pts_one pt_wt, h Hi H σ ok en Q q⟩
/-- a comprehension's block -/
abbrev bx (X : Cx) (scope : Scope) (s : Shared) (H : Hp) (C : Addr) (cl : List (Str × Addr)) (fp : List Addr) : Cx := X.blk s H scope (compEnvC scope cl C X.env) fp
def bE (X : Cx) (scope : Scope) (e : Expr) (Γ : Gam) (M : Mem) (P : Val → Mem → Prop) : Prop := ∀ s H C cl fp, aE (bx X scope s H C cl fp) e Γ M P
def bTs (X : Cx) (scope : Scope) (es : List Expr) (Γ : Gam) (M : Mem) (P : Bool → Mem → Prop) : Prop := ∀ s H C cl fp, aTs (bx X scope s H C cl fp) es Γ M P
def bG (X : Cx) (scope : Scope) (vs : List Nat) (tg : Expr) (d : Val) (Γ : Gam) (M : Mem) (R : Gam → Mem → Prop) : Prop := ∀ s H C cl fp, aGw (bx X scope s H C cl fp) vs tg d Γ M R
theorem lc_read {tg iter elt : Expr} {ifs : List Expr} {scope : Scope} {vs : List Nat} {n : Nat} {it : Nat → Val} {G : Mem → Prop} (J : Nat → List Val → Mem → Prop)
    (hi : aI X tg iter Γ M n it G (J 0 [])) (hG : ∀ i acc M, i ≤ n → J i acc M → G M) (hGd : ∀ c M, G M → G (c :: M))
    (hs : ∀ i acc M D, i < n → acc.length ≤ i → J i acc M → bG X scope vs tg (it i) (wipeG Γ vs) ((D, .lst acc) :: M) fun Γ2 M2 => bTs X scope ifs Γ2 M2 fun b M3 =>
      (b = true → bE X scope elt Γ2 M3 fun y M4 => ∃ M5, M4 = (D, .lst acc) :: M5 ∧ J (i + 1) (acc ++ [y]) M5) ∧ (b = false → ∃ M5, M3 = (D, .lst acc) :: M5 ∧ J (i + 1) acc M5))
    (hn : n ≤ 100000) (hd : ∀ D acc M, J n acc M → P (.ptr D) ((D, .lst acc) :: M)) {Hi H : Hp} {σ : L2.St} (ok : Ok X.K Hi M H) (en : EnvR X.K Hi Γ σ) {Q : VK} (q : Post X.K Hi P Q) :
    tLc (WI X tg iter) (fun v σ H Q => ∀ s H' C cl fp, WG (bx X scope s H' C cl fp) tg v σ H Q) (fun σ H Q => ∀ s H' C cl fp, WTs (bx X scope s H' C cl fp) ifs σ H Q) (fun σ H Q => ∀ s H' C cl fp, WE (bx X scope s H' C cl fp) elt σ H Q) vs σ H Q := by
  refine hi Hi H σ ok en _ fun J' M1 Hi1 H1 h1 s1 ok1 w => ?_
  intro D hD
  refine lc_it (g := fun v σ H Q => ∀ s H' C cl fp, WG (bx X scope s H' C cl fp) tg v σ H Q) (tt := fun σ H Q => ∀ s H' C cl fp, WTs (bx X scope s H' C cl fp) ifs σ H Q) (te := fun σ H Q => ∀ s H' C cl fp, WE (bx X scope s H' C cl fp) elt σ H Q) (vs := vs) (σ := σ) (Qd := fun H => Q (V.ref D) H)
    w (fun i H' => ∃ acc M' Hi', J i acc M' ∧ acc.length ≤ i ∧ Same Hi1 Hi' ∧ Ok X.K Hi' ((D, .lst acc) :: M') H') ⟨[], M1, Hi1, h1, Nat.le_refl _, Same.refl _, ok1.new hD ⟨[], rfl, .nil⟩⟩ ?_ ?_ ?_
  · rintro i H' hi ⟨acc, M', Hi', h2, _, s2, ok2⟩
    exact ⟨Hi', M', s2, ok2.tail, hG i acc M' hi h2⟩
  · rintro i v H' H'' hi ⟨acc, M', Hi', h2, hl, s2, ok2⟩ hy
    obtain ⟨Hi3, s3, ok3, r3⟩ := hy Hi' ((D, .lst acc) :: M') s2 ok2 (hGd _ _ (hG i acc M' (Nat.le_of_lt hi) h2))
    intro s0 H0 C0 cl0 fp0
    have s13 := s2.trans s3
    refine hs i acc M' D hi hl h2 s0 H0 C0 cl0 fp0 Hi3 H'' (wipe σ vs) v ok3 (env_wipe (en.mono (s1.trans s13)) vs) r3 _ fun Γ4 M4 σ4 Hi4 H4 h4 s4 ok4 en4 w4 => ⟨?_, ?_⟩
    · rw [w4]
      clear w4 en4
      have idem : ∀ (us : List Nat) (τ : L2.St), wipe (wipe τ us) us = wipe τ us := by
        intro us
        induction us with
        | nil => intro τ; rfl
        | cons u us ih =>
          intro τ
          show (wipe ((wipe τ us).set u none) us).set u none = (wipe τ us).set u none
          rw [wipe_set]
          by_cases hu : u ∈ us
          · rw [if_pos hu, ih]
          · rw [if_neg hu, ih, List.set_set]
      exact idem vs σ
    · intro s5 H5 C5 cl5 fp5
      refine h4 s5 H5 C5 cl5 fp5 Hi4 H4 σ4 ok4 en4 _ fun b M6 Hi6 H6 h6 s6 ok6 => ?_
      cases b with
      | true =>
        refine iteT fun s7 H7 C7 cl7 fp7 => ?_
        refine h6.1 rfl s7 H7 C7 cl7 fp7 Hi6 H6 σ4 ok6 (en4.mono s6) _ fun y M8 v8 Hi8 H8 h8 s8 ok8 r8 => ?_
        obtain ⟨M9, rfl, h9⟩ := h8
        obtain ⟨_, o, ho, xs, rfl, ra⟩ := ok8.ce D _ List.mem_cons_self
        refine ⟨xs, ho, ?_, ?_⟩
        · rw [← ra.length]
          exact Nat.lt_of_lt_of_le (Nat.lt_of_le_of_lt hl (Nat.lt_of_lt_of_le hi hn)) (by decide)
        · exact ⟨acc ++ [y], M9, Hi8, h9, by rw [List.length_append]; exact Nat.succ_le_succ hl, ((s13.trans s4).trans s6).trans s8, ok8.set (i := 0) rfl ⟨_, rfl, ra.append (.cons r8 .nil)⟩⟩
      | false =>
        obtain ⟨M9, rfl, h9⟩ := h6.2 rfl
        exact iteF ⟨acc, M9, Hi6, h9, Nat.le_succ_of_le hl, (s13.trans s4).trans s6, ok6⟩
  · rintro H' ⟨acc, M', Hi', h2, hl, s2, ok2⟩
    exact q _ _ _ Hi' H' (hd D acc M' h2) (s1.trans s2) ok2 (.ptr D)
/-- [elt for tg in iter if ..]: a new cell -/
theorem ae_lcC {tg iter elt : Expr} {ifs : List Expr} {scope : Scope} (own : List (Str × Nat)) {n : Nat} {it : Nat → Val} {G : Mem → Prop} (J : Nat → List Val → Mem → Prop) (hc : X.calm = true) (hN : X.N.Nodup) (ok : BlkOk X.N X.env.scope scope own)
    (hi : aI X tg iter Γ M n it G (J 0 [])) (hG : ∀ i acc M, i ≤ n → J i acc M → G M) (hGd : ∀ c M, G M → G (c :: M))
    (hs : ∀ i acc M D, i < n → acc.length ≤ i → J i acc M → bG X scope (own.map (·.2)) tg (it i) (wipeG Γ (own.map (·.2))) ((D, .lst acc) :: M) fun Γ2 M2 => bTs X scope ifs Γ2 M2 fun b M3 =>
      (b = true → bE X scope elt Γ2 M3 fun y M4 => ∃ M5, M4 = (D, .lst acc) :: M5 ∧ J (i + 1) (acc ++ [y]) M5) ∧ (b = false → ∃ M5, M3 = (D, .lst acc) :: M5 ∧ J (i + 1) acc M5))
    (hn : n ≤ 100000) (hd : ∀ D acc M, J n acc M → P (.ptr D) ((D, .lst acc) :: M)) (hf : ∀ x, foldedSetIterable iter X.env x = pure x := by intro _; rfl) :
    aE X (.ListComp elt [⟨tg, iter, ifs, 0⟩] scope pos) Γ M P := fun Hi H σ ok' en Q q =>
  ⟨_, pe_lc hc hN pi_wi ok (fun s H C cl fp => ⟨fun pins s' σ H v u Q I r h => pg_wg.run pins s' σ H v u Q I r (h _ _ _ _ _)⟩) (fun s H C cl fp => ⟨fun pins s' σ H Q I h => pts_wts.run pins s' σ H Q I (h _ _ _ _ _)⟩) (fun s H C cl fp => ⟨fun pins s' σ H Q I h => pe_we.run pins s' σ H Q I (h _ _ _ _ _)⟩) hf,
    lc_read J hi hG hGd hs hn hd ok' en q⟩
/-- y = [elt for ..] -/
theorem as_lcC {tg iter elt : Expr} {ifs : List Expr} {scope : Scope} {py spos : Pos} (m : Nat) (own : List (Str × Nat)) {n : Nat} {it : Nat → Val} {G : Mem → Prop} (J : Nat → List Val → Mem → Prop) (hc : X.calm = true) (hN : X.N.Nodup) (ok : BlkOk X.N X.env.scope scope own)
    (hi : aI X tg iter Γ M n it G (J 0 [])) (hG : ∀ i acc M, i ≤ n → J i acc M → G M) (hGd : ∀ c M, G M → G (c :: M))
    (hs : ∀ i acc M D, i < n → acc.length ≤ i → J i acc M → bG X scope (own.map (·.2)) tg (it i) (wipeG Γ (own.map (·.2))) ((D, .lst acc) :: M) fun Γ2 M2 => bTs X scope ifs Γ2 M2 fun b M3 =>
      (b = true → bE X scope elt Γ2 M3 fun y M4 => ∃ M5, M4 = (D, .lst acc) :: M5 ∧ J (i + 1) (acc ++ [y]) M5) ∧ (b = false → ∃ M5, M3 = (D, .lst acc) :: M5 ∧ J (i + 1) acc M5))
    (hn : n ≤ 100000) (hd : ∀ D acc M, J n acc M → k.nx (Γ.set m (some (.ptr D))) ((D, .lst acc) :: M)) (hy : X.N[m]? = some y := by rfl) (hyl : X.env.scope.names.lookup y = some .local := by rfl)
    (hsw : swapsWith (.ListComp elt [⟨tg, iter, ifs, 0⟩] scope pos) (some (.Name y py)) spos.line X.env = pure true := by exact sw_true rfl rfl rfl (by decide +kernel))
    (hf : ∀ x, foldedSetIterable iter X.env x = pure x := by intro _; rfl) :
    aS X (.Assign [.Name y py] (.ListComp elt [⟨tg, iter, ifs, 0⟩] scope pos) spos) Γ M k := fun Hi H σ ok' en D q =>
  ⟨_, ps_setLc hc hN hy hyl hsw pi_wi ok (fun s H C cl fp => ⟨fun pins s' σ H v u Q I r h => pg_wg.run pins s' σ H v u Q I r (h _ _ _ _ _)⟩) (fun s H C cl fp => ⟨fun pins s' σ H Q I h => pts_wts.run pins s' σ H Q I (h _ _ _ _ _)⟩) (fun s H C cl fp => ⟨fun pins s' σ H Q I h => pe_we.run pins s' σ H Q I (h _ _ _ _ _)⟩) hf,
    lc_read (P := fun d M' => ∃ D, d = .ptr D ∧ k.nx (Γ.set m (some (.ptr D))) M') J hi hG hGd hs hn (fun D acc M h => ⟨D, rfl, hd D acc M h⟩) ok' en fun d M' v Hi' H' ⟨D', hd', h'⟩ s' ok2 r => by
      subst hd'
      exact q.nx _ _ _ Hi' H' h' s' ok2 ((en.mono s').set r)⟩
end
end Ab

namespace Ab
open PySem PySem.Spec PyProof.Rows L2
section
variable {X : Cx} {Γ : Gam} {M : Mem} {P : Val → Mem → Prop} {e a b c o : Expr} {es : List Expr} {kws : List Keyword} {pos p1 p2 apos kpos : Pos} {k : AK} {d d1 d2 d3 : Val} {i j : Int} {x y m : Str} {n : Nat} {f C : Addr}

/-! ### a class's own things -/
/-- C.NAME -/
theorem ae_const {mc : Value} {fl : Str} {u : Value} {v : V} (hr : ClX.CRead X.K C mc) (hv : ClX.CVal X.K C mc fl v u) (ho : aV X o Γ M (.ptr C)) (rep : ∀ H, Rep X.K H d v) (h : P d M) (hb : attributeBase o fl X.env (eval o X.env) = eval o X.env := by rfl) : aE X (.Attribute o fl pos) Γ M P := fun Hi H σ ok en Q q => by
  refine ⟨_, ClX.pe_cval pe_we hb, ?_⟩
  refine ho Hi H σ ok en _ fun x M1 v1 Hi1 H1 h1 s1 ok1 r1 => ?_
  obtain ⟨rfl, rfl⟩ := h1
  cases r1
  exact ⟨C, mc, v, u, rfl, hr, hv, q _ _ _ Hi1 H1 h s1 ok1 (rep _)⟩
/-- o.f, f a property -/
theorem ae_prop {fl : Str} {p g : Addr} {fs : List (Str × Val)} {sx : ASx} (c : Cls X.K C) (hp : PropOf X.K C fl p g) (F : FnX X.prog X.w X.K X.mg X.base n g [] (spX X.K sx)) (hr : Rm (n + 1) X.A) (ho : aV X o Γ M d) (hob : Ob M C d fs) (h : sx [d] [] M P)
    (hb : attributeBase o fl X.env (eval o X.env) = eval o X.env := by rfl) : aE X (.Attribute o fl pos) Γ M P := fun Hi H σ ok en Q q => by
  refine ⟨fun σ H Q => WE X o σ H fun x H1 => ∃ a dx fs, x = .ref a ∧ H1 a = some (.ins C dx fs) ∧ spX X.K sx [.ref a] [] H1 Q, ⟨fun pins s σ H Q I h => ?_⟩, ?_⟩
  · refine attr_of hb (thn (pe_we.run pins s σ H _ I h) fun u s1 ⟨x, H1, I1, rx, a, dx, fs, ex, ea, q⟩ => ?_)
    subst ex
    obtain rfl : u = Value.ref a := rx
    obtain ⟨mA, O, _, _, _, _⟩ := ins_get I1.hok ea
    obtain ⟨od, J, _⟩ := O.look
    obtain ⟨rest, hrec⟩ := hp.rec_
    have I2 := I1.tok (s1.toks + 1)
    have hc : (PySem.W.clsIn X.K C).isSome = true := by
      obtain ⟨cd, hc, _⟩ := PySem.W.any_some c.hd
      rw [hc]
      rfl
    refine PySem.W.get_bind I1.kIn J (PySem.W.plainGet_of (c.get fl)).1 (PySem.W.findObj_data hc hp.at_ hp.get hp.tak) (PySem.W.plainGet_of (c.get fl)).2 (wpAny_call (PySem.W.prop_get (s := { s1 with toks := s1.toks + 1 }) I1.kIn hrec ?_))
    refine codeAny_mono (F.run X.A.in1 X.stack { s1 with toks := s1.toks + 1 } H1 [.ref a] [] [.ref a] [] Q hr.in1 I2.env0.in1 (.cons rfl .nil) .nil rfl q) fun r s' hq => ?_
    cases r with
    | error er => exact False.elim hq
    | ok fl =>
      cases fl with
      | ret u =>
        obtain ⟨v, H', I3, rv, q3⟩ := I2.after hq
        show wpAny _ _ (handedOut u) _ _ _
        rw [PySem.W.handedOut_of (handed_of rv)]
        exact wpAny_pure ⟨v, H', I3, rv, q3⟩
      | next => exact False.elim hq
      | brk => exact False.elim hq
      | cont => exact False.elim hq
  · refine ho Hi H σ ok en _ fun x M0 v0 Hi0 H0 h0 s0 ok0 r0 => ?_
    obtain ⟨rfl, rfl⟩ := h0
    obtain ⟨p, dx, gs, rfl, hp, rf⟩ := hob.rep ok0 r0
    exact ⟨p, dx, gs, rfl, hp, Hi0, _, [_], [], P, .cons r0 .nil, .nil, ok0, h, q.up s0⟩
/-- C.m is a staticmethod: its record at p, its def at g -/
structure SMet (K : PySem.W.Frag) (C : Addr) (mc : Value) (m : Str) (p g : Addr) : Prop where
  at_ : PySem.W.findCls K (.ref C) mc m = some (.get (.builtin "staticmethod.__get__") (.ref p) .none (.ref C))
  rc : ∃ rest, PySem.W.recIn K p "staticmethod" = some (.ref g :: rest)
  kp : PySem.W.keepIn K (.ref g) = true
theorem ae_smeth {mc : Value} {p g : Addr} {pl : Sem Bool} {ks : List Str} {sx : ASx} (r : ClX.CRead X.K C mc) (sm : SMet X.K C mc m p g) (F : FnX X.prog X.w X.K X.mg X.base n g ks (spX X.K sx)) (hr : Rm n X.A) (ho : aV X o Γ M (.ptr C))
    (h : aA X (e :: es) Γ M fun ds M1 => aKw X kws Γ M1 fun zs M2 => zs.length = ks.length ∧ sx ds zs M2 P)
    (hall : (backToKw pos (keywordEach kws X.env)).all (·.1.isSome) = true := by rfl) (hks : (backToKw pos (keywordEach kws X.env)).filterMap (·.1) = ks := by rfl)
    (he : starEach (e :: es) X.env = (false, eval e X.env) :: starEach es X.env := by rfl) (hpl : ((backTo pos (starEach (e :: es) X.env)).any (·.1) || (backToKw pos (keywordEach kws X.env)).any (·.1.isNone)) = false := by rfl)
    (ht : eval (.Call (.Attribute o m apos) (e :: es) kws pos) X.env = (do
      let ov ← eval o X.env
      standAt apos.atName
      let (f, first) ← holding [ov] (getMethod ov m pl)
      callWith pos f first (backTo pos (starEach (e :: es) X.env)) (backToKw pos (keywordEach kws X.env))) := by rfl) : aE X (.Call (.Attribute o m apos) (e :: es) kws pos) Γ M P := fun Hi H σ ok en Q q => by
  refine ⟨fun σ H Q => WE X o σ H fun x H0 => x = .ref C ∧ WA X (e :: es) σ H0 fun vs H1 => WK X kws σ H1 fun zs H2 => zs.length = ks.length ∧ spX X.K sx vs zs H2 Q, ⟨fun pins s σ H Q I h => ?_⟩, ?_⟩
  · refine PySem.W.methodCall_KW (pl := pl) (thn (pe_we.run pins s σ H _ I h) fun u s1 ⟨x, H1, I1, rx, ex, q⟩ => ?_) ht
    subst ex
    obtain rfl : u = Value.ref C := rx
    obtain ⟨rest, hp⟩ := sm.rc
    refine PySem.W.method_cls I1.kIn r.ga (PySem.W.cls_bind I1.kIn r.rd sm.at_ (wpAny_call (PySem.W.sm_get (s := { s1 with toks := s1.toks + 1 }) I1.kIn hp (PySem.W.handed_on rfl ?_))))
    have I2 := I1.tok (s1.toks + 1)
    refine PySem.W.callWith_KW (first := []) (h₀ := X.base) I.ok.mod.kin sm.kp hall (thn (pa_wa.run pos pins _ σ H1 _ I2 q) fun us s2 ⟨vs, H2, I3, r, q2⟩ => ?_) hpl he
    refine thn (pk_wk.run pos pins s2 σ H2 _ I3 q2) fun ws s3 ⟨zs, H3, I4, rz, l2, q3⟩ => ⟨I4.kIn, ?_⟩
    rw [hks]
    exact run_x F hr I4 r rz l2 q3
  · refine ho Hi H σ ok en _ fun x M0 v0 Hi0 H0 h0 s0 ok0 r0 => ?_
    obtain ⟨rfl, rfl⟩ := h0
    cases r0
    refine ⟨rfl, ?_⟩
    refine h Hi0 H0 σ ok0 (en.mono s0) _ fun ds M1 vs Hi1 H1 h1 s1 ok1 r1 => ?_
    refine h1 Hi1 H1 σ ok1 (en.mono (s0.trans s1)) _ fun zs M2 ws Hi2 H2 h2 s2 ok2 r2 => ?_
    exact ⟨r2.length.symm.trans h2.1, Hi2, M2, ds, zs, P, r1.mono s2, r2, ok2, h2.2, q.up ((s0.trans s1).trans s2)⟩

/-! ### isinstance -/
/-- a value's type -/
inductive TyV (K : PySem.W.Frag) (M : Mem) : Val → Value → Prop
  | non : TyV K M .non (.type "NoneType")
  | bl (b : Bool) : TyV K M (.bl b) (.type "bool")
  | int (i : Int) : TyV K M (.int i) (.type "int")
  | str (x : Str) : TyV K M (.str x) (.type "str")
  | tup (xs : List Val) : TyV K M (.tup xs) (.type "tuple")
  | lst {d : Val} {xs : List Val} : Vw M d (.lst xs) → TyV K M d (.type "list")
  | ob {C : Addr} {d : Val} {fs : List (Str × Val)} : Ob M C d fs → Cls K C → PySem.W.findIn K (.ref C) "__class__" = some (some (.builtin "object.__class__")) → PySem.W.specialIn K (.builtin "object.__class__") "__get__" = some (some (.builtin "getset_descriptor.__get__")) →
      PySem.W.takesIn K (.builtin "object.__class__") = some true → PySem.W.mroIn K C (.type "object") = some true → TyV K M d (.ref C)
theorem tyx_l {K : PySem.W.Frag} {H : Hp} {p : Addr} {xs : List V} (h : SqL K H p xs) : TyX K H (.ref p) (.type "list") := by
  rcases h with (h | ⟨o, h⟩) | h
  · exact .base (.lst h)
  · exact .base (.frz h)
  · obtain ⟨its, _, o, e, c, _⟩ := h
    exact .kList e c
theorem tyx_t {K : PySem.W.Frag} {H : Hp} {p : Addr} {xs : List V} (h : SqT K H p xs) : TyX K H (.ref p) (.type "tuple") := by
  rcases h with (h | ⟨o, h⟩) | h
  · exact .base (.tup h)
  · exact .fTuple h
  · obtain ⟨its, _, o, e, c, _⟩ := h
    exact .kTuple e c
theorem TyV.tyx {K : PySem.W.Frag} {Hi H : Hp} {t : Value} {v : V} (h : TyV K M d t) (ok : Ok K Hi M H) (r : Rep K Hi d v) : TyX K H v t := by
  cases h with
  | non => cases r; exact .base .non
  | bl b => cases r; exact .base (.bl b)
  | int b => cases r; exact .base (.int b)
  | str b => cases r; exact .base (.str b)
  | tup xs => cases r with
    | tup hq ra => exact tyx_t (sameT ok.im hq)
  | lst hv =>
    obtain ⟨p, ys, rfl, hq, _⟩ := hv.repL ok r
    exact tyx_l hq
  | ob ho c h1 h2 h3 h4 =>
    obtain ⟨p, dx, gs, rfl, hq, _⟩ := ho.rep ok r
    exact .base (.ins hq c h1 h2 h3 h4)
/-- a class as a value -/
inductive ClV : Val → Value → Prop
  | ty (n : String) : ClV (.ty n) (.type n)
  | own (C : Addr) : ClV (.ptr C) (.ref C)
theorem ae_isi {t u : Value} {bb : Bool} (hm : X.mg "isinstance" = none) (ha : aV X a Γ M d1) (hb : aV X b Γ M d2) (hc : ClV d2 u) (ht : TyV X.K M d1 t) (hk : PySem.W.kitOne X.K t u = some bb) (h : P (.bl bb) M) (hg : Gl X "isinstance" := by rfl)
    (hs : starEach [a, b] X.env = (false, eval a X.env) :: starEach [b] X.env := by rfl) (hs2 : starEach [b] X.env = (false, eval b X.env) :: starEach [] X.env := by rfl) (hpl : (backTo pos (starEach [b] X.env)).any (·.1) = false := by rfl) : aE X (.Call (.Name "isinstance" p1) [a, b] [] pos) Γ M P :=
  ae_callB call_isi hm (by decide +kernel) (aa_cons (ha.val (aa_cons (hb.val (aa_nil fun Hi H vs ok r Q q => by
    cases r with
    | cons r1 r2 =>
      cases r2 with
      | cons r2 r3 =>
        cases r3
        refine ⟨_, _, t, u, bb, rfl, ?_, ht.tyx ok r1, hk, q _ _ _ Hi H h (Same.refl _) ok (.bl _)⟩
        cases hc with
        | ty n => cases r2; exact .ty n
        | own C => cases r2; exact .own C)) hs2)) hs) hg (he := hs) (hpl := hpl)
/-- a built-in class by its name -/
theorem av_ty {T : String} (hm : X.mg x = none) (hv : bootBuiltins x = some (.type T)) (hg : Gl X x := by rfl) (hn : x ≠ "__name__" := by decide) (hd : (x == ("__debug__" : Str)) = false := by decide) : aV X (.Name x pos) Γ M (.ty T) :=
  ae_c (v := .ty T) (pe_bltn hg hm hv rfl hn hd) (fun _ _ => .ty T) ⟨rfl, rfl⟩

/-! ### all, sum, sorted, min, max -/
theorem ae_all (hm : X.mg "all" = none) (hc : X.calm = true) (ha : aE X a Γ M fun d M' => ∃ bs : List Bool, Vw M' d (.lst (bs.map .bl)) ∧ P (.bl (bs.all id)) M') (hg : Gl X "all" := by rfl) (hst : starEach [a] X.env = [(false, eval a X.env)] := by rfl) : aE X (.Call (.Name "all" p1) [a] [] pos) Γ M P :=
  ae_callB (cr_all hc) hm (by decide +kernel) (aa_cons (ha.mono fun d M' ⟨bs, hv, h⟩ => aa_nil fun Hi H vs ok r Q q => by
    cases r with
    | cons r1 r2 =>
      cases r2
      obtain ⟨p, ys, rfl, hq, ra⟩ := hv.repL ok r1
      rw [ra.bls] at hq
      exact ⟨p, bs, rfl, hq, q _ _ _ Hi H h (Same.refl _) ok (.bl _)⟩) hst) hg (he := hst) (hpl := rfl)
theorem ae_sum (hm : X.mg "sum" = none) (hc : X.calm = true) (ha : aE X a Γ M fun d M' => ∃ ns : List Int, Vw M' d (.lst (ns.map .int)) ∧ P (.int ns.sum) M') (hg : Gl X "sum" := by rfl) (hst : starEach [a] X.env = [(false, eval a X.env)] := by rfl) : aE X (.Call (.Name "sum" p1) [a] [] pos) Γ M P :=
  ae_callB (cr_sum hc) hm (by decide +kernel) (aa_cons (ha.mono fun d M' ⟨bs, hv, h⟩ => aa_nil fun Hi H vs ok r Q q => by
    cases r with
    | cons r1 r2 =>
      cases r2
      obtain ⟨p, ys, rfl, hq, ra⟩ := hv.repL ok r1
      rw [ra.ints] at hq
      exact ⟨p, bs, rfl, hq, q _ _ _ Hi H h (Same.refl _) ok (.int _)⟩) hst) hg (he := hst) (hpl := rfl)
theorem ae_sorted (hm : X.mg "sorted" = none) (ha : aE X a Γ M fun d M' => ∃ ns : List Int, Vw M' d (.lst (ns.map .int)) ∧ ∀ (ns' : List Int) (p : Addr), ns'.Perm ns → ns'.Pairwise (· ≤ ·) → P (.ptr p) ((p, .lst (ns'.map .int)) :: M')) (hg : Gl X "sorted" := by rfl) (hst : starEach [a] X.env = [(false, eval a X.env)] := by rfl) : aE X (.Call (.Name "sorted" p1) [a] [] pos) Γ M P :=
  ae_callB cr_sortedI hm (by decide +kernel) (aa_cons (ha.mono fun d M' ⟨ns, hv, h⟩ => aa_nil fun Hi H vs ok r Q q => by
    cases r with
    | cons r1 r2 =>
      cases r2
      obtain ⟨p, ys, rfl, hq, ra⟩ := hv.repL ok r1
      rw [ra.ints] at hq
      exact ⟨p, ns, rfl, hq, fun ns' l hp hs hl => q _ _ _ _ _ (h ns' l hp hs) (Same.refl _) (ok.new hl ⟨_, rfl, .ofInts ns'⟩) (.ptr l)⟩) hst) hg (he := hst) (hpl := rfl)
theorem ae_min2 (hm : X.mg "min" = none) (hc : X.calm = true) (ha : aV X a Γ M (.int i)) (hb : aV X b Γ M (.int j)) (h : P (.int (if j < i then j else i)) M) (hg : Gl X "min" := by rfl)
    (hs : starEach [a, b] X.env = (false, eval a X.env) :: starEach [b] X.env := by rfl) (hs2 : starEach [b] X.env = (false, eval b X.env) :: starEach [] X.env := by rfl) (hpl : (backTo pos (starEach [b] X.env)).any (·.1) = false := by rfl) : aE X (.Call (.Name "min" p1) [a, b] [] pos) Γ M P :=
  ae_callB (call_min2 hc) hm (by decide +kernel) (aa_cons (ha.val (aa_cons (hb.val (aa_nil fun Hi H vs ok r Q q => by
    cases r with
    | cons r1 r2 =>
      cases r2 with
      | cons r2 r3 =>
        cases r3
        cases r1
        cases r2
        exact ⟨i, j, rfl, q _ _ _ Hi H h (Same.refl _) ok (.int _)⟩)) hs2)) hs) hg (he := hs) (hpl := hpl)
theorem ae_max2 (hm : X.mg "max" = none) (hc : X.calm = true) (ha : aV X a Γ M (.int i)) (hb : aV X b Γ M (.int j)) (h : P (.int (if j > i then j else i)) M) (hg : Gl X "max" := by rfl)
    (hs : starEach [a, b] X.env = (false, eval a X.env) :: starEach [b] X.env := by rfl) (hs2 : starEach [b] X.env = (false, eval b X.env) :: starEach [] X.env := by rfl) (hpl : (backTo pos (starEach [b] X.env)).any (·.1) = false := by rfl) : aE X (.Call (.Name "max" p1) [a, b] [] pos) Γ M P :=
  ae_callB (call_max2 hc) hm (by decide +kernel) (aa_cons (ha.val (aa_cons (hb.val (aa_nil fun Hi H vs ok r Q q => by
    cases r with
    | cons r1 r2 =>
      cases r2 with
      | cons r2 r3 =>
        cases r3
        cases r1
        cases r2
        exact ⟨i, j, rfl, q _ _ _ Hi H h (Same.refl _) ok (.int _)⟩)) hs2)) hs) hg (he := hs) (hpl := hpl)

/-! ### + and * of lists and tuples -/
def rCatL (K : PySem.W.Frag) : R2 := fun x y H Q => ∃ l b xs zs, x = .ref l ∧ y = .ref b ∧ SqL K H l xs ∧ SqL K H b zs ∧ xs.length + zs.length ≤ sizeLine ∧ ∀ p, H p = none → Q (.ref p) (upd H p (.lst (xs ++ zs)))
theorem op_catL : OpR X (binaryOp .Add) (rCatL X.K) := by
  intro pins s σ H x y v u Q I rx ry h
  obtain ⟨l, b, xs, zs, rfl, rfl, hH, hB, hz, q⟩ := h
  cases rx
  cases ry
  obtain ⟨its, r, pl, z⟩ := I.list hH
  obtain ⟨its2, r2, pl2, z2⟩ := I.list hB
  have l1 := r.length
  have l2 := r2.length
  obtain ⟨⟨cl, dd, da, sl⟩, ho, hc, n, hd⟩ := pl.isList
  obtain ⟨⟨cl2, dd2, da2, sl2⟩, ho2, hc2, n2, hd2⟩ := pl2.isList
  obtain rfl : cl = .type "list" := hc
  obtain rfl : cl2 = .type "list" := hc2
  obtain rfl : da = .seq its.toArray n := hd
  obtain rfl : da2 = .seq its2.toArray n2 := hd2
  refine concat_meets ⟨_, ho, rfl⟩ ⟨_, ho2, rfl⟩ noFill_list_add seq_list_add PySem.F.slot_list_add PySem.F.entry_list_add (PySem.F.args_list_add_2 _ _) (list_addW l b its.toArray its2.toArray n n2 dd dd2 sl sl2 (by rw [List.size_toArray, List.size_toArray]; omega)) ⟨ho, ho2, ?_⟩
  rw [show its.toArray ++ its2.toArray = (its ++ its2).toArray by simp]
  exact ⟨.ref _, _, I.lnew (t' := s.toks) (r.append r2) (by rw [List.length_append]; omega), rfl, q _ I.fresh⟩
theorem rv_catL {xs ys : List Val} (h1 : Vw M d1 (.lst xs)) (h2 : Vw M d2 (.lst ys)) (hl : xs.length + ys.length ≤ sizeLine) (h : ∀ p, P (.ptr p) ((p, .lst (xs ++ ys)) :: M)) : RV X (rCatL X.K) d1 d2 M P := fun Hi H v w ok rv rw_ Q q => by
  obtain ⟨p, us, rfl, hq, ra⟩ := h1.repL ok rv
  obtain ⟨p', ws, rfl, hq', ra'⟩ := h2.repL ok rw_
  exact ⟨p, p', us, ws, rfl, rfl, hq, hq', by rw [← ra.length, ← ra'.length]; exact hl, fun l hl => q _ _ _ _ _ (h l) (Same.refl _) (ok.new hl ⟨_, rfl, ra.append ra'⟩) (.ptr l)⟩
theorem rv_catT {xs ys : List Val} (hl : xs.length + ys.length ≤ sizeLine) (h : P (.tup (xs ++ ys)) M) : RV X (rCatA X.K) (.tup xs) (.tup ys) M P := fun Hi H v w ok rv rw_ Q q => by
  cases rv with
  | @tup p us _ hq ra =>
    cases rw_ with
    | @tup p' ws _ hq' ra' =>
      refine ⟨p, p', us, ws, rfl, rfl, sameT ok.im hq, sameT ok.im hq', by rw [← ra.length, ← ra'.length]; exact hl, fun e => ?_, fun _ e => ?_, fun _ _ l hl => ?_⟩
      · subst e
        cases ra
        exact q _ _ _ Hi H h (Same.refl _) ok (.tup hq' ra')
      · subst e
        cases ra'
        rw [List.append_nil] at h
        exact q _ _ _ Hi H h (Same.refl _) ok (.tup hq ra)
      · have s2 := same_upd (o := .tup (us ++ ws)) (ok.none hl)
        exact q _ _ _ _ _ h s2 (ok.imm hl) (.tup (SqT.of upd_same) ((ra.append ra').mono s2))
end
end Ab

namespace Ab
open PySem PySem.Spec PyProof.Rows L2
section
variable {X : Cx} {Γ : Gam} {M : Mem} {P : Val → Mem → Prop} {e a b c o : Expr} {es : List Expr} {kws : List Keyword} {pos p1 p2 apos kpos : Pos} {k : AK} {d d1 d2 d3 : Val} {i j : Int} {x y m : Str} {n : Nat} {f C : Addr}

/-! ### repr of lists and tuples -/
def rRepr (K : PySem.W.Frag) : List V → Hp → VK → Prop := fun xs H Q => ∃ (p : Addr) (d : PyData), xs = [.ref p] ∧ Dp K H (.ref p) d ∧ d.showable = true ∧ d.hasDict = false ∧ d.depth ≤ 60 ∧ d.shown.length ≤ sizeLine ∧ Q (.str d.shown) H
theorem call_repr {n : Nat} (hr : Rm n X.A) : CallR X (.builtin "repr") (rRepr X.K) := by
  intro pins s σ H xs us Q I r h
  obtain ⟨p, d, rfl, hd, h1, h2, h3, h4, q⟩ := h
  obtain ⟨u, rfl, ru⟩ := vals1 r
  obtain rfl : u = Value.ref p := ru
  obtain ⟨as, rd⟩ := Dp.reads I d (.ref p) (.ref p) hd rfl
  have hu := hr.u64
  exact repr_of_reads' rd h1 (PyData.noDict_hsm h2) hr.gd (by omega) (fun _ _ z => z) (fun h' u tk hk => ⟨.str d.shown, H, I.kept (h' := h') (t' := tk) hk, ⟨_, rfl⟩, q⟩) h4
theorem rep_ref {K : PySem.W.Frag} {H : Hp} {d : Val} {v : V} {p : PyData} (r : Rep K H d v) (h : toD d = some p) (hl : (∃ xs, p = .list xs) ∨ ∃ xs, p = .tuple xs) : ∃ a, v = .ref a := by
  cases r <;> first | exact ⟨_, rfl⟩ | (rcases hl with ⟨_, rfl⟩ | ⟨_, rfl⟩ <;> cases h)
theorem ae_repr {n : Nat} (hr : Rm n X.A) (hm : X.mg "repr" = none) (ha : aE X a Γ M fun d M' => ∃ d' p, Vw M' d d' ∧ toD d' = some p ∧ ((∃ xs, p = .list xs) ∨ ∃ xs, p = .tuple xs) ∧ p.showable = true ∧ p.hasDict = false ∧ p.depth ≤ 60 ∧ p.shown.length ≤ sizeLine ∧ P (.str p.shown) M')
    (hg : Gl X "repr" := by rfl) (hst : starEach [a] X.env = [(false, eval a X.env)] := by rfl) : aE X (.Call (.Name "repr" p1) [a] [] pos) Γ M P :=
  ae_callB (call_repr hr) hm (by decide +kernel) (aa_cons (ha.mono fun d M' ⟨d', p, hv, hd, hl, h1, h2, h3, h4, h⟩ => aa_nil fun Hi H vs ok r Q q => by
    cases r with
    | cons r1 r2 =>
      cases r2
      have rH := hv.rep ok r1
      obtain ⟨l, rfl⟩ := rep_ref rH hd hl
      exact ⟨l, p, rfl, rep_dp _ rH hd, h1, h2, h3, h4, q _ _ _ Hi H h (Same.refl _) ok (.str _)⟩) hst) hg (he := hst) (hpl := rfl)

/-! ### [x] * n -/
theorem rv_repL {xs : List Val} {p : Addr} {jj : Int} {n : Nat} (hm : M[n]? = some (p, .lst xs)) (h1 : 0 ≤ jj) (h2 : jj < 2 ^ 31) (hl : xs.length * jj.toNat ≤ sizeLine) (h : ∀ q, P (.ptr q) ((q, .lst (List.replicate jj.toNat xs).flatten) :: M)) : RV X rRep (.ptr p) (.int jj) M P := fun Hi H v w ok rv rw_ Q q => by
  cases rv
  cases rw_
  obtain ⟨_, o, ho, ys, rfl, ra⟩ := ok.get hm
  refine ⟨p, jj, ys, rfl, rfl, ho, by omega, by omega, by rw [← ra.length]; exact hl, fun l hl => q _ _ _ _ _ (h l) (Same.refl _) (ok.new hl ⟨_, rfl, ?_⟩) (.ptr l)⟩
  have : ∀ m : Nat, RepA X.K Hi (List.replicate m xs).flatten (List.replicate m ys).flatten := by
    intro m
    induction m with
    | zero => exact .nil
    | succ m ih =>
      rw [List.replicate_succ, List.replicate_succ, List.flatten_cons, List.flatten_cons]
      exact ra.append ih
  exact this _

/-! ### dict displays -/
def aPr (X : Cx) (ps : List (Expr × Expr)) (Γ : Gam) (M : Mem) (P : List (Key × Val) → Mem → Prop) : Prop := ∀ Hi H σ, Ok X.K Hi M H → EnvR X.K Hi Γ σ → ∀ Q : List (V × V) → Hp → Prop,
  (∀ kvs M' (ws : List (Key × V)) Hi' H', P kvs M' → Same Hi Hi' → Ok X.K Hi' M' H' → RepK X.K Hi' kvs ws → Q (ws.map fun kv => (kV kv.1, kv.2)) H') → tPairs (ps.map fun p => (WE X p.1, WE X p.2)) σ H Q
theorem ap_nil {P : List (Key × Val) → Mem → Prop} (h : P [] M) : aPr X [] Γ M P := fun Hi H σ ok en Q q => q [] M [] Hi H h (Same.refl _) ok .nil
theorem ap_cons {P : List (Key × Val) → Mem → Prop} {kk : Str} {ps : List (Expr × Expr)} (hk : aV X a Γ M (.str kk)) (hv : aV X e Γ M d) (h : aPr X ps Γ M fun kvs M' => P ((.inr kk, d) :: kvs) M') : aPr X ((a, e) :: ps) Γ M P := fun Hi H σ ok en Q q => by
  refine hk Hi H σ ok en _ fun x M1 v1 Hi1 H1 h1 s1 ok1 r1 => ?_
  obtain ⟨rfl, rfl⟩ := h1
  cases r1
  refine hv Hi1 H1 σ ok1 (en.mono s1) _ fun x M2 v2 Hi2 H2 h2 s2 ok2 r2 => ?_
  obtain ⟨rfl, rfl⟩ := h2
  have s12 := s1.trans s2
  refine h Hi2 H2 σ ok2 (en.mono s12) _ fun kvs M' ws Hi' H' h3 s3 ok3 r3 => ?_
  exact q ((.inr kk, _) :: kvs) M' ((.inr kk, v2) :: ws) Hi' H' h3 (s12.trans s3) ok3 (.cons (r2.mono s3) r3)
def mergeA (kvs more : List (Key × Val)) : List (Key × Val) := more.foldl (fun acc kv => dPut acc kv.1 kv.2) kvs
theorem rep_merge {K : PySem.W.Frag} {H : Hp} : ∀ {more : List (Key × Val)} {ws : List (Key × V)} {kvs : List (Key × Val)} {gs : List (Key × V)}, RepK K H more ws → RepK K H kvs gs → RepK K H (mergeA kvs more) (mergeK gs ws)
  | [], _, _, _, .nil, r => r
  | (kk, dd) :: more, _, _, _, .cons (v := v) (gs := gs) a t, r => by
    show RepK K H (mergeA (dPut _ kk dd) more) (mergeK (putK _ kk v) gs)
    exact rep_merge t (r.put a)
theorem disp_of {ps : List (Expr × Expr)} {keys : List (Option Expr)} {values : List Expr} (hpp : PPs X pos keys values (ps.map fun p => (WE X p.1, WE X p.2))) (hall : keys.all (·.isSome) = true) (hl : keys.length = values.length) (h0 : keys ≠ []) (h15 : keys.length ≤ 15)
    (h : ∀ p, aPr X ps Γ ((p, .dk []) :: M) fun kvs M' => ∃ M2, M' = (p, .dk []) :: M2 ∧ kvs.length ≤ 15 ∧ P (.ptr p) ((p, .dk (mergeA [] kvs)) :: M2)) : aE X (.Dict keys values pos) Γ M P := fun Hi H σ ok en Q q => by
  refine ⟨_, pe_disp hpp hall hl h0 h15, fun p hp => ?_⟩
  refine h p Hi _ σ (ok.new hp ⟨[], rfl, .nil⟩) en _ fun kvs M' ws Hi' H' h1 s1 ok1 r1 => ?_
  obtain ⟨M2, rfl, h15', hP⟩ := h1
  obtain ⟨_, o, ho, gs, rfl, rk⟩ := ok1.ce p _ List.mem_cons_self
  cases rk
  exact ⟨ho, ws, rfl, by rw [← r1.length]; exact h15', q _ _ _ Hi' _ hP s1 (ok1.set (i := 0) rfl ⟨_, rfl, rep_merge r1 .nil⟩) (.ptr p)⟩
theorem ae_dict3 {a1 a2 a3 e1 e2 e3 : Expr} (h : ∀ p, aPr X [(a1, e1), (a2, e2), (a3, e3)] Γ ((p, .dk []) :: M) fun kvs M' => ∃ M2, M' = (p, .dk []) :: M2 ∧ kvs.length ≤ 15 ∧ P (.ptr p) ((p, .dk (mergeA [] kvs)) :: M2)) : aE X (.Dict [some a1, some a2, some a3] [e1, e2, e3] pos) Γ M P :=
  disp_of (pps_cons pe_we pe_we (pps_cons pe_we pe_we (pps_cons pe_we pe_we pps_nil))) rfl rfl (fun z => nomatch z) (Nat.le_of_ble_eq_true rfl) h

/-! ### a, b, c = e1, e2, e3 -/
theorem ps_par3 {n1 n2 n3 : Nat} {x y z : Str} {e1 e2 e3 : Expr} {ta : TA} {px py pz pt : Pos} {kt k2 pt2} (hc : X.calm = true) (hN : X.N.Nodup) (hi : X.N[n1]? = some x) (hj : X.N[n2]? = some y) (hk : X.N[n3]? = some z) (h12 : n1 ≠ n2) (h13 : n1 ≠ n3) (h23 : n2 ≠ n3)
    (hx : X.env.scope.names.lookup x = some .local) (hy : X.env.scope.names.lookup y = some .local) (hz : X.env.scope.names.lookup z = some .local) (ha : PA X [e1, e2, e3] ta)
    (hw : swappedStores [.Tuple [.Name x px, .Name y py, .Name z pz] kt pt] (.Tuple [e1, e2, e3] k2 pt2) X.env = pure (some [x, y, z]))
    (hs : swapsWithSole [.Tuple [.Name x px, .Name y py, .Name z pz] kt pt] (.Tuple [e1, e2, e3] k2 pt2) pos.line X.env = pure false) :
    PS X (.Assign [.Tuple [.Name x px, .Name y py, .Name z pz] kt pt] (.Tuple [e1, e2, e3] k2 pt2) pos) (fun D σ H => ta σ H fun vs H1 => ∃ v1 v2 v3, vs = [v1, v2, v3] ∧ D.nx (((σ.set n1 (some v1)).set n2 (some v2)).set n3 (some v3)) H1) := by
  refine ⟨fun pins s σ H D I h => ?_⟩
  rw [exec_Assign_arm, hs]
  refine wpAny_bind (wpAny_standAt (wpAny_bind (wpAny_pure ?_)))
  rw [if_neg (by decide)]
  refine wpAny_bind (Tuple_ (thn (ha.run _ pins s σ H _ I h) fun us s1 ⟨vs, H1, I1, r1, v1, v2, v3, e1, q1⟩ => ?_))
  subst e1
  obtain ⟨u1, u2, u3, rfl, ru1, ru2, ru3⟩ : ∃ u1 u2 u3, us = [u1, u2, u3] ∧ RelV v1 u1 ∧ RelV v2 u2 ∧ RelV v3 u3 := by
    cases r1 with
    | cons p q =>
      cases q with
      | cons p' q' =>
        cases q' with
        | cons p'' q'' =>
          cases q''
          exact ⟨_, _, _, rfl, p, p', p''⟩
  refine wpAny_newObj_type ?_ (by show 3 ≤ sizeLine; decide)
  have I2 : Inv X pins σ H1 { s1 with heap := s1.heap.push { cls := .type "tuple", data := .seq [u1, u2, u3].toArray } } := I1.kept (t' := s1.toks) fun b o e => Heap.get?_push_of_some _ e
  rw [hw]
  refine wpAny_bind (wpAny_pure ?_)
  show wpAny (model X.prog X.w) X.A (do rule "assign.swapped-stores"; let items ← unpackItems (.ref s1.heap.objs.size) 3 none; assignInOrder [fun v => bindName X.env z v, fun v => bindName X.env y v, fun v => bindName X.env x v] items.reverse; pure Flow.next) _ _ _
  refine wpAny_bind (wpAny_rule (wpAny_bind (unpackItems_tuple (items := #[u1, u2, u3]) (I.ok.hd hc) (IsTup.new s1.heap _) fun h' hx' => ?_)))
  have I3 := I2.kept (h' := h') (t' := s1.toks) fun b o e => hx' b o (Nat.ne_of_lt (Heap.lt_size e)) e
  show wpAny _ _ (assignInOrder [fun v => bindName X.env z v, fun v => bindName X.env y v, fun v => bindName X.env x v] [u3, u2, u1] >>= fun _ => pure Flow.next) _ _ _
  refine wpAny_bind (assignInOrder_cons (wpAny_bindName (store_ok I3 hN hk (.inl hz) ru3 (fun s2 I4 => ?_) (.inr hz))))
  refine assignInOrder_cons (wpAny_bindName (store_ok I4 hN hj (.inl hy) ru2 (fun s3 I5 => ?_) (.inr hy)))
  refine assignInOrder_cons (wpAny_bindName (store_ok I5 hN hi (.inl hx) ru1 (fun s4 I6 => assignInOrder_nil (wpAny_pure ?_)) (.inr hx)))
  have e : ((σ.set n3 (some v3)).set n2 (some v2)).set n1 (some v1) = ((σ.set n1 (some v1)).set n2 (some v2)).set n3 (some v3) := by
    rw [List.set_comm _ _ (Ne.symm h12), List.set_comm _ _ (Ne.symm h13), List.set_comm _ _ (Ne.symm h23)]
  rw [e] at I6
  exact ⟨_, H1, I6, q1⟩
theorem as_par3 {x y z : Str} {e1 e2 e3 : Expr} {px py pz pt : Pos} {kt k2 pt2} (n1 n2 n3 : Nat) (hN : X.N.Nodup) (hc : X.calm = true) (he : aA X [e1, e2, e3] Γ M fun ds M' => ∃ d1 d2 d3, ds = [d1, d2, d3] ∧ k.nx (((Γ.set n1 (some d1)).set n2 (some d2)).set n3 (some d3)) M')
    (h12 : n1 ≠ n2 := by decide) (h13 : n1 ≠ n3 := by decide) (h23 : n2 ≠ n3 := by decide) (hi : X.N[n1]? = some x := by rfl) (hj : X.N[n2]? = some y := by rfl) (hk : X.N[n3]? = some z := by rfl) (hx : X.env.scope.names.lookup x = some .local := by rfl) (hy : X.env.scope.names.lookup y = some .local := by rfl) (hz : X.env.scope.names.lookup z = some .local := by rfl)
    (hw : swappedStores [.Tuple [.Name x px, .Name y py, .Name z pz] kt pt] (.Tuple [e1, e2, e3] k2 pt2) X.env = pure (some [x, y, z]) := by rfl)
    (hs : swapsWithSole [.Tuple [.Name x px, .Name y py, .Name z pz] kt pt] (.Tuple [e1, e2, e3] k2 pt2) pos.line X.env = pure false := by rfl) : aS X (.Assign [.Tuple [.Name x px, .Name y py, .Name z pz] kt pt] (.Tuple [e1, e2, e3] k2 pt2) pos) Γ M k := fun Hi H σ ok en D q => by
  refine ⟨_, ps_par3 hc hN hi hj hk h12 h13 h23 hx hy hz pa_wa hw hs, ?_⟩
  refine he Hi H σ ok en _ fun ds M1 vs Hi1 H1 h1 s1 ok1 r1 => ?_
  obtain ⟨d1, d2, d3, rfl, h2⟩ := h1
  cases r1 with
  | cons r1 r2 =>
    cases r2 with
    | cons r2 r3 =>
      cases r3 with
      | cons r3 r4 =>
        cases r4
        exact ⟨_, _, _, rfl, q.nx _ _ _ Hi1 H1 h2 s1 ok1 ((((en.mono s1).set r1).set r2).set r3)⟩
end

/-! ### a def with a star and keyword-only parameters -/
section
variable {P : Program} {w : World} {K : PySem.W.Frag} {mg : Str → Option Value} {base : Heap}
/-- def f(a, *v, k): called f(x, .., k = y) -/
theorem fnx_star {x qual : Str} {params : Arguments} {body : List Stmt} {sc : Scope} {kws : List (Str × V)} {f : Addr} {fd : FuncData} {N : List Str} {pa pv pk : Str} {k : Nat} {s0 : ASp} (F : FunD K x qual params body sc [] kws f fd) (S : FnScope N [pa, pk, pv] sc)
    (hb : ∀ (kV doc pm : Value) (an : Option Addr) (cdv ct u w : Value) (us : List Value), bindArgs (PySem.W.fnOf x qual params body sc .none kV doc pm an cdv ct) ⟨u :: us, [(pk, w)]⟩ = (newTuple us >>= fun t => pure [(pa, u), (pk, w), (pv, t)]))
    (hbody : BodyOk P w K mg base k f N qual sc body s0) : FnX P w K mg base (k + 1) f [pk] (spX K fun ds es M R => ∃ d ds' e, ds = d :: ds' ∧ es = [e] ∧ ds'.length ≤ sizeLine ∧ s0 [d, e, .tup ds'] M R) := by
  refine ⟨fun A outer s H us ws vs zs Q hr e0 r rz hz hsp => ?_⟩
  obtain ⟨Hi, M, ds, es, R, ra, re, ok, ⟨d, ds', ed, e1, e2, hl, hs⟩, q⟩ := hsp
  subst e1 e2
  obtain ⟨oc, od, dV, kV, doc, pm, an, cdv, ct, osl, rfl, lk, hcd, hD, _⟩ := F.ex
  obtain ⟨_, rfl⟩ : ([] : List V) = [] ∧ dV = .none := by
    rcases hD with h | ⟨e, _⟩
    · exact h
    · exact absurd rfl e
  cases ra with
  | @cons _ v0 _ vs' r0 ra =>
  cases re with
  | @cons _ z0 _ zs' rz0 re =>
  cases re
  cases r with
  | @cons _ u0 _ us' ru0 r =>
  cases rz with
  | @cons _ w0 _ ws' rw0 rz =>
  cases rz
  have hn : H s.heap.objs.size = none := e0.hok.fresh (Nat.le_refl _)
  have hl2 : us'.length ≤ sizeLine := by rw [← r.length, ← ra.length]; exact hl
  refine StX.run_bnd (CX := CX0) (E := E0) (G := fun xs H2 => ∃ p, H p = none ∧ xs = [v0, z0, .ref p] ∧ H2 = upd H p (.tup vs')) lk hcd S hr.room e0 (fun A' Ex Q' h => ?_) fun s2 H2 xs hG hr' => ?_
  · show wpAny (model P w) A' (bindArgs _ ⟨u0 :: us', [(pk, w0)]⟩) Q' Ex s
    rw [hb]
    refine wpAny_bind (wpAny_newTuple (wpAny_pure ?_) hl2)
    have new : ObjOk P w (upd H s.heap.objs.size (.tup vs')) (s.heap.push ({ cls := .type "tuple", data := .seq us'.toArray } : Obj)) s.heap.objs.size (.tup vs') := ⟨by rw [← ra.length]; exact hl, us', r, ⟨_, Heap.get?_push_size _ rfl, rfl, _, rfl⟩⟩
    have un := StX.un_laid (fs := frs outer) (s := s) (o := ({ cls := .type "tuple", data := .seq us'.toArray } : Obj)) (u := .tup vs') hn
    exact h _ _ [v0, z0, .ref s.heap.objs.size] [u0, w0, .ref s.heap.objs.size] (StX.env0_laid e0 new) un rfl (fun _ _ z => z) (.cons ru0 (.cons rw0 (.cons rfl .nil))) rfl ⟨_, hn, rfl, rfl⟩
  · obtain ⟨p, hp, rfl, rfl⟩ := hG
    have s2' := same_upd (o := .tup vs') (ok.none hp)
    obtain ⟨t, pp, z⟩ := body_of (hbody cdv A outer s2 _ E0 (hr.deeper _)) (Q := Q) (vs := [v0, z0, .ref p]) ⟨_, M, [d, ed, .tup ds'], R, .cons (r0.mono s2') (.cons (rz0.mono s2') (.cons (.tup (SqT.of upd_same) (ra.mono s2')) .nil)), ok.imm hp, hs, q.up s2'⟩
    exact ⟨t, pp.nox, z⟩
end
end Ab

namespace Ab
open PySem PySem.Spec PyProof.Rows L2
/-! the end of a law: its def runs in the claim's own surroundings, where nothing is guarded -/
/-- only the script is known of -/
def hpS (a : Addr) (o : Obj) (xs : List V) : Hp := fun b => if b = a then some (.frz o (.lst xs)) else none
theorem run_law {P : Program} {w : World} {K : PySem.W.Frag} {mg mb : Str → Option Value} {k : Nat} {fa a : Addr} {sp : List V → List V → Hp → VK → Prop} {s : Shared} {vs : List Value} {ns : List Int}
    (KX : K.In s.heap) (hns : s.heap.Ns mainGlobals mg) (hbl : s.heap.Ns builtinsNs mb) (hbb : ∀ x : Str, x ≠ "__name__" → mb x = bootBuiltins x) (hlim : s.heap.NoLimit) (hg : s.gens = #[])
    (ha : s.heap.get? a = some { cls := .type "list", data := .seq vs.toArray }) (hi : IntsAre vs ns) (hl : ns.length ≤ sizeLine) (hr : Rm k callerA)
    (F : ∀ bs : Heap, K.In bs → bs.Ns mainGlobals mg → FnX P w K mg bs k fa [] sp) (hsp : ∀ H : Hp, SqL K H a (ns.map V.int) → sp [.ref a] [] H (fun v _ => v = .bl true)) :
    codeAny (model P w) callerA (.call (.ref fa) ⟨[.ref a], []⟩) (fun r s' => r = .ok (.ret (.bool true)) ∧ OldK s.heap s'.heap ∧ s'.os = s.os ∧ AllBare s'.gens) s := by
  -- H: nothing, or the script alone; frozen things come out as they went in
  have go : ∀ H : Hp, (∀ b o, H b = some o → b = a ∧ K.lookup a = none ∧ ∃ ob xs, o = .frz ob (.lst xs)) → HOk P w H s.heap → SqL K H a (ns.map V.int) →
      codeAny (model P w) callerA (.call (.ref fa) ⟨[.ref a], []⟩) (fun r s' => r = .ok (.ret (.bool true)) ∧ OldK s.heap s'.heap ∧ s'.os = s.os ∧ AllBare s'.gens) s := by
    intro H only hok hS
    have free : ∀ {b : Addr} {o : Obj} {es : Array DictEntry} {ep : Nat}, s.heap.get? b = some o → o.data = .dict es ep → H b = none := fun {b o es ep} e dd => by
      cases q : H b with
      | none => rfl
      | some u =>
        obtain ⟨rfl, _⟩ := only b u q
        rw [ha] at e
        cases e
        exact nomatch (show Data.seq vs.toArray _ = Data.dict es ep from dd)
    have nsOf : ∀ {b : Addr} {m : Str → Option Value}, s.heap.Ns b m → (hidT s.heap H).Ns b m := fun {b m} ⟨o, es, ep, e, dd, r⟩ => ⟨o, es, ep, hidT_get e (free e dd), dd, r⟩
    have kin : K.In (hidT s.heap H) := fun b o e => hidT_get (KX b o e) (by
      cases q : H b with
      | none => rfl
      | some u =>
        obtain ⟨rfl, hk, _⟩ := only b u q
        rw [hk] at e
        cases e)
    obtain ⟨mc, l1, l2⟩ := hlim
    have e0 : Env0 P w K mg (hidT s.heap H) callerA [] s H := ⟨rfl, ⟨kin, nsOf hns, ⟨mb, nsOf hbl, hbb⟩, mc, nsOf l1, l2⟩, fun b o e => of_hidT e, Nat.le_of_eq (hidT_size _ _), trivial, (fun b hb => nomatch hb), hok, .of_eq hg⟩
    refine codeAny_mono ((F _ kin (nsOf hns)).run callerA [] s H [.ref a] [] [.ref a] [] _ hr e0 (.cons rfl .nil) .nil rfl (hsp H hS)) fun r s' h => ?_
    cases r with
    | error e => exact False.elim h
    | ok fl =>
      cases fl with
      | ret u =>
        obtain ⟨v, H', os, bare, un, hok', rv, rfl⟩ := h
        obtain rfl : u = Value.bool true := rv
        refine ⟨rfl, OldK.of_keep fun b o e => ?_, os, bare⟩
        cases q : H b with
        | none => exact un.keep b o e q (fun z => nomatch z) (fun z => nomatch z)
        | some u =>
          obtain ⟨rfl, _, ob, xs, rfl⟩ := only b u q
          have e1 := (hok _ _ q).1
          rw [e] at e1
          cases e1
          exact (hok' _ _ (un.frzs _ _ _ q)).1
      | next => exact False.elim h
      | brk => exact False.elim h
      | cont => exact False.elim h
  have rv := vals_ints hi
  cases hk : K.lookup a with
  | some o =>
    have e := KX a o hk
    rw [ha] at e
    cases e
    refine go (fun _ => none) (fun _ _ z => nomatch z) (fun _ _ z => nomatch z) (.inr ⟨_, vs.toArray, _, hk, rfl, rfl, rfl, ?_, by simpa using rv⟩)
    rw [List.size_toArray, hi.length]
    exact hl
  | none =>
    refine go (hpS a { cls := .type "list", data := .seq vs.toArray } (ns.map V.int)) (fun b o z => ?_) (fun b o z => ?_) (.inl (.inr ⟨_, if_pos rfl⟩))
    · unfold hpS at z
      by_cases hb : b = a
      · rw [if_pos hb] at z
        cases z
        exact ⟨hb, hk, _, _, rfl⟩
      · rw [if_neg hb] at z
        cases z
    · unfold hpS at z
      by_cases hb : b = a
      · rw [if_pos hb] at z
        cases z
        subst hb
        exact ⟨ha, by rw [List.length_map]; exact hl, vs, _, rv, ha⟩
      · rw [if_neg hb] at z
        cases z
/-- a law's promise: the script's ints in, True out -/
def aLaw : ASx := fun ds _ M R => ∃ ns : List Int, ds = [.lst (ns.map .int)] ∧ ns.length ≤ 63 ∧ R (.bl true) M
theorem walk_x {l : PySem.W.OpenLaw} {k : Nat} {q : Program} {loose : List Str} {XP : (Str → Option Value) → Heap → Prop} {YP : World → Heap → Prop} {d : DefRec} {K : Params → PySem.W.Frag}
    (hn : l.most = some 63) (hdf : d.params.defaults = []) (hr : Room k callerA) (hY : ∀ (w : World) (h : Heap), YP w h → (K w.params).In h)
    (F : ∀ (w : World) (mg : Str → Option Value) (fa : Addr) (h : Heap), (K w.params).In h → h.Ns mainGlobals mg → mg d.name = some (.ref fa) →
        ∀ bs : Heap, (K w.params).In bs → bs.Ns mainGlobals mg → FnX l.prog w (K w.params) mg bs k fa [] (spX (K w.params) aLaw)) :
    PySem.W.WalkO q loose XP YP l.row.toRowW d [] (fun f vs => PySem.call f vs) := by
  refine Att.attach_call hn hdf fun w s₀ s₁ mg mb fa o pm cd doc a vs ns G Y ho hd hcd hmg hobj hints hlen hg => ?_
  have KX := hY w _ Y
  refine run_law KX G.T.g G.T.b G.T.builtins G.T.nolimit hg hobj hints (Nat.le_trans hlen (by decide)) ⟨hr, rfl⟩ (F w mg fa _ KX G.T.g hmg) fun H hS => ?_
  refine ⟨H, [], [.lst (ns.map .int)], [], fun d _ => d = .bl true, .cons (.lst hS (.ofInts ns)) .nil, .nil, Ok.all H, ⟨ns, rfl, hlen, rfl⟩, ?_⟩
  rintro d M' v Hi' H' rfl _ _ r
  cases r
  rfl
end Ab

namespace Ab
open PySem PySem.Spec PyProof.Rows L2
section
variable {X : Cx} {Γ : Gam} {M : Mem} {P : Val → Mem → Prop} {e a b c o : Expr} {es : List Expr} {pos p1 p2 apos kpos : Pos} {k : AK} {d d1 d2 d3 : Val} {i j : Int} {x y m : Str} {n : Nat} {f C : Addr}
theorem av_neg (h : aV X a Γ M (.int i)) : aV X (.UnaryOp .USub a pos) Γ M (.int (-i)) := fun Hi H σ ok en Q q => by
  refine ⟨_, pe_un un_neg pe_we, ?_⟩
  refine h Hi H σ ok en _ fun x M1 v Hi1 H1 h1 s1 ok1 r1 => ?_
  obtain ⟨rfl, rfl⟩ := h1
  cases r1
  exact ⟨i, rfl, q _ _ _ Hi1 H1 ⟨rfl, rfl⟩ s1 ok1 (.int _)⟩
/-- a comprehension whose items are told by their number, and that changes nothing -/
theorem ae_lcP {tg iter elt : Expr} {scope : Scope} (own : List (Str × Nat)) {n : Nat} {it : Nat → Val} (g : Nat → Val) (hc : X.calm = true) (hN : X.N.Nodup) (ok : BlkOk X.N X.env.scope scope own)
    (hi : aI X tg iter Γ M n it (fun _ => True) (fun M' => M' = M))
    (hs : ∀ i acc D, i < n → bG X scope (own.map (·.2)) tg (it i) (wipeG Γ (own.map (·.2))) ((D, .lst acc) :: M) fun Γ2 M2 => bE X scope elt Γ2 M2 fun y M4 => y = g i ∧ M4 = (D, .lst acc) :: M)
    (hn : n ≤ 100000) (hd : P (.lst ((List.range n).map g)) M) (hf : ∀ x, foldedSetIterable iter X.env x = pure x := by intro _; rfl) :
    aE X (.ListComp elt [⟨tg, iter, [], 0⟩] scope pos) Γ M P := by
  refine ae_frz (ae_lcC (it := it) own (fun i acc M' => M' = M ∧ acc = (List.range i).map g) hc hN ok ?_ (fun _ _ _ _ _ => trivial) (fun _ _ _ => trivial) ?_ hn ?_ hf)
  · intro Hi H σ ok en R q
    exact hi Hi H σ ok en R fun J M1 Hi1 H1 h1 => q J M1 Hi1 H1 ⟨h1, rfl⟩
  · rintro i acc M' D hi' _ ⟨rfl, rfl⟩ s H C cl fp
    intro Hi1 H1 σ1 v1 ok1 en1 r1 Q1 q1
    refine hs i _ D hi' s H C cl fp Hi1 H1 σ1 v1 ok1 en1 r1 Q1 fun Γ2 M2 σ2 Hi2 H2 h2 => q1 Γ2 M2 σ2 Hi2 H2 fun s' H' C' cl' fp' => ats_nil ⟨fun _ s2 H2 C2 cl2 fp2 => (h2 s2 H2 C2 cl2 fp2).mono fun y M4 hy => ?_, fun z => nomatch z⟩
    obtain ⟨rfl, rfl⟩ := hy
    exact ⟨_, rfl, rfl, by rw [List.range_succ, List.map_append]; rfl⟩
  · rintro D acc M' ⟨rfl, rfl⟩
    exact ⟨D, _, _, rfl, rfl, hd⟩
end
theorem range_getD {α β : Type} (xs : List α) (h : α → β) (dd : β) : (List.range xs.length).map (fun i => (xs.map h).getD i dd) = xs.map h := by
  apply List.ext_getElem?
  intro i
  rw [List.getElem?_map, List.getElem?_map]
  by_cases hi : i < xs.length
  · rw [List.getElem?_range hi, List.getElem?_eq_getElem hi]
    simp [List.getD_eq_getElem?_getD, List.getElem?_eq_getElem hi]
  · rw [List.getElem?_eq_none_iff.mpr (by simp; omega), List.getElem?_eq_none_iff.mpr (by omega)]
    rfl
end Ab

namespace Ab
open PySem PySem.Spec PyProof.Rows L2
section
variable {X : Cx} {Γ : Gam} {M : Mem} {P : Val → Mem → Prop} {e a b c o : Expr} {es : List Expr} {pos p1 p2 apos kpos : Pos} {k : AK} {d d1 d2 d3 : Val} {i j : Int} {x y m : Str} {n : Nat} {f C : Addr}
/-! ### loops whose turns are known only when what they walk has been reckoned -/
def aJ (X : Cx) (tg iter : Expr) (Γ : Gam) (M : Mem) (P : Nat → (Nat → Val) → Mem → Prop) : Prop := ∀ Hi H σ, Ok X.K Hi M H → EnvR X.K Hi Γ σ → ∀ R : It → Hp → Prop,
  (∀ J n it M1 Hi1 H1, P n it M1 → Same Hi Hi1 → Ok X.K Hi1 M1 H1 →
    Walk J n (fun H' => ∃ Hi' M', Same Hi1 Hi' ∧ Ok X.K Hi' M' H') (fun i H' v H'' => ∀ Hi' M', Same Hi1 Hi' → Ok X.K Hi' M' H' → ∃ Hi'', Same Hi' Hi'' ∧ Ok X.K Hi'' M' H'' ∧ Rep X.K Hi'' (it i) v) → R J H1) → WI X tg iter σ H R
theorem aj_ai {tg iter : Expr} {n : Nat} {it : Nat → Val} {R : Mem → Prop} {P : Nat → (Nat → Val) → Mem → Prop} (h : aI X tg iter Γ M n it (fun _ => True) R) (hp : ∀ M1, R M1 → P n it M1) : aJ X tg iter Γ M P := fun Hi H σ ok en R' q =>
  h Hi H σ ok en R' fun J M1 Hi1 H1 h1 s1 ok1 w => q J n it M1 Hi1 H1 (hp M1 h1) s1 ok1 (w.mono (fun H' ⟨Hi', M', a, b⟩ => ⟨Hi', M', a, b, trivial⟩) fun i H' v H'' _ _ hy Hi' M' a b => hy Hi' M' a b trivial)
theorem aj_lst {tg : Expr} {P : Nat → (Nat → Val) → Mem → Prop} (ha : aE X a Γ M fun d M' => ∃ xs, d = .lst xs ∧ P xs.length (fun i => xs.getD i .non) M') : aJ X tg a Γ M P := fun Hi H σ ok en R' q => by
  refine ⟨_, pi_list pe_we, ?_⟩
  refine ha Hi H σ ok en _ fun d M1 v Hi1 H1 h1 s1 ok1 r1 => ?_
  obtain ⟨xs, rfl, hp⟩ := h1
  cases r1 with
  | @lst p ys _ hq ra =>
    refine ⟨p, rfl, ⟨ys, ok1.im.seq hq⟩, q _ xs.length _ M1 Hi1 H1 hp s1 ok1 ?_⟩
    rw [ra.length]
    refine walk_list.mono (fun H' hG => ?_) fun i H' v H'' hi hG hy Hi' M' s2 ok2 => ?_
    · obtain ⟨Hi', M', s2, ok2⟩ := hG
      exact ok2.im.seq (s2.seq hq)
    · obtain ⟨rfl, hv⟩ := hy
      exact ⟨Hi', Same.refl _, ok2, (Sq.at ra hv).mono s2⟩
theorem aj_range1 {tg : Expr} {P : Nat → (Nat → Val) → Mem → Prop} (hm : X.mg "range" = none) (ha : aE X a Γ M fun d M' => ∃ j : Int, d = .int j ∧ -(2 ^ 62) ≤ j ∧ j < 2 ^ 62 ∧ P j.toNat (fun i => .int (0 + i)) M') (hg : Gl X "range" := by rfl) (hs : starEach [a] X.env = [(false, eval a X.env)] := by rfl) :
    aJ X tg (.Call (.Name "range" p1) [a] [] pos) Γ M P := fun Hi H σ ok en R' q => by
  refine ⟨_, pi_range1 hg hm (pa_cons pe_we pa_nil hs) hs, ?_⟩
  refine ha Hi H σ ok en _ fun d M1 v Hi1 H1 h1 s1 ok1 r1 => ?_
  obtain ⟨j, rfl, hl, hh, hp⟩ := h1
  cases r1
  refine ⟨j, rfl, hl, hh, q _ _ _ M1 Hi1 H1 hp s1 ok1 ?_⟩
  refine walk_range.mono (fun _ _ => trivial) fun i H' v H'' hi hG hy Hi' M' s2 ok2 => ?_
  obtain ⟨rfl, rfl⟩ := hy
  exact ⟨Hi', Same.refl _, ok2, .int _⟩
theorem aj_range2 {tg : Expr} {P : Nat → (Nat → Val) → Mem → Prop} (hm : X.mg "range" = none) (ha : aA X [a, b] Γ M fun ds M' => ∃ lo hi : Int, ds = [.int lo, .int hi] ∧ (-(2 ^ 62) ≤ lo ∧ lo < 2 ^ 62 ∧ -(2 ^ 62) ≤ hi ∧ hi < 2 ^ 62) ∧ P (hi - lo).toNat (fun i => .int (lo + i)) M') (hg : Gl X "range" := by rfl)
    (hs : starEach [a, b] X.env = [(false, eval a X.env), (false, eval b X.env)] := by rfl) (hs2 : starEach [b] X.env = [(false, eval b X.env)] := by rfl) : aJ X tg (.Call (.Name "range" p1) [a, b] [] pos) Γ M P := fun Hi H σ ok en R' q => by
  refine ⟨_, pi_range2 hg hm pa_wa hs hs2, ?_⟩
  refine ha Hi H σ ok en _ fun d M1 v Hi1 H1 h1 s1 ok1 r1 => ?_
  obtain ⟨lo, hi, rfl, hb, hp⟩ := h1
  cases r1 with
  | cons r1 r2 =>
    cases r2 with
    | cons r2 r3 =>
      cases r3
      cases r1
      cases r2
      refine ⟨lo, hi, rfl, hb, q _ _ _ M1 Hi1 H1 hp s1 ok1 ?_⟩
      refine walk_range.mono (fun _ _ => trivial) fun i H' v H'' hi hG hy Hi' M' s2 ok2 => ?_
      obtain ⟨rfl, rfl⟩ := hy
      exact ⟨Hi', Same.refl _, ok2, .int _⟩
/-- a for, its invariant told behind what it walks -/
theorem as_forJ {tg iter : Expr} {body : List Stmt} (hp : PassesOwn (model X.prog X.w) X.A X.env X.xe) (hc : X.calm = true)
    (hi : aJ X tg iter Γ M fun n it M1 => ∃ I : Nat → Gam → Mem → Prop, I 0 Γ M1 ∧ (∀ i Γ M, i < n → I i Γ M → aG X tg (it i) Γ M fun Γ2 M2 => aSs X body Γ2 M2 { k with nx := I (i + 1), ct := I (i + 1), bk := k.nx }) ∧ ∀ Γ M, I n Γ M → k.nx Γ M)
    (hf : ∀ x, foldedSetIterable iter X.env x = pure x := by intro _; rfl) : aS X (.For tg iter body [] pos) Γ M k := fun Hi H σ ok en D q => by
  refine ⟨_, ps_for hp hc pi_wi pg_wg pss_wb hf, ?_⟩
  refine hi Hi H σ ok en _ fun J n it M1 Hi1 H1 h1 s1 ok1 w => ?_
  obtain ⟨I, h0, hs, hd⟩ := h1
  refine for_it w (fun i σ' H' => ∃ Γ' M' Hi', I i Γ' M' ∧ Same Hi1 Hi' ∧ Ok X.K Hi' M' H' ∧ EnvR X.K Hi' Γ' σ') ⟨Γ, M1, Hi1, h0, Same.refl _, ok1, en.mono s1⟩ ?_ ?_ ?_
  · rintro i σ' H' hi ⟨Γ', M', Hi', h2, s2, ok2, en2⟩
    exact ⟨Hi', M', s2, ok2⟩
  · rintro i v σ' H' H'' hi ⟨Γ', M', Hi', h2, s2, ok2, en2⟩ hy
    obtain ⟨Hi3, s3, ok3, r3⟩ := hy Hi' M' s2 ok2
    have s13 := (s1.trans s2).trans s3
    refine hs i Γ' M' hi h2 Hi3 H'' σ' v ok3 (en2.mono s3) r3 _ fun Γ4 M4 σ4 Hi4 H4 h4 s4 ok4 en4 => ?_
    have s24 := (s2.trans s3).trans s4
    exact h4 Hi4 H4 σ4 ok4 en4 _ ⟨fun Γ5 M5 σ5 Hi5 H5 h5 s5 ok5 en5 => ⟨Γ5, M5, Hi5, h5, s24.trans s5, ok5, en5⟩, (q.up (s13.trans s4)).rt, (q.up (s13.trans s4)).nx, fun Γ5 M5 σ5 Hi5 H5 h5 s5 ok5 en5 => ⟨Γ5, M5, Hi5, h5, s24.trans s5, ok5, en5⟩⟩
  · rintro σ' H' ⟨Γ', M', Hi', h2, s2, ok2, en2⟩
    exact q.nx Γ' M' σ' Hi' H' (hd Γ' M' h2) (s1.trans s2) ok2 en2
/-- what a comprehension must show, behind what it walks -/
abbrev LcJ (X : Cx) (scope : Scope) (vs : List Nat) (tg elt : Expr) (ifs : List Expr) (Γ : Gam) (P : Val → Mem → Prop) : Nat → (Nat → Val) → Mem → Prop := fun n it M1 => n ≤ 100000 ∧ ∃ J : Nat → List Val → Mem → Prop, J 0 [] M1 ∧
  (∀ i acc M D, i < n → acc.length ≤ i → J i acc M → bG X scope vs tg (it i) (wipeG Γ vs) ((D, .lst acc) :: M) fun Γ2 M2 => bTs X scope ifs Γ2 M2 fun b M3 =>
    (b = true → bE X scope elt Γ2 M3 fun y M4 => ∃ M5, M4 = (D, .lst acc) :: M5 ∧ J (i + 1) (acc ++ [y]) M5) ∧ (b = false → ∃ M5, M3 = (D, .lst acc) :: M5 ∧ J (i + 1) acc M5)) ∧
  ∀ D acc M, J n acc M → P (.ptr D) ((D, .lst acc) :: M)
theorem lc_readJ {tg iter elt : Expr} {ifs : List Expr} {scope : Scope} {vs : List Nat} (hi : aJ X tg iter Γ M (LcJ X scope vs tg elt ifs Γ P)) {Hi H : Hp} {σ : L2.St} (ok : Ok X.K Hi M H) (en : EnvR X.K Hi Γ σ) {Q : VK} (q : Post X.K Hi P Q) :
    tLc (WI X tg iter) (fun v σ H Q => ∀ s H' C cl fp, WG (bx X scope s H' C cl fp) tg v σ H Q) (fun σ H Q => ∀ s H' C cl fp, WTs (bx X scope s H' C cl fp) ifs σ H Q) (fun σ H Q => ∀ s H' C cl fp, WE (bx X scope s H' C cl fp) elt σ H Q) vs σ H Q := by
  refine hi Hi H σ ok en _ fun J' n it M1 Hi1 H1 h1 s1 ok1 w => ?_
  obtain ⟨hn, J, h0, hs, hd⟩ := h1
  intro D hD
  refine lc_it (g := fun v σ H Q => ∀ s H' C cl fp, WG (bx X scope s H' C cl fp) tg v σ H Q) (tt := fun σ H Q => ∀ s H' C cl fp, WTs (bx X scope s H' C cl fp) ifs σ H Q) (te := fun σ H Q => ∀ s H' C cl fp, WE (bx X scope s H' C cl fp) elt σ H Q) (vs := vs) (σ := σ) (Qd := fun H => Q (V.ref D) H)
    w (fun i H' => ∃ acc M' Hi', J i acc M' ∧ acc.length ≤ i ∧ Same Hi1 Hi' ∧ Ok X.K Hi' ((D, .lst acc) :: M') H') ⟨[], M1, Hi1, h0, Nat.le_refl _, Same.refl _, ok1.new hD ⟨[], rfl, .nil⟩⟩ ?_ ?_ ?_
  · rintro i H' hi ⟨acc, M', Hi', h2, _, s2, ok2⟩
    exact ⟨Hi', M', s2, ok2.tail⟩
  · rintro i v H' H'' hi ⟨acc, M', Hi', h2, hl, s2, ok2⟩ hy
    obtain ⟨Hi3, s3, ok3, r3⟩ := hy Hi' ((D, .lst acc) :: M') s2 ok2
    intro s0 H0 C0 cl0 fp0
    have s13 := s2.trans s3
    refine hs i acc M' D hi hl h2 s0 H0 C0 cl0 fp0 Hi3 H'' (wipe σ vs) v ok3 (env_wipe (en.mono (s1.trans s13)) vs) r3 _ fun Γ4 M4 σ4 Hi4 H4 h4 s4 ok4 en4 w4 => ⟨?_, ?_⟩
    · rw [w4]
      clear w4 en4
      have idem : ∀ (us : List Nat) (τ : L2.St), wipe (wipe τ us) us = wipe τ us := by
        intro us
        induction us with
        | nil => intro τ; rfl
        | cons u us ih =>
          intro τ
          show (wipe ((wipe τ us).set u none) us).set u none = (wipe τ us).set u none
          rw [wipe_set]
          by_cases hu : u ∈ us
          · rw [if_pos hu, ih]
          · rw [if_neg hu, ih, List.set_set]
      exact idem vs σ
    · intro s5 H5 C5 cl5 fp5
      refine h4 s5 H5 C5 cl5 fp5 Hi4 H4 σ4 ok4 en4 _ fun b M6 Hi6 H6 h6 s6 ok6 => ?_
      cases b with
      | true =>
        refine iteT fun s7 H7 C7 cl7 fp7 => ?_
        refine h6.1 rfl s7 H7 C7 cl7 fp7 Hi6 H6 σ4 ok6 (en4.mono s6) _ fun y M8 v8 Hi8 H8 h8 s8 ok8 r8 => ?_
        obtain ⟨M9, rfl, h9⟩ := h8
        obtain ⟨_, o, ho, xs, rfl, ra⟩ := ok8.ce D _ List.mem_cons_self
        refine ⟨xs, ho, ?_, ?_⟩
        · rw [← ra.length]
          exact Nat.lt_of_lt_of_le (Nat.lt_of_le_of_lt hl (Nat.lt_of_lt_of_le hi hn)) (by decide)
        · exact ⟨acc ++ [y], M9, Hi8, h9, by rw [List.length_append]; exact Nat.succ_le_succ hl, ((s13.trans s4).trans s6).trans s8, ok8.set (i := 0) rfl ⟨_, rfl, ra.append (.cons r8 .nil)⟩⟩
      | false =>
        obtain ⟨M9, rfl, h9⟩ := h6.2 rfl
        exact iteF ⟨acc, M9, Hi6, h9, Nat.le_succ_of_le hl, (s13.trans s4).trans s6, ok6⟩
  · rintro H' ⟨acc, M', Hi', h2, hl, s2, ok2⟩
    exact q _ _ _ Hi' H' (hd D acc M' h2) (s1.trans s2) ok2 (.ptr D)
theorem ae_lcJ {tg iter elt : Expr} {ifs : List Expr} {scope : Scope} (own : List (Str × Nat)) (hc : X.calm = true) (hN : X.N.Nodup) (ok : BlkOk X.N X.env.scope scope own)
    (hi : aJ X tg iter Γ M (LcJ X scope (own.map (·.2)) tg elt ifs Γ P)) (hf : ∀ x, foldedSetIterable iter X.env x = pure x := by intro _; rfl) :
    aE X (.ListComp elt [⟨tg, iter, ifs, 0⟩] scope pos) Γ M P := fun Hi H σ ok' en Q q =>
  ⟨_, pe_lc hc hN pi_wi ok (fun s H C cl fp => ⟨fun pins s' σ H v u Q I r h => pg_wg.run pins s' σ H v u Q I r (h _ _ _ _ _)⟩) (fun s H C cl fp => ⟨fun pins s' σ H Q I h => pts_wts.run pins s' σ H Q I (h _ _ _ _ _)⟩) (fun s H C cl fp => ⟨fun pins s' σ H Q I h => pe_we.run pins s' σ H Q I (h _ _ _ _ _)⟩) hf,
    lc_readJ hi ok' en q⟩
theorem as_lcJ {tg iter elt : Expr} {ifs : List Expr} {scope : Scope} {py spos : Pos} (m : Nat) (own : List (Str × Nat)) (hc : X.calm = true) (hN : X.N.Nodup) (ok : BlkOk X.N X.env.scope scope own)
    (hi : aJ X tg iter Γ M (LcJ X scope (own.map (·.2)) tg elt ifs Γ fun d M' => k.nx (Γ.set m (some d)) M')) (hy : X.N[m]? = some y := by rfl) (hyl : X.env.scope.names.lookup y = some .local := by rfl)
    (hsw : swapsWith (.ListComp elt [⟨tg, iter, ifs, 0⟩] scope pos) (some (.Name y py)) spos.line X.env = pure true := by exact sw_true rfl rfl rfl (by decide +kernel))
    (hf : ∀ x, foldedSetIterable iter X.env x = pure x := by intro _; rfl) :
    aS X (.Assign [.Name y py] (.ListComp elt [⟨tg, iter, ifs, 0⟩] scope pos) spos) Γ M k := fun Hi H σ ok' en D q =>
  ⟨_, ps_setLc hc hN hy hyl hsw pi_wi ok (fun s H C cl fp => ⟨fun pins s' σ H v u Q I r h => pg_wg.run pins s' σ H v u Q I r (h _ _ _ _ _)⟩) (fun s H C cl fp => ⟨fun pins s' σ H Q I h => pts_wts.run pins s' σ H Q I (h _ _ _ _ _)⟩) (fun s H C cl fp => ⟨fun pins s' σ H Q I h => pe_we.run pins s' σ H Q I (h _ _ _ _ _)⟩) hf,
    lc_readJ hi ok' en fun d M' v Hi' H' h' s' ok2 r => q.nx _ _ _ Hi' H' h' s' ok2 ((en.mono s').set r)⟩
end
end Ab

namespace Ab
open PySem PySem.Spec PyProof.Rows L2
section
variable {X : Cx} {Γ : Gam} {M : Mem} {P : Val → Mem → Prop} {e a b c o : Expr} {es : List Expr} {pos p1 p2 apos kpos : Pos} {k : AK} {d d1 d2 d3 : Val} {i j : Int} {x y m : Str} {n : Nat} {f C : Addr}
/-! ### operands that change cells -/
def WC (X : Cx) (g : Value → Value → Sem Value) : R2 := fun x y H Q => ∃ r, OpR X g r ∧ r x y H Q
theorem op_wc {g : Value → Value → Sem Value} : OpR X g (WC X g) := fun pins s σ H x y v u Q I rx ry ⟨r, ho, h⟩ => ho pins s σ H x y v u Q I rx ry h
def BinV (X : Cx) (op : Operator) (M : Mem) (x y : Val) (P : Val → Mem → Prop) : Prop := ∃ r, OpR X (binaryOp op) r ∧ RV X r x y M P
theorem ae_bin {op : Operator} (h : aE X a Γ M fun x M1 => aE X b Γ M1 fun y M2 => BinV X op M2 x y P) : aE X (.BinOp a op b pos) Γ M P :=
  ae_op op_wc (h.mono fun x M1 h1 => h1.mono fun y M2 ⟨r, ho, hr⟩ Hi H v w ok rv rw_ Q q => ⟨r, ho, hr Hi H v w ok rv rw_ Q q⟩)
theorem bv_add (h : P (.int (i + j)) M) : BinV X .Add M (.int i) (.int j) P := ⟨_, op_add, rv_I0 (f := fun i j => .int (i + j)) (fun _ _ => .int _) h⟩
theorem bv_sub (h : P (.int (i - j)) M) : BinV X .Sub M (.int i) (.int j) P := ⟨_, op_sub, rv_I0 (f := fun i j => .int (i - j)) (fun _ _ => .int _) h⟩
theorem bv_catL {xs ys : List Val} (h1 : Vw M d1 (.lst xs)) (h2 : Vw M d2 (.lst ys)) (hl : xs.length + ys.length ≤ sizeLine) (h : ∀ p, P (.ptr p) ((p, .lst (xs ++ ys)) :: M)) : BinV X .Add M d1 d2 P := ⟨_, op_catL, rv_catL h1 h2 hl h⟩
theorem bv_catT {xs ys : List Val} (hl : xs.length + ys.length ≤ sizeLine) (h : P (.tup (xs ++ ys)) M) : BinV X .Add M (.tup xs) (.tup ys) P := ⟨_, op_catA, rv_catT hl h⟩
theorem bv_mulI (hc : CMul i j) (h : P (.int (i * j)) M) : BinV X .Mult M (.int i) (.int j) P := ⟨_, op_mul, rv_I (f := fun i j => .int (i * j)) hc (fun _ _ => .int _) h⟩
theorem bv_repL {xs : List Val} {p : Addr} {jj : Int} {n : Nat} (hm : M[n]? = some (p, .lst xs)) (h1 : 0 ≤ jj) (h2 : jj < 2 ^ 31) (hl : xs.length * jj.toNat ≤ sizeLine) (h : ∀ q, P (.ptr q) ((q, .lst (List.replicate jj.toNat xs).flatten) :: M)) : BinV X .Mult M (.ptr p) (.int jj) P := ⟨_, op_rep, rv_repL hm h1 h2 hl h⟩
theorem at_cmpM {op : CmpOp} {P : Bool → Mem → Prop} (h : aE X a Γ M fun x M1 => aE X b Γ M1 fun y M2 => ∃ k, Cmp X op M2 x y k ∧ P k M2) (hm : behindInMarks op b = false := by first | exact nomark _ | rfl) : aT X (.Compare a [op] [b] pos) Γ M P := fun Hi H σ ok en Q q => by
  refine ⟨_, pt_cmpR op_wc pe_we pe_we hm, ?_⟩
  refine h Hi H σ ok en _ fun x M1 v Hi1 H1 h1 s1 ok1 r1 => ?_
  refine h1 Hi1 H1 σ ok1 (en.mono s1) _ fun y M2 w Hi2 H2 h2 s2 ok2 r2 => ?_
  obtain ⟨kk, ⟨r, ho, hr⟩, hp⟩ := h2
  refine ⟨r, ho, hr Hi2 H2 v w ok2 (r1.mono s2) r2 _ fun z M' v' Hi3 H3 h3 s3 ok3 r3 => ?_⟩
  obtain ⟨rfl, rfl⟩ := h3
  cases r3
  exact ⟨kk, rfl, q _ _ Hi3 H3 hp ((s1.trans s2).trans s3) ok3⟩
theorem ae_cmpM {op : CmpOp} (h : aE X a Γ M fun x M1 => aE X b Γ M1 fun y M2 => ∃ k, Cmp X op M2 x y k ∧ P (.bl k) M2) (hm : behindInMarks op b = false := by first | exact nomark _ | rfl) : aE X (.Compare a [op] [b] pos) Γ M P := fun Hi H σ ok en Q q => by
  refine ⟨_, pe_cmpR op_wc pe_we pe_we hm, ?_⟩
  refine h Hi H σ ok en _ fun x M1 v Hi1 H1 h1 s1 ok1 r1 => ?_
  refine h1 Hi1 H1 σ ok1 (en.mono s1) _ fun y M2 w Hi2 H2 h2 s2 ok2 r2 => ?_
  obtain ⟨kk, ⟨r, ho, hr⟩, hp⟩ := h2
  refine ⟨r, ho, hr Hi2 H2 v w ok2 (r1.mono s2) r2 _ fun z M' v' Hi3 H3 h3 s3 ok3 r3 => ?_⟩
  obtain ⟨rfl, rfl⟩ := h3
  exact q _ _ v' Hi3 H3 hp ((s1.trans s2).trans s3) ok3 r3
/-- xs[i] -/
theorem ae_ixM (h : aE X a Γ M fun x M1 => aE X b Γ M1 fun y M2 => ∃ i xs d, y = .int i ∧ Sq M2 x xs ∧ atI xs i = some d ∧ P d M2) (hs : PlainIx b := by exact fun _ _ => rfl) : aE X (.Subscript a b pos) Γ M P := fun Hi H σ ok en Q q => by
  refine ⟨_, pe_ix ix_seq pe_we pe_we hs, ?_⟩
  refine h Hi H σ ok en _ fun x M1 v Hi1 H1 h1 s1 ok1 r1 => ?_
  refine h1 Hi1 H1 σ ok1 (en.mono s1) _ fun y M2 w Hi2 H2 h2 s2 ok2 r2 => ?_
  obtain ⟨i, xs, d, rfl, hsq, hat, hp⟩ := h2
  cases r2
  obtain ⟨p, ys, rfl, hq, ra⟩ := hsq.rep ok2 (r1.mono s2)
  obtain ⟨z, hz, rz⟩ := rep_at ra hat
  have fin := q _ _ z Hi2 H2 hp (s1.trans s2) ok2 rz
  rcases hq with hq | hq
  · exact .inl ⟨p, ys, i, z, rfl, rfl, hq, hz, fin⟩
  · exact .inr (.inl ⟨p, ys, i, z, rfl, rfl, hq, hz, fin⟩)
/-- ints as data -/
theorem toDs_ints : ∀ ns : List Int, toDs (ns.map .int) = some (ns.map PyData.int)
  | [] => rfl
  | n :: ns => by
    rw [List.map_cons, List.map_cons]
    unfold toDs
    rw [toDs_ints ns]
    rfl
theorem toD_tup {xs : List Val} {ds : List PyData} (h : toDs xs = some ds) : toD (.tup xs) = some (.tuple ds) := by
  unfold toD
  rw [h]
  rfl
theorem toD_lst {xs : List Val} {ds : List PyData} (h : toDs xs = some ds) : toD (.lst xs) = some (.list ds) := by
  unfold toD
  rw [h]
  rfl
theorem lay_ints : ∀ ns : List Int, PyData.canLayAll0 (ns.map PyData.int) = true
  | [] => rfl
  | n :: ns => by
    rw [List.map_cons]
    unfold PyData.canLayAll0
    rw [lay_ints ns]
    rfl
theorem dep_ints : ∀ ns : List Int, PyData.depthAll (ns.map PyData.int) = 0
  | [] => rfl
  | n :: ns => by
    rw [List.map_cons]
    unfold PyData.depthAll
    rw [dep_ints ns]
    rfl
theorem shaped_tupI (ns : List Int) : SeqAt.shaped (.tuple (ns.map PyData.int)) = true := by
  unfold SeqAt.shaped PyData.canLay0 PyData.depth
  rw [lay_ints, dep_ints]
  rfl
theorem shaped_lstI (ns : List Int) : SeqAt.shaped (.list (ns.map PyData.int)) = true := by
  unfold SeqAt.shaped PyData.canLay0 PyData.depth
  rw [lay_ints, dep_ints]
  rfl
theorem eqv_ints : ∀ ns ms : List Int, PyData.eqvAll (ns.map PyData.int) (ms.map PyData.int) = decide (ns = ms)
  | [], [] => rfl
  | [], _ :: _ => rfl
  | _ :: _, [] => rfl
  | n :: ns, m :: ms => by
    rw [List.map_cons, List.map_cons]
    unfold PyData.eqvAll PyData.eqv
    rw [eqv_ints ns ms]
    by_cases h : n = m
    · subst h
      simp
    · simp [h]
/-- lists, tuples of ints compared -/
theorem cmp_eqLI {ns ms : List Int} (v1 : Vw M d1 (.lst (ns.map .int))) (v2 : Vw M d2 (.lst (ms.map .int))) (hu : X.A.units + 64 < cLine) : Cmp X .Eq M d1 d2 (decide (ns = ms)) := by
  have h := cmp_eqD v1 v2 (toD_lst (toDs_ints ns)) (toD_lst (toDs_ints ms)) (shaped_lstI ns) (shaped_lstI ms) hu
  rw [show PyData.eqv (.list (ns.map PyData.int)) (.list (ms.map PyData.int)) = decide (ns = ms) from eqv_ints ns ms] at h
  exact h
theorem cmp_neLI {ns ms : List Int} (v1 : Vw M d1 (.lst (ns.map .int))) (v2 : Vw M d2 (.lst (ms.map .int))) (hu : X.A.units + 64 < cLine) : Cmp X .NotEq M d1 d2 (!decide (ns = ms)) := by
  have h := cmp_neD v1 v2 (toD_lst (toDs_ints ns)) (toD_lst (toDs_ints ms)) (shaped_lstI ns) (shaped_lstI ms) hu
  rw [show PyData.eqv (.list (ns.map PyData.int)) (.list (ms.map PyData.int)) = decide (ns = ms) from eqv_ints ns ms] at h
  exact h
theorem cmp_eqTI {ns ms : List Int} (hu : X.A.units + 64 < cLine) : Cmp X .Eq M (.tup (ns.map .int)) (.tup (ms.map .int)) (decide (ns = ms)) := by
  have h := cmp_eqD (X := X) (M := M) (.self (.tup (ns.map .int))) (.self (.tup (ms.map .int))) (toD_tup (toDs_ints ns)) (toD_tup (toDs_ints ms)) (shaped_tupI ns) (shaped_tupI ms) hu
  rw [show PyData.eqv (.tuple (ns.map PyData.int)) (.tuple (ms.map PyData.int)) = decide (ns = ms) from eqv_ints ns ms] at h
  exact h
theorem cmp_neTI {ns ms : List Int} (hu : X.A.units + 64 < cLine) : Cmp X .NotEq M (.tup (ns.map .int)) (.tup (ms.map .int)) (!decide (ns = ms)) := by
  have h := cmp_neD (X := X) (M := M) (.self (.tup (ns.map .int))) (.self (.tup (ms.map .int))) (toD_tup (toDs_ints ns)) (toD_tup (toDs_ints ms)) (shaped_tupI ns) (shaped_tupI ms) hu
  rw [show PyData.eqv (.tuple (ns.map PyData.int)) (.tuple (ms.map PyData.int)) = decide (ns = ms) from eqv_ints ns ms] at h
  exact h
/-- an empty tuple against any tuple of data -/
theorem cmp_eqT0 {xs : List Val} {ds : List PyData} (h1 : toDs xs = some ds) (h2 : SeqAt.shaped (.tuple ds) = true) (hu : X.A.units + 64 < cLine) : Cmp X .Eq M (.tup xs) (.tup []) xs.isEmpty := by
  have h := cmp_eqD (X := X) (M := M) (.self (.tup xs)) (.self (.tup [])) (toD_tup h1) (toD_tup rfl) h2 rfl hu
  refine h.eq ?_
  cases xs with
  | nil => cases h1; rfl
  | cons x r =>
    unfold toDs at h1
    obtain ⟨d', _, h3⟩ := Option.bind_eq_some_iff.mp h1
    obtain ⟨ds', _, rfl⟩ := Option.map_eq_some_iff.mp h3
    rfl
theorem cmp_neT0 {xs : List Val} {ds : List PyData} (h1 : toDs xs = some ds) (h2 : SeqAt.shaped (.tuple ds) = true) (hu : X.A.units + 64 < cLine) : Cmp X .NotEq M (.tup xs) (.tup []) (!xs.isEmpty) := by
  have h := cmp_neD (X := X) (M := M) (.self (.tup xs)) (.self (.tup [])) (toD_tup h1) (toD_tup rfl) h2 rfl hu
  refine h.eq ?_
  cases xs with
  | nil => cases h1; rfl
  | cons x r =>
    unfold toDs at h1
    obtain ⟨d', _, h3⟩ := Option.bind_eq_some_iff.mp h1
    obtain ⟨ds', _, rfl⟩ := Option.map_eq_some_iff.mp h3
    rfl
end
end Ab

namespace Ab
open PySem PySem.Spec PyProof.Rows L2
section
variable {X : Cx} {Γ : Gam} {M : Mem} {P : Val → Mem → Prop} {e a b c o : Expr} {es : List Expr} {pos p1 p2 apos kpos : Pos} {k : AK} {d d1 d2 d3 : Val} {i j : Int} {x y m : Str} {n : Nat} {f C : Addr}
/-! ### lists that are never changed, as values -/
theorem av_lst {ds : List Val} (h : aVs X es Γ M ds) (hl : ds.length ≤ sizeLine) : aV X (.List es pos) Γ M (.lst ds) := ae_lst (h.val ⟨hl, rfl, rfl⟩)
theorem av_sliceL {xs : List Val} {elo ehi : Option Expr} {lo hi : Option Int} (ha : aV X a Γ M d) (hl : aO X elo Γ M lo) (hh : aO X ehi Γ M hi) (hv : Vw M d (.lst xs)) : aV X (.Subscript a (.Slice elo ehi none p2) pos) Γ M (.lst (cutA xs lo hi)) :=
  ae_frz (ae_sliceL ha hl hh hv fun p => ⟨p, _, _, rfl, rfl, rfl, rfl⟩)
theorem av_sliceT {xs : List Val} {elo ehi : Option Expr} {lo hi : Option Int} (ha : aV X a Γ M (.tup xs)) (hl : aO X elo Γ M lo) (hh : aO X ehi Γ M hi) : aV X (.Subscript a (.Slice elo ehi none p2) pos) Γ M (.tup (cutA xs lo hi)) :=
  ae_sliceT ha hl hh ⟨rfl, rfl⟩
theorem av_catL {xs ys : List Val} (ha : aV X a Γ M d1) (hb : aV X b Γ M d2) (h1 : Vw M d1 (.lst xs)) (h2 : Vw M d2 (.lst ys)) (hl : xs.length + ys.length ≤ sizeLine) : aV X (.BinOp a .Add b pos) Γ M (.lst (xs ++ ys)) :=
  ae_frz (ae_bin (ha.val (hb.val (bv_catL h1 h2 hl fun p => ⟨p, _, _, rfl, rfl, rfl, rfl⟩))))
theorem av_catT {xs ys : List Val} (ha : aV X a Γ M (.tup xs)) (hb : aV X b Γ M (.tup ys)) (hl : xs.length + ys.length ≤ sizeLine) : aV X (.BinOp a .Add b pos) Γ M (.tup (xs ++ ys)) :=
  ae_bin (ha.val (hb.val (bv_catT hl ⟨rfl, rfl⟩)))
theorem av_tuple {xs : List Val} (hm : X.mg "tuple" = none) (ha : aV X a Γ M d) (hs : Sq M d xs) (hg : Gl X "tuple" := by rfl) (hst : starEach [a] X.env = [(false, eval a X.env)] := by rfl) : aV X (.Call (.Name "tuple" p1) [a] [] pos) Γ M (.tup xs) :=
  ae_tuple hm (ha.val ⟨xs, hs, rfl, rfl⟩) hg hst
theorem av_list {xs : List Val} (hm : X.mg "list" = none) (ha : aV X a Γ M d) (hs : Sq M d xs) (hg : Gl X "list" := by rfl) (hst : starEach [a] X.env = [(false, eval a X.env)] := by rfl) : aV X (.Call (.Name "list" p1) [a] [] pos) Γ M (.lst xs) :=
  ae_frz (ae_list hm (ha.val ⟨xs, hs, fun p => ⟨p, _, _, rfl, rfl, rfl, rfl⟩⟩) hg hst)
/-- xs[:e], the bound changing cells -/
theorem ae_sliceM {xs : List Val} (ha : aV X a Γ M (.lst xs)) (hh : aE X e Γ M fun d M1 => ∃ j : Int, d = .int j ∧ P (.lst (cutA xs none (some j))) M1) : aE X (.Subscript a (.Slice none (some e) none p2) pos) Γ M P :=
  ae_frz fun Hi H σ ok en Q q => by
    refine ⟨_, pe_slice sl_list pe_we po_none (po_some pe_we), ?_⟩
    refine ha Hi H σ ok en _ fun x M1 v Hi1 H1 h1 s1 ok1 r1 => ?_
    obtain ⟨rfl, rfl⟩ := h1
    refine hh Hi1 H1 σ ok1 (en.mono s1) _ fun d M2 w Hi2 H2 h2 s2 ok2 r2 => ?_
    obtain ⟨j, rfl, hp⟩ := h2
    cases r2
    refine ⟨j, rfl, ?_⟩
    cases r1.mono s2 with
    | @lst p ys _ hq ra => exact ⟨p, ys, rfl, ok2.im.seq hq, fun l hl => q _ _ _ _ _ ⟨l, _, _, rfl, rfl, hp⟩ (s1.trans s2) (ok2.new hl ⟨_, rfl, rep_cut ra none (some j)⟩) (.ptr l)⟩
/-! ### slices of lists of ints -/
def cutI (g : List Int) (lo hi : Option Int) : List Int := (g.drop (HT.sIx g.length 0 lo)).take (HT.sIx g.length g.length hi - HT.sIx g.length 0 lo)
theorem cut_map {g : List Int} {lo hi : Option Int} : cutA (g.map Val.int) lo hi = (cutI g lo hi).map Val.int := by
  unfold cutA cutI
  rw [List.length_map, ← List.map_drop, ← List.map_take]
theorem cut_mem {g : List Int} {lo hi : Option Int} {v : Int} (h : v ∈ cutI g lo hi) : v ∈ g := List.mem_of_mem_drop (List.mem_of_mem_take h)
theorem cut_len {g : List Int} {lo hi : Option Int} : (cutI g lo hi).length ≤ g.length := by
  unfold cutI
  rw [List.length_take, List.length_drop]
  omega
theorem cut_hi {g : List Int} {j : Int} (h0 : 0 ≤ j) (h1 : j ≤ g.length) : cutI g none (some j) = g.take j.toNat := by
  obtain ⟨n, rfl⟩ := Int.eq_ofNat_of_zero_le h0
  unfold cutI
  rw [HT.sIx_nat, HT.sIx_none, List.drop_zero, Nat.sub_zero, Nat.min_eq_left (by omega), Int.toNat_natCast]
theorem cut_lo {g : List Int} {j : Int} (h0 : 0 ≤ j) (h1 : j ≤ g.length) : cutI g (some j) none = g.drop j.toNat := by
  obtain ⟨n, rfl⟩ := Int.eq_ofNat_of_zero_le h0
  unfold cutI
  rw [HT.sIx_nat, HT.sIx_none, Nat.min_eq_left (by omega), Int.toNat_natCast]
  exact List.take_of_length_le (by rw [List.length_drop]; omega)
end
end Ab

namespace Ab
open PySem PySem.Spec PyProof.Rows L2
section
variable {X : Cx} {Γ : Gam} {M : Mem} {P : Val → Mem → Prop} {e a b c o : Expr} {es : List Expr} {pos p1 p2 apos kpos : Pos} {k : AK} {d d1 d2 d3 : Val} {i j : Int} {x y m : Str} {n : Nat} {f C : Addr}
/-- a cell of the expression's own is forgotten -/
theorem ae_dropc (h : aE X e Γ M fun d M' => ∃ c M'', M' = c :: M'' ∧ P d M'') : aE X e Γ M P := fun Hi H σ ok en Q q => by
  refine h Hi H σ ok en _ fun d M1 v Hi1 H1 h1 s1 ok1 r1 => ?_
  obtain ⟨c, M2, rfl, hp⟩ := h1
  exact q _ _ _ Hi1 H1 hp s1 (Ok.tail (p := c.1) (c := c.2) ok1) r1
/-- an instance that will change no more -/
theorem ae_frzO (h : aE X e Γ M fun d M' => ∃ p C fs M'', d = .ptr p ∧ M' = (p, .ins C fs) :: M'' ∧ P (.obj C fs) M'') : aE X e Γ M P := fun Hi H σ ok en Q q => by
  refine h Hi H σ ok en _ fun d M1 v Hi1 H1 h1 s1 ok1 r1 => ?_
  obtain ⟨p, C, fs, M2, rfl, rfl, hp⟩ := h1
  obtain ⟨e0, o, ho, dx, gs, rfl, ra⟩ := ok1.ce p _ List.mem_cons_self
  cases r1
  have s2 := same_upd (o := .ins C dx gs) e0
  exact q _ _ _ _ _ hp (s1.trans s2) (ok1.freeze ho) (.obj upd_same (ra.mono s2))
/-- [x, ..] * n -/
theorem av_repL {ds : List Val} (h : aVs X es Γ M ds) (hl : ds.length ≤ sizeLine) (hb : ∀ M', aV X b Γ M' (.int j)) (h1 : 0 ≤ j) (h2 : j < 2 ^ 31) (hl2 : ds.length * j.toNat ≤ sizeLine) : aV X (.BinOp (.List es p1) .Mult b pos) Γ M (.lst (List.replicate j.toNat ds).flatten) :=
  ae_dropc (ae_frz (ae_bin (ae_lstC (h.val ⟨hl, fun q => (hb _).val (bv_repL (n := 0) rfl h1 h2 hl2 fun z => ⟨z, _, _, rfl, rfl, _, _, rfl, rfl, rfl⟩)⟩))))
theorem Ret.drops {P : Val → Mem → Prop} {d : Val} {M : Mem} : ∀ {cs : Mem}, Ret P d M → Ret P d (cs ++ M)
  | [], h => h
  | _ :: _, h => .drop (Ret.drops h)
/-! ### ints are shown -/
theorem log_lt {n : Nat} (h : n < 2 ^ 1920) : n.log2 < 1920 := by
  by_cases h0 : n = 0
  · subst h0
    decide
  · exact (Nat.log2_lt h0).mpr h
def showI (v : Int) : Prop := v.natAbs.log2 < 1920
theorem show_ints : ∀ {ns : List Int}, (∀ v ∈ ns, showI v) → PyData.showableAll (ns.map PyData.int) = true
  | [], _ => rfl
  | n :: ns, h => by
    rw [List.map_cons]
    unfold PyData.showableAll PyData.showable
    rw [show_ints (fun v hv => h v (List.mem_cons_of_mem _ hv))]
    rw [Bool.and_true]
    exact decide_eq_true (h n List.mem_cons_self)
theorem shownI_le {v : Int} (h : showI v) : (PyData.shown (.int v)).length ≤ 1921 := int_text_len_1921 h
theorem shown_sum : ∀ {ns : List Int}, (∀ v ∈ ns, showI v) → ((PyData.shownAll (ns.map PyData.int)).map (·.length)).sum ≤ 1921 * ns.length
  | [], _ => Nat.le_refl _
  | n :: ns, h => by
    have h1 := shown_sum (ns := ns) (fun v hv => h v (List.mem_cons_of_mem _ hv))
    have h2 := shownI_le (h n List.mem_cons_self)
    rw [List.map_cons]
    unfold PyData.shownAll
    rw [List.map_cons, List.sum_cons, List.length_cons]
    omega
theorem shown_len : ∀ (ds : List PyData), (PyData.shownAll ds).length = ds.length
  | [] => rfl
  | d :: ds => by
    unfold PyData.shownAll
    rw [List.length_cons, List.length_cons, shown_len ds]
theorem shown_tupI {ns : List Int} (h : ∀ v ∈ ns, showI v) (hl : ns.length ≤ 3000) : (PyData.shown (.tuple (ns.map PyData.int))).length ≤ sizeLine := by
  have h1 := tupleText_len_le (PyData.shownAll (ns.map PyData.int))
  have h2 := shown_sum h
  rw [shown_len, List.length_map] at h1
  have e : PyData.shown (.tuple (ns.map PyData.int)) = tupleText (PyData.shownAll (ns.map PyData.int)) := by unfold PyData.shown; rfl
  rw [e]
  have : sizeLine = 16777216 := rfl
  omega
theorem nodict_ints : ∀ (ns : List Int), PyData.hasDictAll (ns.map PyData.int) = false
  | [] => rfl
  | n :: ns => by
    rw [List.map_cons]
    unfold PyData.hasDictAll PyData.hasDict
    rw [nodict_ints ns]
    rfl
/-- repr of a tuple of ints -/
theorem av_reprTI {n : Nat} {ns : List Int} (hr : Rm n X.A) (hm : X.mg "repr" = none) (ha : aV X a Γ M (.tup (ns.map .int))) (h : ∀ v ∈ ns, showI v) (hl : ns.length ≤ 3000)
    (hg : Gl X "repr" := by rfl) (hst : starEach [a] X.env = [(false, eval a X.env)] := by rfl) : aV X (.Call (.Name "repr" p1) [a] [] pos) Γ M (.str (PyData.shown (.tuple (ns.map PyData.int)))) :=
  ae_repr hr hm (ha.val ⟨_, _, .self _, toD_tup (toDs_ints ns), .inr ⟨_, rfl⟩, by unfold PyData.showable; exact show_ints h, by unfold PyData.hasDict; exact nodict_ints ns, by unfold PyData.depth; rw [dep_ints]; decide, shown_tupI h hl, rfl, rfl⟩) hg hst
end
end Ab

namespace Ab
open PySem PySem.Spec PyProof.Rows L2
/-! defs out of the head's facts -/
section
variable {P : Program} {w : World} {K : PySem.W.Frag} {mg : Str → Option Value} {base : Heap} {x qual : Str} {st : Stmt} {f : Addr} {oc : Value} {od an : Option Addr} {osl : Array (Option Value)} {kV doc pm cdv ct : Value} {fd : FuncData}
theorem fd_mk (l : K.lookup f = some ⟨oc, od, .func (PySem.W.fnOf x qual (defArgs st) (defBody st) (defScope st) .none kV doc pm an cdv ct), osl⟩)
    (c : PySem.W.codeIn K cdv qual = true) (k : PySem.W.keepIn K (.ref f) = true) : FunD K x qual (defArgs st) (defBody st) (defScope st) [] [] f (PySem.W.fnOf x qual (defArgs st) (defBody st) (defScope st) .none kV doc pm an cdv ct) :=
  fun_d (fun_mk l c k)
/-- two keyword-only defaults -/
theorem fd_kw2 {D : Addr} {k1 k2 : Str} {v1 v2 : V} {u1 u2 : Value} (l : K.lookup f = some ⟨oc, od, .func (PySem.W.fnOf x qual (defArgs st) (defBody st) (defScope st) .none (.ref D) doc pm an cdv ct), osl⟩)
    (c : PySem.W.codeIn K cdv qual = true) (k : PySem.W.keepIn K (.ref f) = true) (n1 : PySem.W.nsIn K D k1 = some (some u1)) (n2 : PySem.W.nsIn K D k2 = some (some u2)) (r1 : RelV v1 u1) (r2 : RelV v2 u2) :
    FunD K x qual (defArgs st) (defBody st) (defScope st) [] [(k1, v1), (k2, v2)] f (PySem.W.fnOf x qual (defArgs st) (defBody st) (defScope st) .none (.ref D) doc pm an cdv ct) :=
  ⟨⟨oc, od, .none, .ref D, doc, pm, an, cdv, ct, osl, rfl, l, c, .inl ⟨rfl, rfl⟩, .inr ⟨D, rfl, fun q hq => by
    rcases List.mem_cons.mp hq with e | hq
    · subst e
      exact ⟨u1, n1, r1⟩
    · rcases List.mem_cons.mp hq with e | hq
      · subst e
        exact ⟨u2, n2, r2⟩
      · cases hq⟩⟩, k⟩
/-- a def called by positions and keywords, every parameter written -/
theorem kbn_kw {params : Arguments} {body : List Stmt} {sc : Scope} {kws : List (Str × V)} {ps ks : List Str} {n : Nat} (F : FunD K x qual params body sc [] kws f fd)
    (h : ∀ (kV doc pm : Value) (an : Option Addr) (cdv ct : Value) (us ws : List Value), us.length = n → ws.length = ks.length → bindArgs (PySem.W.fnOf x qual params body sc .none kV doc pm an cdv ct) ⟨us, ks.zip ws⟩ = pure (ps.zip (us ++ ws))) :
    KBn K fd ps n ks (fun us ws => us ++ ws) (fun vs zs => vs ++ zs) := by
  obtain ⟨oc, od, dV, kV, doc, pm, an, cdv, ct, osl, rfl, lk, hcd, hD, _⟩ := F.ex
  obtain ⟨_, rfl⟩ : ([] : List V) = [] ∧ dV = .none := by
    rcases hD with h | ⟨e, _⟩
    · exact h
    · exact absurd rfl e
  exact ⟨fun s us ws _ h1 h2 => .of_eq (h kV doc pm an cdv ct us ws h1 h2), fun r1 r2 => r1.append r2⟩
/-- .. and its promise -/
theorem fnx_kw {params : Arguments} {body : List Stmt} {sc : Scope} {kws : List (Str × V)} {N ps ks : List Str} {k n : Nat} {s0 : ASp} (F : FunD K x qual params body sc [] kws f fd) (S : FnScope N ps sc)
    (h : ∀ (kV doc pm : Value) (an : Option Addr) (cdv ct : Value) (us ws : List Value), us.length = n → ws.length = ks.length → bindArgs (PySem.W.fnOf x qual params body sc .none kV doc pm an cdv ct) ⟨us, ks.zip ws⟩ = pure (ps.zip (us ++ ws)))
    (len : ∀ ds M R, s0 ds M R → ds.length = ps.length) (hb : BodyOk P w K mg base k f N qual sc body s0) : FnX P w K mg base (k + 1) f ks (spX K fun ds es M R => ds.length = n ∧ s0 (ds ++ es) M R) :=
  fnx_kbn (fun ds es => ds ++ es) F S (kbn_kw F h) (fun H ds vs es zs r1 r2 _ _ => r1.append r2) len hb
/-- .. by positions alone -/
theorem fnx_pos' {params : Arguments} {body : List Stmt} {sc : Scope} {kws : List (Str × V)} {N ps : List Str} {k : Nat} {s0 : ASp} (F : FunD K x qual params body sc [] kws f fd) (S : FnScope N ps sc)
    (h : ∀ (kV doc pm : Value) (an : Option Addr) (cdv ct : Value) (us : List Value), us.length = ps.length → bindArgs (PySem.W.fnOf x qual params body sc .none kV doc pm an cdv ct) ⟨us, []⟩ = pure (ps.zip us))
    (len : ∀ ds M R, s0 ds M R → ds.length = ps.length) (hb : BodyOk P w K mg base k f N qual sc body s0) : FnX P w K mg base (k + 1) f [] (spX K fun ds _ => s0 ds) := by
  have F1 := fnx_kbn (n := ps.length) (ks := []) (fun ds _ => ds) F S (g := fun us _ => us) (gV := fun vs _ => vs) (by
    obtain ⟨oc, od, dV, kV, doc, pm, an, cdv, ct, osl, rfl, lk, hcd, hD, _⟩ := F.ex
    obtain ⟨_, rfl⟩ : ([] : List V) = [] ∧ dV = .none := by
      rcases hD with h | ⟨e, _⟩
      · exact h
      · exact absurd rfl e
    refine ⟨fun s us ws _ h1 h2 => .of_eq ?_, fun r1 _ => r1⟩
    obtain rfl := List.length_eq_zero_iff.mp h2
    exact h kV doc pm an cdv ct us h1) (fun H ds vs es zs r _ _ _ => r) len hb
  exact ⟨fun A outer s H us ws vs zs Q hr e0 r rz hz ⟨Hi, M, ds, es, R, ra, re, ok, hs, q⟩ => F1.run A outer s H us ws vs zs Q hr e0 r rz hz ⟨Hi, M, ds, es, R, ra, re, ok, ⟨len _ _ _ hs, hs⟩, q⟩⟩
end
end Ab

namespace Ab
open PySem PySem.Spec PyProof.Rows L2 Builtin
/-! ### == and != of instances by their own __eq__ -/
section
variable {A : Around} {E : Value → Shared → Prop} {s : Shared} {K : PySem.W.Frag} {x y C f : Addr} {ox oy : Obj} {od oe : Option Obj}
/-- the builtin that a class has from object -/
theorem ifb_blt {M : Model} {name : Str} {id : String} {args : List Value} {Q : Option Value → Shared → Prop} (X : K.In s.heap) (I : PySem.W.InstAt s.heap x ox C od)
    (hs : PySem.W.findIn K (.ref C) name = some (some (.builtin id))) (hb : bindSpecial (.builtin id) (.ref x) = pure (.builtin id, [.ref x])) (h : wpAny M A (call (.builtin id) (.ref x :: args)) (fun v => Q (some v)) E s) : wpAny M A (callSpecialIfBound? (.ref x) name args) Q E s := by
  simp only [callSpecialIfBound?, bindSpecialIfBound?]
  refine wpAny_holding (wpAny_bind (wpAny_bind (wpAny_bind (I.type.here ((PySem.W.looks_findIn X hs).here ?_)))))
  have fin : wpAny M A (call (.builtin id) ([.ref x] ++ args) >>= fun v => pure (some v)) Q E s := wpAny_bind (wpAny_mono h (fun v s' h' => wpAny_pure h') fun _ _ h' => h')
  refine wpAny_bind (wpAny_askSetting (wpAny_ite ?_))
  simp only [hb]
  split
  · exact wpAny_bind (wpAny_pure (wpAny_pure fin))
  · exact wpAny_tryCatch (wpAny_bind (wpAny_pure (wpAny_pure fin)))
variable {prog : Program} {w : World}
theorem obj_ne {Q : Fin → Shared → Prop} (X : K.In s.heap) (I : PySem.W.InstAt s.heap x ox C od) (heq : PySem.W.findIn K (.ref C) "__eq__" = some (some (.ref f))) (hf : PySem.W.isFn K (.ref f) = true) (hu : A.units < cLine)
    (hcall : wpAny (model prog w) A (call (.ref f) [.ref x, .ref y]) (fun v s' => ∃ b, v = .bool b ∧ Q (.done (.ret (.bool (!b)))) s') E s) :
    wpAny (model prog w) A (Builtin.«object.__ne__» ⟨[.ref x, .ref y], []⟩) Q E s := by
  unfold Builtin.«object.__ne__»
  refine wpAny_bind (m := slotArgs "__ne__" 1 ⟨[.ref x, .ref y], []⟩) ?_
  repeat (first
    | with_reducible refine wpAny_cRoomFor hu ?_
    | (refine wpAny_bind (m := callSpecialIfBound? (.ref x) (Str.ofString "__eq__") [.ref y])
        (PySem.W.ifBound_K X I heq hf (wpAny_mono hcall (fun r s' hr => by
          obtain ⟨b, rfl, hq⟩ := hr
          repeat (first | exact hq | exact wpAny_pure hq | exact wpAny_truthy_bool hq | (refine wpAny_bind (m := truthy (.bool _)) (wpAny_truthy_bool ?_)) | wp_step)) fun _ _ e => e)))
    | wp_step)
theorem rc_ne {Q : Value → Shared → Prop} (X : K.In s.heap) (I : PySem.W.InstAt s.heap x ox C od) (J : PySem.W.InstAt s.heap y oy C oe) (hne : PySem.W.findIn K (.ref C) "__ne__" = some (some (.builtin "object.__ne__"))) (heq : PySem.W.findIn K (.ref C) "__eq__" = some (some (.ref f))) (hf : PySem.W.isFn K (.ref f) = true)
    (hob : PySem.W.subIn K (.ref C) (.type "object") = some true) (hu : A.units + 1 < cLine)
    (hcall : wpAny (model prog w) A.in1 (call (.ref f) [.ref x, .ref y]) (fun v s' => ∃ b, v = .bool b ∧ Q (.bool (!b)) s') E s) : wpAny (model prog w) A (richCompare .NotEq (.ref x) (.ref y)) Q E s := by
  have one : wpAny (model prog w) A (tryCompare (.ref x) "__ne__" (.ref y)) (fun r s' => ∃ v, r = some v ∧ Q v s') E s := by
    simp only [tryCompare]
    refine wpAny_bind (ifb_blt X I hne (F.cmp_object.ne.bind _) (wpAny_call (codeAny_call_builtin F.cmp_object.ne.plain F.cmpEntry_ne
      (@PySem.W.check_slot (model prog w) _ _ s "object.__ne__" "object" "__ne__" (.ref x) [.ref y] [] _ F.cmpKind_ne F.cmpSplit_ne (I.type.andThen (PySem.W.looks_subIn X hob)) (F.cmpArgs_ne _ _)
        (obj_ne (A := A.in1) X I heq hf hu (wpAny_mono hcall (fun v s' hv => ?_) fun _ _ e => e))))))
    obtain ⟨b, rfl, hq⟩ := hv
    first | exact ⟨b, rfl, wpAny_pure ⟨_, rfl, hq⟩⟩ | exact ⟨b, rfl, wpAny_pure (wpAny_pure ⟨_, rfl, hq⟩)⟩
  unfold richCompare
  simp only [oneThing_ref]
  refine wpAny_holding (wpAny_bind (wpAny_cRoomFor (Nat.lt_of_succ_lt hu) ?_))
  rw [cmpInfo_NotEq]
  dsimp only
  refine wpAny_bind (I.type.here (wpAny_bind (J.type.here ?_)))
  rw [show (Value.ref C != Value.ref C) = false from by simp]
  simp only [Bool.false_eq_true, if_false]
  refine wpAny_bind (wpAny_pure ?_)
  simp only [Bool.false_eq_true, if_false]
  refine wpAny_bind (wpAny_mono one (fun r s' z => ?_) fun _ _ e => e)
  obtain ⟨v, rfl, hq⟩ := z
  exact wpAny_pure hq
end
end Ab

namespace Ab
open PySem PySem.Spec PyProof.Rows L2
/-- a call somewhere below the running body -/
theorem run_at {X : Cx} {A : Around} {n : Nat} {f : Addr} {pins : List (Addr × Obj)} {σ : L2.St} {H : Hp} {s : Shared} {Q : VK} {us : List Value} {vs : List V} {sp : List V → List V → Hp → VK → Prop} (F : FnX X.prog X.w X.K X.mg X.base n f [] sp) (hr : Rm n A) (hf : A.frames = X.A.frames)
    (I : Inv X pins σ H s) (r : Vals vs us) (h : sp vs [] H Q) : wpAny (model X.prog X.w) A (call (.ref f) us) (EP X pins σ Q) X.xe s := by
  have e0 : Env0 X.prog X.w X.K X.mg X.base A X.stack s H := by
    have e := I.env0
    exact ⟨by rw [hf]; exact e.frames, e.mod, e.bs, e.bsz, e.funs, e.frf, e.hok, e.bare⟩
  refine wpAny_call (codeAny_mono (F.run A X.stack s H us [] vs [] Q hr e0 r .nil rfl h) fun r s' hq => ?_)
  cases r with
  | error e => exact False.elim hq
  | ok fl =>
    cases fl with
    | ret u => exact I.after hq
    | next => exact False.elim hq
    | brk => exact False.elim hq
    | cont => exact False.elim hq
/-- == of the class at C by the def at f: what it answers of the fields -/
structure OwnE (P : Program) (w : World) (K : PySem.W.Frag) (mg : Str → Option Value) (base : Heap) (n : Nat) (C f : Addr) (good : List (Str × Val) → Prop) (rel : List (Str × Val) → List (Str × Val) → Bool) : Prop where
  fx : FnX P w K mg base n f [] (spX K fun ds _ M R => ∃ fs gs, ds = [.obj C fs, .obj C gs] ∧ good fs ∧ good gs ∧ R (.bl (rel fs gs)) M)
  at_ : PySem.W.findIn K (.ref C) "__eq__" = some (some (.ref f))
  fn : PySem.W.isFn K (.ref f) = true
  ne : PySem.W.findIn K (.ref C) "__ne__" = some (some (.builtin "object.__ne__"))
  ob : PySem.W.subIn K (.ref C) (.type "object") = some true
section
variable {X : Cx} {n : Nat} {C f : Addr} {good : List (Str × Val) → Prop} {rel : List (Str × Val) → List (Str × Val) → Bool} {M : Mem} {fs gs : List (Str × Val)}
def rO (K : PySem.W.Frag) (C : Addr) (good : List (Str × Val) → Prop) (rel : List (Str × Val) → List (Str × Val) → Bool) (neg : Bool) : R2 := fun x y H Q => ∃ a b dx dy fs gs, x = .ref a ∧ y = .ref b ∧ H a = some (.ins C dx fs) ∧ H b = some (.ins C dy gs) ∧
  spX K (fun ds _ M R => ∃ fs gs, ds = [.obj C fs, .obj C gs] ∧ good fs ∧ good gs ∧ R (.bl (rel fs gs)) M) [x, y] [] H (fun v H' => ∃ bb, v = .bl bb ∧ Q (.bl (if neg then !bb else bb)) H')
theorem op_eqO (O : OwnE X.prog X.w X.K X.mg X.base n C f good rel) (hr : Rm n X.A) : OpR X (compareOp .Eq) (rO X.K C good rel false) := by
  intro pins s σ H x y v u Q I rx ry h
  obtain ⟨a, b, dx, dy, fs, gs, rfl, rfl, ha, hb, hsp⟩ := h
  cases rx
  cases ry
  obtain ⟨mA, J, _⟩ := ins_get I.hok ha
  obtain ⟨mB, J', _⟩ := ins_get I.hok hb
  obtain ⟨od, J, _⟩ := J.look
  obtain ⟨od', J', _⟩ := J'.look
  obtain ⟨m, hF⟩ := I.fr
  show wpAny (model X.prog X.w) X.A (richCompare .Eq (.ref a) (.ref b)) (EP X pins σ Q) X.xe s
  refine PySem.W.cmp_K (op := .Eq) (tb := .ref C) hr.room.units0 hF I.ok.mod.kin J J'.type (by simp [PySem.W.notFirst]) O.at_ O.fn ?_
  refine wpAny_mono (run_at O.fx hr rfl I (vs := [.ref a, .ref b]) (.cons rfl (.cons rfl .nil)) hsp) (fun r s' z => ?_) fun _ _ x => x
  obtain ⟨v', H', I', rv, bb, rfl, q⟩ := z
  cases rv
  exact ⟨.bl bb, H', I', rfl, q⟩
theorem op_neO (O : OwnE X.prog X.w X.K X.mg X.base n C f good rel) (hr : Rm (n + 1) X.A) : OpR X (compareOp .NotEq) (rO X.K C good rel true) := by
  intro pins s σ H x y v u Q I rx ry h
  obtain ⟨a, b, dx, dy, fs, gs, rfl, rfl, ha, hb, hsp⟩ := h
  cases rx
  cases ry
  obtain ⟨mA, J, _⟩ := ins_get I.hok ha
  obtain ⟨mB, J', _⟩ := ins_get I.hok hb
  obtain ⟨od, J, _⟩ := J.look
  obtain ⟨od', J', _⟩ := J'.look
  show wpAny (model X.prog X.w) X.A (richCompare .NotEq (.ref a) (.ref b)) (EP X pins σ Q) X.xe s
  refine rc_ne I.kIn J J' O.ne O.at_ O.fn O.ob hr.u1 ?_
  refine wpAny_mono (run_at (A := X.A.in1) O.fx hr.in1 rfl I (vs := [.ref a, .ref b]) (.cons rfl (.cons rfl .nil)) hsp) (fun r s' z => ?_) fun _ _ x => x
  obtain ⟨v', H', I', rv, bb, rfl, q⟩ := z
  cases rv
  exact ⟨bb, rfl, .bl (!bb), H', I', rfl, q⟩
theorem rv_O {neg : Bool} (hf : good fs) (hg : good gs) : RV X (rO X.K C good rel neg) (.obj C fs) (.obj C gs) M fun z M' => z = .bl (if neg then !rel fs gs else rel fs gs) ∧ M' = M := fun Hi H v w ok rv rw_ Q q => by
  cases id rv with
  | @obj a _ dx vs _ ha ra =>
    cases id rw_ with
    | @obj b _ dy ws _ hb rb =>
      refine ⟨a, b, dx, dy, vs, ws, rfl, rfl, ok.im _ _ ha, ok.im _ _ hb, Hi, M, [.obj C fs, .obj C gs], [], fun z M' => z = .bl (rel fs gs) ∧ M' = M, .cons rv (.cons rw_ .nil), .nil, ok, ⟨fs, gs, rfl, hf, hg, rfl, rfl⟩, ?_⟩
      intro d M' v Hi' H' h s' ok' r
      obtain ⟨rfl, rfl⟩ := h
      cases r
      exact ⟨_, rfl, q _ _ _ Hi' H' ⟨rfl, rfl⟩ s' ok' (.bl _)⟩
theorem cmp_eqO (O : OwnE X.prog X.w X.K X.mg X.base n C f good rel) (hr : Rm n X.A) (hf : good fs) (hg : good gs) : Cmp X .Eq M (.obj C fs) (.obj C gs) (rel fs gs) := ⟨_, op_eqO O hr, rv_O (neg := false) hf hg⟩
theorem cmp_neO (O : OwnE X.prog X.w X.K X.mg X.base n C f good rel) (hr : Rm (n + 1) X.A) (hf : good fs) (hg : good gs) : Cmp X .NotEq M (.obj C fs) (.obj C gs) (!rel fs gs) := ⟨_, op_neO O hr, rv_O (neg := true) hf hg⟩
end
end Ab

namespace Ab
open PySem PySem.Spec PyProof.Rows L2
open AutoSeq1 (wpAny_loadPart')
open PySem.SeqAt MeetsSeq MeetsSeq2 MeetsSeq3 SeqRoads2
/-! ### lists whose items are equal: == and != (neg) -/
section
variable {prog : Program} {w : World} {A : Around} {R : Result → Shared → Prop} {a b : Addr} {n : Nat} {J : Nat → Shared → Prop}
/-- at each turn: the two lists, n items each; the i-th two are equal -/
def Pairs (prog : Program) (w : World) (A : Around) (E : Value → Shared → Prop) (a b : Addr) (n : Nat) (J : Nat → Shared → Prop) : Prop :=
  ∀ i s, J i s → ∃ (xs ys : Array Value) (k1 k2 : Nat) (d1 d2 : Option Addr) (l1 l2 : Array (Option Value)), s.heap.get? a = some { cls := .type "list", dict := d1, data := .seq xs k1, slots := l1 } ∧ s.heap.get? b = some { cls := .type "list", dict := d2, data := .seq ys k2, slots := l2 } ∧ xs.size = n ∧ ys.size = n ∧
    ∀ (h1 : i < xs.size) (h2 : i < ys.size), wpAny (model prog w) A.in1 (eqBool xs[i] ys[i]) (fun r s' => r = true ∧ J (i + 1) s') E s
def opc (neg : Bool) : Int := if neg then 3 else 2
theorem cmp_run (neg : Bool) (hJ : Pairs prog w A (fun e s' => R (.error e) s') a b n J) (fin : ∀ s, J n s → R (.ok (.ret (.bool (!neg)))) s) : ∀ (m i : Nat), n - i = m → i ≤ n → ∀ s, J i s →
    wpAny (model prog w) A.in1 (Builtin.«list.__eq__.loop» ⟨[.ref a, .ref b, rawInt i, rawInt (opc neg)], []⟩) (GQ.FinOf prog w A R) (fun e s' => R (.error e) s') s
  | 0, i, hm, hi, s, h => by
    obtain ⟨xs, ys, k1, k2, d1, d2, l1, l2, g1, g2, z1, z2, _⟩ := hJ _ _ h
    obtain rfl : i = n := by omega
    have hR := fin s h
    obtain ⟨hp, g, d, tk, os⟩ := s
    have q1 : xs[((i : Nat) : Int).toNat]? = none := by simp; omega
    have q2 : ys[((i : Nat) : Int).toNat]? = none := by simp; omega
    cases neg
    · show wpAny _ _ (Builtin.«list.__eq__.loop» ⟨[.ref a, .ref b, rawInt i, rawInt 2], []⟩) _ _ _
      wp_walk using wpAny_loadPart' g1, wpAny_loadPart' g2
      rw [q1, q2]
      wp_walk using wpAny_loadPart' g1, wpAny_loadPart' g2
      have e : (xs.size == ys.size) = true := by simp [z1, z2]
      show R (.ok (.ret (.bool (xs.size == ys.size)))) _
      rw [e]
      exact hR
    · show wpAny _ _ (Builtin.«list.__eq__.loop» ⟨[.ref a, .ref b, rawInt i, rawInt 3], []⟩) _ _ _
      wp_walk using wpAny_loadPart' g1, wpAny_loadPart' g2
      rw [q1, q2]
      wp_walk using wpAny_loadPart' g1, wpAny_loadPart' g2
      have e : (xs.size != ys.size) = false := by simp [z1, z2]
      show R (.ok (.ret (.bool (xs.size != ys.size)))) _
      rw [e]
      exact hR
  | m + 1, i, hm, hi, s, h => by
    obtain ⟨xs, ys, k1, k2, d1, d2, l1, l2, g1, g2, z1, z2, turn⟩ := hJ _ _ h
    have s1 : i < xs.size := by omega
    have s2 : i < ys.size := by omega
    have ht := turn s1 s2
    have q1 : xs[((i : Nat) : Int).toNat]? = some xs[i] := by simp [s1]
    have q2 : ys[((i : Nat) : Int).toNat]? = some ys[i] := by simp [s2]
    have go := fun s' z => cmp_run neg hJ fin m (i + 1) (by omega) (by omega) s' z
    obtain ⟨hp, g, d, tk, os⟩ := s
    cases neg
    · show wpAny _ _ (Builtin.«list.__eq__.loop» ⟨[.ref a, .ref b, rawInt i, rawInt 2], []⟩) _ _ _
      wp_walk using wpAny_loadPart' g1, wpAny_loadPart' g2
      rw [q1, q2]
      refine wpAny_bind (wpAny_mono ht (fun r s2 z => ?_) fun _ _ x => x)
      obtain ⟨rfl, z⟩ := z
      have rec_ := go s2 z
      obtain ⟨hp2, g2, d2, tk2, os2⟩ := s2
      wp_walk
      rw [show ((i : Int) + 1) = ((i + 1 : Nat) : Int) by omega]
      exact ⟨plainId_quiet plain_eq_loop _, codeAny_builtin entry_eq_loop (by
        rw [Around.under_plainId plain_eq_loop _]
        exact rec_)⟩
    · show wpAny _ _ (Builtin.«list.__eq__.loop» ⟨[.ref a, .ref b, rawInt i, rawInt 3], []⟩) _ _ _
      wp_walk using wpAny_loadPart' g1, wpAny_loadPart' g2
      rw [q1, q2]
      refine wpAny_bind (wpAny_mono ht (fun r s2 z => ?_) fun _ _ x => x)
      obtain ⟨rfl, z⟩ := z
      have rec_ := go s2 z
      obtain ⟨hp2, g2, d2, tk2, os2⟩ := s2
      wp_walk
      rw [show ((i : Int) + 1) = ((i + 1 : Nat) : Int) by omega]
      exact ⟨plainId_quiet plain_eq_loop _, codeAny_builtin entry_eq_loop (by
        rw [Around.under_plainId plain_eq_loop _]
        exact rec_)⟩
theorem ne_lists (hJ : Pairs prog w A (fun e s' => R (.error e) s') a b n J) (fin : ∀ s, J n s → R (.ok (.ret (.bool false))) s) {s : Shared} (h : J 0 s) :
    wpAny (model prog w) A.in1 (Builtin.«list.__ne__» ⟨[.ref a, .ref b], []⟩) (GQ.FinOf prog w A R) (fun e s' => R (.error e) s') s := by
  obtain ⟨xs, ys, k1, k2, d1, d2, l1, l2, g1, g2, z1, z2, _⟩ := hJ _ _ h
  have rec_ := cmp_run true hJ fin _ 0 rfl (Nat.zero_le _) s h
  obtain ⟨hp, g, d, tk, os⟩ := s
  have f3 := AutoSeq1.sub_list_list
  have hne : ¬ (xs.size != ys.size) = true := by simp [z1, z2]
  wp_walk using wpAny_loadPart' g1, wpAny_loadPart' g2
  exact ⟨plainId_quiet plain_eq_loop _, codeAny_builtin entry_eq_loop (by
    rw [Around.under_plainId plain_eq_loop _]
    exact rec_)⟩
theorem eq_lists (hJ : Pairs prog w A (fun e s' => R (.error e) s') a b n J) (fin : ∀ s, J n s → R (.ok (.ret (.bool true))) s) {s : Shared} (h : J 0 s) :
    wpAny (model prog w) A.in1 (Builtin.«list.__eq__» ⟨[.ref a, .ref b], []⟩) (GQ.FinOf prog w A R) (fun e s' => R (.error e) s') s := by
  obtain ⟨xs, ys, k1, k2, d1, d2, l1, l2, g1, g2, z1, z2, _⟩ := hJ _ _ h
  have rec_ := cmp_run false hJ fin _ 0 rfl (Nat.zero_le _) s h
  obtain ⟨hp, g, d, tk, os⟩ := s
  have f3 := AutoSeq1.sub_list_list
  have hne : ¬ (xs.size != ys.size) = true := by simp [z1, z2]
  wp_walk using wpAny_loadPart' g1, wpAny_loadPart' g2
  exact ⟨plainId_quiet plain_eq_loop _, codeAny_builtin entry_eq_loop (by
    rw [Around.under_plainId plain_eq_loop _]
    exact rec_)⟩
theorem rc_lists {E : Value → Shared → Prop} {s : Shared} {Q : Value → Shared → Prop} (neg : Bool) (hu : A.units < cLine) (hJ : Pairs prog w A E a b n J) (fin : ∀ s, J n s → Q (.bool (!neg)) s) (h : J 0 s) : wpAny (model prog w) A (richCompare (if neg then .NotEq else .Eq) (.ref a) (.ref b)) Q E s := by
  obtain ⟨xs, ys, k1, k2, d1, d2, l1, l2, g1, g2, _⟩ := hJ _ _ h
  cases neg
  · refine wpAny_richCompare_same_room (op := .Eq) ⟨_, g1, rfl⟩ ⟨_, g2, rfl⟩ F.slot_list_eq (GQ.call_here F.slot_list_eq ⟨_, g1, rfl⟩ F.entry_list_eq (F.args_list_eq_2 _ _) ?_) hu
    exact eq_lists (R := wants (fun v s' => v ≠ .notImplemented ∧ Q v s') E) hJ (fun s' q => ⟨(fun x => nomatch x), fin s' q⟩) h
  · refine wpAny_richCompare_same_room (op := .NotEq) ⟨_, g1, rfl⟩ ⟨_, g2, rfl⟩ F.slot_list_ne (GQ.call_here F.slot_list_ne ⟨_, g1, rfl⟩ F.entry_list_ne (F.args_list_ne_2 _ _) ?_) hu
    exact ne_lists (R := wants (fun v s' => v ≠ .notImplemented ∧ Q v s') E) hJ (fun s' q => ⟨(fun x => nomatch x), fin s' q⟩) h
end
/-! ### items by their own == -/
def EqW (X : Cx) (n : Nat) (D : Eqv) : Prop := ∀ (A : Around) (pins : List (Addr × Obj)) (s : Shared) (σ : L2.St) (H : Hp) (x y : V) (u v : Value), Rm n A → A.frames = X.A.frames → Inv X pins σ H s → RelV x u → RelV y v → D x y H →
    wpAny (model X.prog X.w) A (eqBool u v) (fun r s' => r = true ∧ ∃ H', Inv X pins σ H' s' ∧ Same H H') X.xe s
def DV (K : PySem.W.Frag) (ed : Val → Val → Prop) : Eqv := fun x y H => ∃ d e, Rep K H d x ∧ Rep K H e y ∧ ed d e
theorem DV.mono {K : PySem.W.Frag} {ed : Val → Val → Prop} {x y : V} {H H' : Hp} (s : Same H H') (h : DV K ed x y H) : DV K ed x y H' := by
  obtain ⟨d, e, r1, r2, h⟩ := h
  exact ⟨d, e, r1.mono s, r2.mono s, h⟩
section
variable {X : Cx} {n : Nat} {C f : Addr} {good : List (Str × Val) → Prop} {rel : List (Str × Val) → List (Str × Val) → Bool} {M : Mem}
/-- two instances that are equal -/
def eqO (C : Addr) (good : List (Str × Val) → Prop) (rel : List (Str × Val) → List (Str × Val) → Bool) (d e : Val) : Prop := ∃ fs gs, d = .obj C fs ∧ e = .obj C gs ∧ good fs ∧ good gs ∧ rel fs gs = true
theorem eqw_obj (O : OwnE X.prog X.w X.K X.mg X.base n C f good rel) : EqW X n (DV X.K (eqO C good rel)) := by
  intro A pins s σ H x y u v hr hf I rx ry h
  obtain ⟨d, e, r1, r2, fs, gs, rfl, rfl, g1, g2, hrel⟩ := h
  cases id r1 with
  | @obj a _ dx vs _ ha ra =>
  cases id r2 with
  | @obj b _ dy ws _ hb rb =>
    cases rx
    cases ry
    by_cases hab : a = b
    · subst hab
      exact SeqAt.EqAt.same (A := A) (s := s) (.ref a) X.prog X.w X.xe _ ⟨rfl, H, I, Same.refl _⟩
    · obtain ⟨mA, J, _⟩ := ins_get I.hok ha
      obtain ⟨mB, J', _⟩ := ins_get I.hok hb
      obtain ⟨od, J, _⟩ := J.look
      obtain ⟨od', J', _⟩ := J'.look
      obtain ⟨m, hF⟩ := I.fr
      refine GQ.eqBool_refG hab ?_
      refine PySem.W.cmp_K (op := .Eq) (tb := .ref C) hr.room.units0 hF I.ok.mod.kin J J'.type (by simp [PySem.W.notFirst]) O.at_ O.fn ?_
      refine wpAny_mono (run_at (A := A) (Q := fun v H' => v = .bl true ∧ Same H H') O.fx hr hf I (vs := [.ref a, .ref b]) (.cons rfl (.cons rfl .nil)) ?_) (fun r s' z => ?_) fun _ _ x => x
      · refine ⟨H, [], [.obj C fs, .obj C gs], [], fun z M' => z = .bl (rel fs gs) ∧ M' = [], .cons r1 (.cons r2 .nil), .nil, Ok.all H, ⟨fs, gs, rfl, g1, g2, rfl, rfl⟩, ?_⟩
        intro d M' v Hi' H' h s' ok' r
        obtain ⟨rfl, rfl⟩ := h
        cases r
        rw [hrel]
        exact ⟨rfl, s'.trans ok'.im⟩
      · obtain ⟨v', H', I', rv, rfl, q⟩ := z
        cases rv
        exact ⟨true, rfl, rfl, H', I', q⟩
/-- two lists of the same length, item by item -/
def rLs (K : PySem.W.Frag) (ed : Val → Val → Prop) (neg : Bool) : R2 := fun x y H Q => ∃ a b xs ys, x = .ref a ∧ y = .ref b ∧ SqL K H a xs ∧ SqL K H b ys ∧ xs.length = ys.length ∧ (∀ (i : Nat) u v, xs[i]? = some u → ys[i]? = some v → DV K ed u v H) ∧ ∀ H', Same H H' → Q (.bl (!neg)) H'
theorem op_ls {ed : Val → Val → Prop} (neg : Bool) (h : EqW X n (DV X.K ed)) (hr : Rm (n + 1) X.A) : OpR X (compareOp (if neg then .NotEq else .Eq)) (rLs X.K ed neg) := by
  intro pins s σ H x y v u Q I rx ry hq
  obtain ⟨a, b, xs, ys, rfl, rfl, ha, hb, hl, hd, q⟩ := hq
  cases rx
  cases ry
  have e : compareOp (if neg then .NotEq else .Eq) (.ref a) (.ref b) = richCompare (if neg then .NotEq else .Eq) (.ref a) (.ref b) := by cases neg <;> rfl
  rw [e]
  refine rc_lists (n := xs.length) (J := fun _ s' => ∃ H', Inv X pins σ H' s' ∧ Same H H') neg hr.room.units0 (fun i s' z => ?_) (fun s' z => ?_) ⟨H, I, Same.refl _⟩
  · obtain ⟨H1, I1, s1⟩ := id z
    obtain ⟨its, rv, ⟨⟨c1, dd1, dt1, sl1⟩, n1, g1, hc1, hd1, hs1⟩, _⟩ := I1.list (s1.seq ha)
    obtain ⟨its2, rv2, ⟨⟨c2, dd2, dt2, sl2⟩, n2, g2, hc2, hd2, hs2⟩, _⟩ := I1.list (s1.seq hb)
    simp only at hc1 hd1 hs1 hc2 hd2 hs2
    subst hc1 hd1 hs1 hc2 hd2 hs2
    refine ⟨its.toArray, its2.toArray, n1, n2, _, _, _, _, g1, g2, by rw [List.size_toArray, ← rv.length], by rw [List.size_toArray, ← rv2.length, hl], fun h1 h2 => ?_⟩
    have k1 : i < xs.length := by rw [rv.length]; simpa using h1
    have k2 : i < ys.length := by rw [rv2.length]; simpa using h2
    obtain ⟨u, hu, ru⟩ := rv.get (List.getElem?_eq_getElem k1)
    obtain ⟨v, hv, rv'⟩ := rv2.get (List.getElem?_eq_getElem k2)
    have eu : its.toArray[i] = u := by
      have h1' : i < its.length := by simpa using h1
      rw [List.getElem?_eq_getElem h1'] at hu
      simpa using hu
    have ev : its2.toArray[i] = v := by
      have h2' : i < its2.length := by simpa using h2
      rw [List.getElem?_eq_getElem h2'] at hv
      simpa using hv
    rw [eu, ev]
    refine wpAny_mono (h X.A.in1 pins s' σ H1 _ _ u v hr.in1 rfl I1 ru rv' ((hd i _ _ (List.getElem?_eq_getElem k1) (List.getElem?_eq_getElem k2)).mono s1)) (fun r s2 z => ?_) fun _ _ x => x
    obtain ⟨hr', H2, I2, s2⟩ := z
    exact ⟨hr', H2, I2, s1.trans s2⟩
  · obtain ⟨H1, I1, s1⟩ := z
    exact ⟨.bl (!neg), H1, I1, rfl, q H1 s1⟩
theorem ok_same {K : PySem.W.Frag} {Hi H H' : Hp} {M : Mem} (ok : Ok K Hi M H) (s : Same H H') : Ok K Hi M H' := by
  obtain ⟨F, f, k⟩ := ok
  exact ⟨F, f, k.im.trans s, fun a c h => by
    obtain ⟨h1, o, h2, h3⟩ := k.ce a c h
    exact ⟨h1, o, s _ _ h2, h3⟩, k.nd⟩
theorem rv_ls {ed : Val → Val → Prop} {neg : Bool} {d1 d2 : Val} {ds es : List Val} (h1 : Vw M d1 (.lst ds)) (h2 : Vw M d2 (.lst es)) (hl : ds.length = es.length) (hd : ∀ (i : Nat) d e, ds[i]? = some d → es[i]? = some e → ed d e) : RV X (rLs X.K ed neg) d1 d2 M fun z M' => z = .bl (!neg) ∧ M' = M := fun Hi H v w ok rv rw_ Q q => by
  obtain ⟨p, us, rfl, hq, ra⟩ := h1.repL ok rv
  obtain ⟨p', ws, rfl, hq', ra'⟩ := h2.repL ok rw_
  refine ⟨p, p', us, ws, rfl, rfl, hq, hq', by rw [← ra.length, ← ra'.length]; exact hl, fun i u v hu hv => ?_, fun H' s => q _ _ _ Hi H' ⟨rfl, rfl⟩ (Same.refl _) (ok_same ok s) (.bl _)⟩
  obtain ⟨d, e1, r1⟩ := ra.getV hu
  obtain ⟨e, e2, r2⟩ := ra'.getV hv
  exact ⟨d, e, r1.mono ok.im, r2.mono ok.im, hd i d e e1 e2⟩
theorem cmp_eqLs {ed : Val → Val → Prop} {d1 d2 : Val} {ds es : List Val} (h : EqW X n (DV X.K ed)) (hr : Rm (n + 1) X.A) (h1 : Vw M d1 (.lst ds)) (h2 : Vw M d2 (.lst es)) (hl : ds.length = es.length) (hd : ∀ (i : Nat) d e, ds[i]? = some d → es[i]? = some e → ed d e) : Cmp X .Eq M d1 d2 true := ⟨_, op_ls false h hr, rv_ls (neg := false) h1 h2 hl hd⟩
theorem cmp_neLs {ed : Val → Val → Prop} {d1 d2 : Val} {ds es : List Val} (h : EqW X n (DV X.K ed)) (hr : Rm (n + 1) X.A) (h1 : Vw M d1 (.lst ds)) (h2 : Vw M d2 (.lst es)) (hl : ds.length = es.length) (hd : ∀ (i : Nat) d e, ds[i]? = some d → es[i]? = some e → ed d e) : Cmp X .NotEq M d1 d2 false := ⟨_, op_ls true h hr, rv_ls (neg := true) h1 h2 hl hd⟩
end
end Ab

namespace Ab
open PySem PySem.Spec PyProof.Rows L2
section
variable {X : Cx} {Γ : Gam} {M : Mem} {P : Val → Mem → Prop} {e a b c o : Expr} {es : List Expr} {pos p1 p2 apos kpos : Pos} {k : AK} {d d1 d2 d3 : Val} {i j : Int} {x y m : Str} {n : Nat} {f C : Addr}
/-- a global name that holds an int -/
theorem av_gint {t : Tok} (hm : X.mg x = some (.int i t)) (hg : Gl X x := by rfl) (hd : (x == ("__debug__" : Str)) = false := by decide) : aV X (.Name x pos) Γ M (.int i) := fun Hi H σ ok en Q q =>
  ⟨fun σ H Q => Q (.int i) H, ⟨fun pins s σ H Q I h => ld_glob I hg hm ⟨.int i, H, I, ⟨t, rfl⟩, h⟩ hd⟩, q _ _ _ Hi H ⟨rfl, rfl⟩ (Same.refl _) ok (.int i)⟩
/-- max, min of a list of ints -/
theorem ae_maxL (hm : X.mg "max" = none) (hc : X.calm = true) (ha : aE X a Γ M fun d M' => ∃ ns : List Int, Vw M' d (.lst (ns.map .int)) ∧ 0 < ns.length ∧ ∀ m, m ∈ ns → (∀ y, y ∈ ns → y ≤ m) → P (.int m) M') (hg : Gl X "max" := by rfl) (hst : starEach [a] X.env = [(false, eval a X.env)] := by rfl) : aE X (.Call (.Name "max" p1) [a] [] pos) Γ M P :=
  ae_callB (cr_max hc) hm (by decide +kernel) (aa_cons (ha.mono fun d M' ⟨ns, hv, hl, h⟩ => aa_nil fun Hi H vs ok r Q q => by
    cases r with
    | cons r1 r2 =>
      cases r2
      obtain ⟨p, ys, rfl, hq, ra⟩ := hv.repL ok r1
      obtain rfl := ra.ints
      exact ⟨p, ns, rfl, hq, hl, fun m h1 h2 => q _ _ _ Hi H (h m h1 h2) (Same.refl _) ok (.int _)⟩) hst) hg (he := hst) (hpl := rfl)
theorem ae_minL (hm : X.mg "min" = none) (hc : X.calm = true) (ha : aE X a Γ M fun d M' => ∃ ns : List Int, Vw M' d (.lst (ns.map .int)) ∧ 0 < ns.length ∧ ∀ m, m ∈ ns → (∀ y, y ∈ ns → m ≤ y) → P (.int m) M') (hg : Gl X "min" := by rfl) (hst : starEach [a] X.env = [(false, eval a X.env)] := by rfl) : aE X (.Call (.Name "min" p1) [a] [] pos) Γ M P :=
  ae_callB (cr_min hc) hm (by decide +kernel) (aa_cons (ha.mono fun d M' ⟨ns, hv, hl, h⟩ => aa_nil fun Hi H vs ok r Q q => by
    cases r with
    | cons r1 r2 =>
      cases r2
      obtain ⟨p, ys, rfl, hq, ra⟩ := hv.repL ok r1
      obtain rfl := ra.ints
      exact ⟨p, ns, rfl, hq, hl, fun m h1 h2 => q _ _ _ Hi H (h m h1 h2) (Same.refl _) ok (.int _)⟩) hst) hg (he := hst) (hpl := rfl)
/-- max of a tuple of ints -/
def rMaxT (K : PySem.W.Frag) : List V → Hp → VK → Prop := fun vs H Q => ∃ (a : Addr) (ns : List Int), vs = [V.ref a] ∧ SqT K H a (ns.map V.int) ∧ 0 < ns.length ∧ ∀ m, m ∈ ns → (∀ y, y ∈ ns → y ≤ m) → Q (.int m) H
theorem maxOf_spec : ∀ (ns : List Int) (n : Int), PySem.W.maxOf n ns ∈ n :: ns ∧ ∀ y ∈ n :: ns, y ≤ PySem.W.maxOf n ns
  | [], n => ⟨List.mem_cons_self, fun y hy => by
    have : y = n := by simpa using hy
    subst this
    exact Int.le_refl _⟩
  | m :: ns, n => by
    show PySem.W.maxOf (if PySem.W.DatumOrd.lt n m = true then m else n) ns ∈ _ ∧ _
    have e : PySem.W.maxOf n (m :: ns) = PySem.W.maxOf (if PySem.W.DatumOrd.lt n m = true then m else n) ns := rfl
    rw [e]
    have hlt : PySem.W.DatumOrd.lt n m = true ↔ n < m := by
      show decide (n < m) = true ↔ n < m
      exact decide_eq_true_iff
    by_cases h : PySem.W.DatumOrd.lt n m = true
    · rw [if_pos h]
      obtain ⟨h1, h2⟩ := maxOf_spec ns m
      have hnm := hlt.mp h
      refine ⟨List.mem_cons_of_mem _ h1, fun y hy => ?_⟩
      rcases List.mem_cons.mp hy with rfl | hy
      · exact Int.le_trans (Int.le_of_lt hnm) (h2 m List.mem_cons_self)
      · exact h2 y hy
    · rw [if_neg h]
      obtain ⟨h1, h2⟩ := maxOf_spec ns n
      have hnm : m ≤ n := by
        have : ¬ n < m := fun z => h (hlt.mpr z)
        omega
      refine ⟨?_, fun y hy => ?_⟩
      · rcases List.mem_cons.mp h1 with h1 | h1
        · rw [h1]
          exact List.mem_cons_self
        · exact List.mem_cons_of_mem _ (List.mem_cons_of_mem _ h1)
      · rcases List.mem_cons.mp hy with rfl | hy
        · exact h2 y List.mem_cons_self
        · rcases List.mem_cons.mp hy with rfl | hy
          · exact Int.le_trans hnm (h2 n List.mem_cons_self)
          · exact h2 y (List.mem_cons_of_mem _ hy)
theorem cr_maxT (hc : X.calm = true) (hu : X.A.units + 64 < cLine) : CallR X (.builtin "max") (rMaxT X.K) := by
  intro pins s σ H vs us Q I r h
  obtain ⟨a, ns, rfl, hs, hne, q⟩ := h
  obtain ⟨its, rv, hl, _⟩ := I.tuple hs
  obtain ⟨u, rfl, ru⟩ := vals1 r
  obtain rfl : u = Value.ref a := ru
  cases ns with
  | nil => simp at hne
  | cons m ns =>
    have dp : ∀ l : List Int, DpAll X.K H (l.map V.int) (l.map PyData.int) := fun l => by
      induction l with
      | nil => exact .nil
      | cons z l ih => exact .cons (.int z) ih
    obtain ⟨as, ra⟩ := Dp.readsAll I _ _ _ (dp (m :: ns)) rv
    refine PySem.W.max_tuple_datum (α := Int) (x := m) (xs := ns) (I.ok.hd hc) hl ⟨as, by rw [List.toList_toArray]; exact ra⟩ (by show X.A.units + 1 + 0 < cLine; omega) fun i v h' tk hv ho hk => ?_
    obtain ⟨bs, rd⟩ := ho
    obtain ⟨h1, h2⟩ := maxOf_spec ns m
    have e : ∃ t, v = Value.int (PySem.W.maxOf m ns) t := by
      have rd' : Reads h' v (.int (PySem.W.maxOf m ns)) bs := rd
      cases rd'
      exact ⟨_, rfl⟩
    obtain ⟨t, rfl⟩ := e
    exact ⟨.int (PySem.W.maxOf m ns), H, I.kept (h' := h') (t' := tk) hk, ⟨t, rfl⟩, q _ h1 h2⟩
theorem ae_maxT (hm : X.mg "max" = none) (hc : X.calm = true) (hu : X.A.units + 64 < cLine) (ha : aE X a Γ M fun d M' => ∃ ns : List Int, d = .tup (ns.map .int) ∧ 0 < ns.length ∧ ∀ m, m ∈ ns → (∀ y, y ∈ ns → y ≤ m) → P (.int m) M') (hg : Gl X "max" := by rfl) (hst : starEach [a] X.env = [(false, eval a X.env)] := by rfl) : aE X (.Call (.Name "max" p1) [a] [] pos) Γ M P :=
  ae_callB (cr_maxT hc hu) hm (by decide +kernel) (aa_cons (ha.mono fun d M' ⟨ns, hv, hl, h⟩ => aa_nil fun Hi H vs ok r Q q => by
    subst hv
    cases r with
    | cons r1 r2 =>
      cases r2
      cases r1 with
      | @tup p ys _ hq ra =>
        obtain rfl := ra.ints
        exact ⟨p, ns, rfl, sameT ok.im hq, hl, fun m h1 h2 => q _ _ _ Hi H (h m h1 h2) (Same.refl _) ok (.int _)⟩) hst) hg (he := hst) (hpl := rfl)
/-- t * n -/
theorem av_repT {xs : List Val} (ha : aV X a Γ M (.tup xs)) (hb : aV X b Γ M (.int j)) (hx : xs ≠ []) (h1 : 2 ≤ j) (h2 : j ≤ 1000) (hl : xs.length ≤ 1000) : aV X (.BinOp a .Mult b pos) Γ M (.tup (List.replicate j.toNat xs).flatten) :=
  av_op op_repT ha hb fun Hi H v w ok rv rw_ Q q => by
    cases rw_
    cases rv with
    | @tup p ys _ hq ra =>
      have rep : ∀ m : Nat, RepA X.K Hi (List.replicate m xs).flatten (List.replicate m ys).flatten := by
        intro m
        induction m with
        | zero => exact .nil
        | succ m ih =>
          rw [List.replicate_succ, List.replicate_succ, List.flatten_cons, List.flatten_cons]
          exact ra.append ih
      refine ⟨p, j, ys, rfl, rfl, sameT ok.im hq, fun z => hx ?_, h1, h2, by rw [← ra.length]; exact hl, fun l hl => ?_⟩
      · subst z
        cases ra
        rfl
      · have s2 := same_upd (o := .tup (List.replicate j.toNat ys).flatten) (ok.none hl)
        exact q _ _ _ _ _ ⟨rfl, rfl⟩ s2 (ok.imm hl) (.tup (SqT.of upd_same) ((rep _).mono s2))
/-- int(True), int(False) -/
theorem av_intB {bb : Bool} (hm : X.mg "int" = none) (ha : aV X a Γ M (.bl bb)) (hg : Gl X "int" := by rfl) (hst : starEach [a] X.env = [(false, eval a X.env)] := by rfl) : aV X (.Call (.Name "int" p1) [a] [] pos) Γ M (.int (if bb then 1 else 0)) :=
  ae_callTy call_int1 hm (by decide +kernel) (aa_cons (ha.val (aa_nil fun Hi H vs ok r Q q => by
    cases r with
    | cons r1 r2 =>
      cases r2
      cases r1
      exact .inr ⟨bb, rfl, q _ _ _ Hi H ⟨rfl, rfl⟩ (Same.refl _) ok (.int _)⟩)) hst) hg (he := hst) (hpl := rfl)
/-- a, b, .. = xs -/
theorem ag_unl {kk : Nat} {R : Gam → Mem → Prop} {d : Val} {ds : List Val} (hc : X.calm = true) (hv : Vw M d (.lst ds)) (h : aGs X es ds Γ M R) (hl : (assignEach es X.env).length = ds.length := by rfl) (hst : (assignEach es X.env).findIdx? (·.1) = none := by rfl) : aG X (.Tuple es kk pos) d Γ M R := fun Hi H σ v ok en r Q q => by
  obtain ⟨p, ys, rfl, hq, ra⟩ := hv.repL ok r
  refine ⟨_, pg_unl hc pgs_wgs hl hst, p, ys, rfl, hq, ra.length.symm, ?_⟩
  exact h Hi H σ ys ok en ra Q q
/-- list(range(n)) -/
theorem av_listRg {a : Expr} {pr : Pos} {p3 : Pos} (m1 : X.mg "list" = none) (m2 : X.mg "range" = none) (hc : X.calm = true) (ha : aV X a Γ M (.int j)) (h0 : 0 ≤ j) (h1 : j ≤ 16777216) (hg1 : Gl X "list" := by rfl) (hg2 : Gl X "range" := by rfl) (na : starEach [a] X.env = (false, eval a X.env) :: starEach [] X.env := by rfl)
    (nb : starEach [.Call (.Name "range" pr) [a] [] p3] X.env = (false, eval (.Call (.Name "range" pr) [a] [] p3) X.env) :: starEach [] X.env := by rfl) : aV X (.Call (.Name "list" p1) [.Call (.Name "range" pr) [a] [] p3] [] pos) Γ M (.lst ((List.range j.toNat).map fun i => .int (i : Nat))) := fun Hi H σ ok en Q q => by
  refine ⟨_, pe_listRg hc hg1 m1 (prg_1 hg2 m2 pe_we na) nb, ?_⟩
  refine ha Hi H σ ok en _ fun x M1 v Hi1 H1 h1' s1 ok1 r1 => ?_
  obtain ⟨rfl, rfl⟩ := h1'
  cases r1
  refine ⟨j, rfl, RgOk.of_le (by decide) h1 (by decide) h0, fun l hl => ?_⟩
  have s2 := same_upd (o := .lst (rgV 0 j)) (ok1.none hl)
  refine q _ _ _ _ _ ⟨rfl, rfl⟩ (s1.trans s2) (ok1.imm hl) (.lst (SqL.of upd_same) ?_)
  unfold rgV
  rw [Int.sub_zero]
  have : ∀ (H0 : Hp) (l : List Nat), RepA X.K H0 (l.map fun i => Val.int (i : Nat)) (l.map fun i => V.int (0 + (i : Nat))) := fun H0 l => by
    induction l with
    | nil => exact .nil
    | cons z l ih =>
      rw [List.map_cons, List.map_cons, Int.zero_add]
      exact .cons (.int _) ih
  exact this _ _
end
/-! ### def f( *v) -/
section
variable {P : Program} {w : World} {K : PySem.W.Frag} {mg : Str → Option Value} {base : Heap}
theorem fnx_all {x qual : Str} {params : Arguments} {body : List Stmt} {sc : Scope} {kws : List (Str × V)} {f : Addr} {fd : FuncData} {N : List Str} {pv : Str} {k : Nat} {s0 : ASp} (F : FunD K x qual params body sc [] kws f fd) (S : FnScope N [pv] sc)
    (hb : ∀ (kV doc pm : Value) (an : Option Addr) (cdv ct : Value) (us : List Value), bindArgs (PySem.W.fnOf x qual params body sc .none kV doc pm an cdv ct) ⟨us, []⟩ = (newTuple us >>= fun t => pure [(pv, t)]))
    (hbody : BodyOk P w K mg base k f N qual sc body s0) : FnX P w K mg base (k + 1) f [] (spX K fun ds _ M R => ds.length ≤ sizeLine ∧ s0 [.tup ds] M R) := by
  refine ⟨fun A outer s H us ws vs zs Q hr e0 r rz hz hsp => ?_⟩
  obtain ⟨Hi, M, ds, es, R, ra, re, ok, ⟨hl, hs⟩, q⟩ := hsp
  have ez : zs = [] := List.length_eq_zero_iff.mp hz
  subst ez
  cases rz
  obtain ⟨oc, od, dV, kV, doc, pm, an, cdv, ct, osl, rfl, lk, hcd, hD, _⟩ := F.ex
  obtain ⟨_, rfl⟩ : ([] : List V) = [] ∧ dV = .none := by
    rcases hD with h | ⟨e, _⟩
    · exact h
    · exact absurd rfl e
  have hn : H s.heap.objs.size = none := e0.hok.fresh (Nat.le_refl _)
  have hl2 : us.length ≤ sizeLine := by rw [← r.length, ← ra.length]; exact hl
  refine StX.run_bnd (CX := CX0) (E := E0) (G := fun xs H2 => ∃ p, H p = none ∧ xs = [.ref p] ∧ H2 = upd H p (.tup vs)) lk hcd S hr.room e0 (fun A' Ex Q' h => ?_) fun s2 H2 xs hG hr' => ?_
  · show wpAny (model P w) A' (bindArgs _ ⟨us, []⟩) Q' Ex s
    rw [hb]
    refine wpAny_bind (wpAny_newTuple (wpAny_pure ?_) hl2)
    have new : ObjOk P w (upd H s.heap.objs.size (.tup vs)) (s.heap.push ({ cls := .type "tuple", data := .seq us.toArray } : Obj)) s.heap.objs.size (.tup vs) := ⟨by rw [← ra.length]; exact hl, us, r, ⟨_, Heap.get?_push_size _ rfl, rfl, _, rfl⟩⟩
    have un := StX.un_laid (fs := frs outer) (s := s) (o := ({ cls := .type "tuple", data := .seq us.toArray } : Obj)) (u := .tup vs) hn
    exact h _ _ [.ref s.heap.objs.size] [.ref s.heap.objs.size] (StX.env0_laid e0 new) un rfl (fun _ _ z => z) (.cons rfl .nil) rfl ⟨_, hn, rfl, rfl⟩
  · obtain ⟨p, hp, rfl, rfl⟩ := hG
    have s2' := same_upd (o := .tup vs) (ok.none hp)
    obtain ⟨t, pp, z⟩ := body_of (hbody cdv A outer s2 _ E0 (hr.deeper _)) (Q := Q) (vs := [.ref p]) ⟨_, M, [.tup ds], R, .cons (.tup (SqT.of upd_same) (ra.mono s2')) .nil, ok.imm hp, hs, q.up s2'⟩
    exact ⟨t, pp.nox, z⟩
/-- positional defaults fill up -/
theorem fnx_dfl {x qual : Str} {params : Arguments} {body : List Stmt} {sc : Scope} {dvs : List V} {kws : List (Str × V)} {f : Addr} {fd : FuncData} {N ps : List Str} {k n : Nat} {s0 : ASp} (F : FunD K x qual params body sc dvs kws f fd) (S : FnScope N ps sc) (hd : dvs ≠ []) (dd : List Val) (hdd : ∀ H, RepA K H dd dvs)
    (h : ∀ (T : Addr) (kV doc pm : Value) (an : Option Addr) (cdv ct : Value) (us its : List Value), us.length = n → its.length = dvs.length →
      ∃ k, bindArgs (PySem.W.fnOf x qual params body sc (.ref T) kV doc pm an cdv ct) ⟨us, []⟩ = seqItems? (.ref T) >>= k ∧ k (some its.toArray) = pure (ps.zip (us ++ its)))
    (len : ∀ ds M R, s0 ds M R → ds.length = ps.length) (hb : BodyOk P w K mg base k f N qual sc body s0) : FnX P w K mg base (k + 1) f [] (spX K fun ds _ M R => ds.length = n ∧ s0 (ds ++ dd) M R) := by
  obtain ⟨oc, od, dV, kV, doc, pm, an, cdv, ct, osl, e, lk, hcd, hD, hK⟩ := F.ex
  rcases hD with ⟨e, _⟩ | ⟨_, T, o, its, m, e2, lT, oT, rT⟩
  · exact absurd e hd
  · subst e2
    subst e
    have l1 : its.length = dvs.length := rT.length.symm
    refine fnx_kbn (n := n) (ks := []) (fun ds _ => ds ++ dd) F S (g := fun us _ => us ++ its) (gV := fun vs _ => vs ++ dvs) ⟨fun s us ws X l2 h2 => ?_, fun r1 _ => r1.append rT⟩ (fun H ds vs es zs r _ _ _ => r.append (hdd H)) len hb
    obtain rfl := List.length_eq_zero_iff.mp h2
    obtain ⟨k', e1, e2⟩ := h T kV doc pm an cdv ct us its l2 l1
    refine BindsTo.of_looks fun M => ?_
    show PySem.W.Looks M s.heap (bindArgs _ ⟨us, []⟩) _
    rw [e1]
    exact looks_items X lT oT (.of_pure e2)
end
end Ab

/-! streams: a front and a loop; the normal form is one -/
namespace Sm
abbrev Stm := List Int × List Int
def lp (l : List Int) (i : Nat) : Int := l.getD (i % l.length) 0
def item (s : Stm) (i : Nat) : Int := if i < s.1.length then s.1.getD i 0 else lp s.2 (i - s.1.length)
theorem gd_eq {l : List Int} {i : Nat} (h : i < l.length) : l.getD i 0 = l[i] := by
  rw [List.getD_eq_getElem?_getD, List.getElem?_eq_getElem h]
  rfl
theorem ext_gd {l m : List Int} (hl : l.length = m.length) (h : ∀ i, i < l.length → l.getD i 0 = m.getD i 0) : l = m := by
  apply List.ext_getElem hl
  intro i h1 h2
  have := h i h1
  rwa [gd_eq h1, gd_eq h2] at this
theorem lp_add {l : List Int} (i : Nat) : lp l (i + l.length) = lp l i := by
  unfold lp
  rw [Nat.add_mod_right]
theorem lp_lt {l : List Int} {i : Nat} (h : i < l.length) : lp l i = l.getD i 0 := by
  unfold lp
  rw [Nat.mod_eq_of_lt h]
/-! ### periods -/
theorem per_mul {h : Nat → Int} {p : Nat} (hp : ∀ i, h (i + p) = h i) : ∀ (k i : Nat), h (i + p * k) = h i
  | 0, i => by rw [Nat.mul_zero, Nat.add_zero]
  | k + 1, i => by
    rw [Nat.mul_succ, ← Nat.add_assoc, hp, per_mul hp k]
theorem per_mod {h : Nat → Int} {p : Nat} (hp : ∀ i, h (i + p) = h i) (i : Nat) : h (i % p) = h i := by
  have := per_mul hp (i / p) (i % p)
  rw [Nat.mod_add_div] at this
  exact this.symm
theorem per_gcd {h : Nat → Int} (p q : Nat) (hp : ∀ i, h (i + p) = h i) (hq : ∀ i, h (i + q) = h i) : ∀ i, h (i + Nat.gcd p q) = h i := by
  induction p, q using Nat.gcd.induction with
  | H0 q => rw [Nat.gcd_zero_left]; exact hq
  | H1 m n hm ih =>
    rw [Nat.gcd_rec]
    refine ih (fun i => ?_) hp
    have e := per_mul hp (n / m) (i + n % m)
    rw [Nat.add_assoc, Nat.mod_add_div] at e
    rw [← e]
    exact hq i
/-- no smaller period that divides the length -/
def prim (l : List Int) : Prop := ∀ p, 0 < p → p < l.length → p ∣ l.length → ¬ ∀ i, lp l (i + p) = lp l i
def last0 (l : List Int) : Int := l.getD (l.length - 1) 0
structure NF (s : Stm) : Prop where
  ne : s.2 ≠ []
  pr : prim s.2
  fr : s.1 = [] ∨ last0 s.1 ≠ last0 s.2
theorem prim_per {l : List Int} (hn : l ≠ []) (hp : prim l) {d : Nat} (h0 : 0 < d) (hd : d ∣ l.length) (h : ∀ i, lp l (i + d) = lp l i) : d = l.length := by
  have hl : 0 < l.length := List.length_pos_iff.mpr hn
  have := Nat.le_of_dvd hl hd
  rcases Nat.lt_or_ge d l.length with h1 | h1
  · exact absurd h (hp d h0 h1 hd)
  · omega
theorem item_ge {s : Stm} {i : Nat} (h : s.1.length ≤ i) : item s i = lp s.2 (i - s.1.length) := by
  unfold item
  rw [if_neg (by omega)]
theorem item_lt {s : Stm} {i : Nat} (h : i < s.1.length) : item s i = s.1.getD i 0 := by
  unfold item
  rw [if_pos h]
theorem uniq_le {s t : Stm} (hs : NF s) (ht : NF t) (h : ∀ i, item s i = item t i) (hle : s.1.length ≤ t.1.length) : s = t := by
  have ps : 0 < s.2.length := List.length_pos_iff.mpr hs.ne
  have pt : 0 < t.2.length := List.length_pos_iff.mpr ht.ne
  generalize hc : t.1.length - s.1.length = c
  -- behind t's front
  have hh : ∀ i, lp s.2 (i + c) = lp t.2 i := fun i => by
    have := h (i + t.1.length)
    rw [item_ge (by omega), item_ge (by omega)] at this
    rw [show i + t.1.length - s.1.length = i + c by omega, Nat.add_sub_cancel] at this
    exact this
  have per1 : ∀ i, lp t.2 (i + s.2.length) = lp t.2 i := fun i => by
    rw [← hh, ← hh, show i + s.2.length + c = i + c + s.2.length by omega, lp_add]
  have d1 := per_gcd _ _ per1 (fun i => lp_add (l := t.2) i)
  have dpos : 0 < Nat.gcd s.2.length t.2.length := Nat.gcd_pos_of_pos_left _ ps
  have e1 := prim_per ht.ne ht.pr dpos (Nat.gcd_dvd_right _ _) d1
  have d2 : ∀ i, lp s.2 (i + Nat.gcd s.2.length t.2.length) = lp s.2 i := fun i => by
    have k : ∀ j, lp s.2 j = lp t.2 (j + s.2.length * c - c) := fun j => by
      have hc' : c ≤ s.2.length * c := Nat.le_mul_of_pos_left _ ps
      rw [← hh, show j + s.2.length * c - c + c = j + s.2.length * c by omega]
      exact (per_mul (fun i => lp_add (l := s.2) i) c j).symm
    have hc' : c ≤ s.2.length * c := Nat.le_mul_of_pos_left _ ps
    rw [k, k, show i + Nat.gcd s.2.length t.2.length + s.2.length * c - c = (i + s.2.length * c - c) + Nat.gcd s.2.length t.2.length by omega, d1]
  have e2 := prim_per hs.ne hs.pr dpos (Nat.gcd_dvd_left _ _) d2
  have hpq : s.2.length = t.2.length := e2.symm.trans e1
  have hc0 : c = 0 := by
    rcases Nat.eq_zero_or_pos c with z | z
    · exact z
    · exfalso
      have hN : 0 < t.1.length := by omega
      rcases ht.fr with q | q
      · rw [q] at hN
        exact absurd hN (by simp)
      · refine q ?_
        have a1 := h (t.1.length - 1)
        rw [item_ge (by omega), item_lt (by omega)] at a1
        have a2 := hh (t.2.length - 1)
        rw [show t.2.length - 1 + c = (c - 1) + s.2.length by omega, lp_add, lp_lt (l := t.2) (by omega)] at a2
        rw [show t.1.length - 1 - s.1.length = c - 1 by omega] at a1
        show t.1.getD (t.1.length - 1) 0 = t.2.getD (t.2.length - 1) 0
        rw [← a1, ← a2]
  have hl : s.1.length = t.1.length := by omega
  have f1 : s.1 = t.1 := ext_gd hl fun i hi => by
    have := h i
    rwa [item_lt hi, item_lt (hl ▸ hi)] at this
  have f2 : s.2 = t.2 := ext_gd hpq fun i hi => by
    have := hh i
    rw [hc0, Nat.add_zero, lp_lt hi, lp_lt (hpq ▸ hi)] at this
    exact this
  exact Prod.ext f1 f2
theorem uniq {s t : Stm} (hs : NF s) (ht : NF t) (h : ∀ i, item s i = item t i) : s = t := by
  rcases Nat.le_total s.1.length t.1.length with q | q
  · exact uniq_le hs ht h q
  · exact (uniq_le ht hs (fun i => (h i).symm) q).symm
/-! ### the program's way there -/
def cyc (t : List Int) (m : Nat) : List Int := (List.replicate m t).flatten
theorem cyc_succ (t : List Int) (m : Nat) : cyc t (m + 1) = t ++ cyc t m := by
  unfold cyc
  rw [List.replicate_succ, List.flatten_cons]
theorem cyc_len (t : List Int) : ∀ m, (cyc t m).length = m * t.length
  | 0 => by simp [cyc]
  | m + 1 => by
    rw [cyc_succ, List.length_append, cyc_len t m, Nat.succ_mul, Nat.add_comm]
theorem cyc_get (t : List Int) : ∀ (m i : Nat), i < m * t.length → (cyc t m).getD i 0 = lp t i
  | 0, i, h => by simp at h
  | m + 1, i, h => by
    rw [cyc_succ, List.getD_eq_getElem?_getD]
    by_cases hi : i < t.length
    · rw [List.getElem?_append_left hi, lp_lt hi, List.getD_eq_getElem?_getD]
    · have hi' : t.length ≤ i := by omega
      rw [List.getElem?_append_right hi', ← List.getD_eq_getElem?_getD, cyc_get t m (i - t.length) (by rw [Nat.succ_mul] at h; omega)]
      have := lp_add (l := t) (i - t.length)
      rw [Nat.sub_add_cancel hi'] at this
      exact this.symm
/-- the loop is its first p items over and over -/
def isRep (l : List Int) (p : Nat) : Bool := decide (l.length % p = 0) && decide (l = cyc (l.take p) (l.length / p))
def slFrom (l : List Int) : Nat → Nat → List Int
  | 0, _ => l
  | c + 1, p => if isRep l p = true then l.take p else slFrom l c (p + 1)
def sloop (l : List Int) : List Int := slFrom l (l.length - 1) 1
theorem take_len {l : List Int} {p : Nat} (h : p ≤ l.length) : (l.take p).length = p := by rw [List.length_take]; omega
theorem isRep_iff {l : List Int} {p : Nat} (h0 : 0 < p) (h1 : p < l.length) : isRep l p = true ↔ p ∣ l.length ∧ ∀ i, lp l (i + p) = lp l i := by
  unfold isRep
  rw [Bool.and_eq_true, decide_eq_true_iff, decide_eq_true_iff, ← Nat.dvd_iff_mod_eq_zero]
  have tl := take_len (Nat.le_of_lt h1)
  refine ⟨fun ⟨hd, he⟩ => ⟨hd, ?_⟩, fun ⟨hd, hp⟩ => ⟨hd, ?_⟩⟩
  · have hm : l.length / p * p = l.length := Nat.div_mul_cancel hd
    have g : ∀ i, i < l.length → l.getD i 0 = lp (l.take p) i := fun i hi => by
      have := cyc_get (l.take p) (l.length / p) i (by rw [tl, hm]; exact hi)
      rw [← he] at this
      exact this
    have g2 : ∀ i, lp l i = lp (l.take p) i := fun i => by
      unfold lp
      have hl : 0 < l.length := by omega
      have hi := Nat.mod_lt i hl
      have := g _ hi
      unfold lp at this
      rw [this, tl, Nat.mod_mod_of_dvd _ hd]
    intro i
    rw [g2, g2]
    have := lp_add (l := l.take p) i
    rw [tl] at this
    exact this
  · have hm : l.length / p * p = l.length := Nat.div_mul_cancel hd
    refine ext_gd (by rw [cyc_len, tl, hm]) fun i hi => ?_
    rw [cyc_get _ _ _ (by rw [tl, hm]; exact hi)]
    have := per_mod hp i
    rw [lp_lt hi, lp_lt (Nat.lt_trans (Nat.mod_lt i h0) h1)] at this
    rw [← this]
    unfold lp
    rw [tl, List.getD_eq_getElem?_getD, List.getD_eq_getElem?_getD, List.getElem?_take_of_lt (Nat.mod_lt i h0)]
theorem lp_take {l : List Int} {p : Nat} (h0 : 0 < p) (h1 : p < l.length) (hp : ∀ i, lp l (i + p) = lp l i) (i : Nat) : lp (l.take p) i = lp l i := by
  have tl := take_len (Nat.le_of_lt h1)
  have hm := Nat.mod_lt i h0
  rw [← per_mod hp i, lp_lt (Nat.lt_trans hm h1)]
  unfold lp
  rw [tl, List.getD_eq_getElem?_getD, List.getD_eq_getElem?_getD, List.getElem?_take_of_lt hm]
/-- what the search has behind it -/
theorem slFrom_spec {l : List Int} (hn : l ≠ []) : ∀ (c p : Nat), 0 < p → c + p = l.length → (∀ q, 0 < q → q < p → q ∣ l.length → ¬ ∀ i, lp l (i + q) = lp l i) →
    slFrom l c p ≠ [] ∧ prim (slFrom l c p) ∧ (∀ i, lp (slFrom l c p) i = lp l i) ∧ (slFrom l c p).length ≤ l.length ∧ ∀ v ∈ slFrom l c p, v ∈ l
  | 0, p, h0, hc, hb => by
    refine ⟨hn, fun q q0 q1 => hb q q0 ?_, fun _ => rfl, Nat.le_refl _, fun v h => h⟩
    have : slFrom l 0 p = l := rfl
    rw [this] at q1
    omega
  | c + 1, p, h0, hc, hb => by
    unfold slFrom
    have h1 : p < l.length := by omega
    by_cases hr : isRep l p = true
    · rw [if_pos hr]
      obtain ⟨hd, hp⟩ := (isRep_iff h0 h1).mp hr
      have tl := take_len (Nat.le_of_lt h1)
      refine ⟨fun z => ?_, fun q q0 q1 qd hq => ?_, lp_take h0 h1 hp, by omega, fun v hv => List.mem_of_mem_take hv⟩
      · rw [z] at tl
        simp at tl
        omega
      · rw [tl] at q1 qd
        refine hb q q0 q1 (Nat.dvd_trans qd hd) fun i => ?_
        have := hq i
        rwa [lp_take h0 h1 hp, lp_take h0 h1 hp] at this
    · rw [if_neg hr]
      refine slFrom_spec hn c (p + 1) (by omega) (by omega) fun q q0 q1 qd hq => ?_
      rcases Nat.lt_or_ge q p with z | z
      · exact hb q q0 z qd hq
      · have : q = p := by omega
        subst this
        exact hr ((isRep_iff h0 h1).mpr ⟨qd, hq⟩)
theorem sloop_spec {l : List Int} (hn : l ≠ []) : sloop l ≠ [] ∧ prim (sloop l) ∧ (∀ i, lp (sloop l) i = lp l i) ∧ (sloop l).length ≤ l.length ∧ ∀ v ∈ sloop l, v ∈ l := by
  have hl : 0 < l.length := List.length_pos_iff.mpr hn
  exact slFrom_spec hn _ _ (by decide) (by omega) fun q q0 q1 => by omega
def rotR (l : List Int) : List Int := last0 l :: l.dropLast
def nfGo : Nat → List Int → List Int → Stm
  | 0, f, l => (f, l)
  | c + 1, f, l => if f ≠ [] ∧ last0 f = last0 l then nfGo c f.dropLast (rotR l) else (f, l)
def nf (s : Stm) : Stm := nfGo s.1.length s.1 (sloop s.2)
theorem rot_len {l : List Int} (hn : l ≠ []) : (rotR l).length = l.length := by
  have hl : 0 < l.length := List.length_pos_iff.mpr hn
  unfold rotR
  rw [List.length_cons, List.length_dropLast]
  omega
theorem last_mem {l : List Int} (hn : l ≠ []) : last0 l ∈ l := by
  have hl : 0 < l.length := List.length_pos_iff.mpr hn
  unfold last0
  rw [gd_eq (by omega)]
  exact List.getElem_mem _
theorem mem_dl {l : List Int} {v : Int} (h : v ∈ l.dropLast) : v ∈ l := by
  rw [List.dropLast_eq_take] at h
  exact List.mem_of_mem_take h
theorem rot_mem {l : List Int} (hn : l ≠ []) {v : Int} (h : v ∈ rotR l) : v ∈ l := by
  rcases List.mem_cons.mp h with rfl | h
  · exact last_mem hn
  · exact mem_dl h
theorem gd_dropLast {l : List Int} {i : Nat} (h : i < l.length - 1) : l.dropLast.getD i 0 = l.getD i 0 := by
  rw [gd_eq (by rw [List.length_dropLast]; exact h), gd_eq (by omega), List.getElem_dropLast]
theorem rot_lp {l : List Int} (hn : l ≠ []) (i : Nat) : lp (rotR l) (i + 1) = lp l i := by
  have hl : 0 < l.length := List.length_pos_iff.mpr hn
  have hr := rot_len hn
  have hm := Nat.mod_lt i hl
  have k : ∀ j, j < l.length → lp (rotR l) (j + 1) = lp l j := fun j hj => by
    by_cases z : j + 1 < l.length
    · rw [lp_lt (by omega), lp_lt hj]
      show (last0 l :: l.dropLast).getD (j + 1) 0 = _
      rw [List.getD_cons_succ, gd_dropLast (by omega)]
    · have e : j = l.length - 1 := by omega
      subst e
      have : lp (rotR l) (l.length - 1 + 1) = lp (rotR l) 0 := by
        have := lp_add (l := rotR l) 0
        rw [hr] at this
        rw [show l.length - 1 + 1 = 0 + l.length by omega]
        exact this
      rw [this, lp_lt (by omega), lp_lt hj]
      rfl
  have e1 : lp l i = lp l (i % l.length) := (per_mod (fun i => lp_add (l := l) i) i).symm
  rw [e1, ← k _ hm]
  have := per_mul (h := fun j => lp (rotR l) (j + 1)) (p := l.length) (fun j => by
    have := lp_add (l := rotR l) (j + 1)
    rw [hr] at this
    show lp (rotR l) (j + l.length + 1) = _
    rw [show j + l.length + 1 = j + 1 + l.length by omega]
    exact this) (i / l.length) (i % l.length)
  rw [Nat.mod_add_div] at this
  exact this
theorem rot_prim {l : List Int} (hn : l ≠ []) (hp : prim l) : prim (rotR l) := fun q q0 q1 qd hq => by
  rw [rot_len hn] at q1 qd
  refine hp q q0 q1 qd fun i => ?_
  have := hq (i + 1)
  rw [show i + 1 + q = i + q + 1 by omega, rot_lp hn, rot_lp hn] at this
  exact this
theorem step_item {f l : List Int} (hf : f ≠ []) (hn : l ≠ []) (he : last0 f = last0 l) (i : Nat) : item (f.dropLast, rotR l) i = item (f, l) i := by
  have hl : 0 < f.length := List.length_pos_iff.mpr hf
  have h2 : 0 < l.length := List.length_pos_iff.mpr hn
  have hd : f.dropLast.length = f.length - 1 := List.length_dropLast
  by_cases h : i < f.length - 1
  · rw [item_lt (by show i < f.dropLast.length; omega), item_lt (by show i < f.length; omega)]
    exact gd_dropLast h
  · rw [item_ge (by show f.dropLast.length ≤ i; omega)]
    show lp (rotR l) (i - f.dropLast.length) = _
    rw [hd]
    by_cases z : i = f.length - 1
    · subst z
      rw [Nat.sub_self, item_lt (by show f.length - 1 < f.length; omega), lp_lt (by rw [rot_len hn]; exact h2)]
      exact he.symm
    · rw [item_ge (by show f.length ≤ i; omega), show i - (f.length - 1) = (i - f.length) + 1 by omega, rot_lp hn]
theorem nfGo_spec : ∀ (c : Nat) (f l : List Int), f.length ≤ c → l ≠ [] → prim l → NF (nfGo c f l) ∧ (∀ i, item (nfGo c f l) i = item (f, l) i) ∧ (nfGo c f l).1.length ≤ f.length ∧ (nfGo c f l).2.length = l.length ∧ (∀ v ∈ (nfGo c f l).1, v ∈ f) ∧ ∀ v ∈ (nfGo c f l).2, v ∈ l
  | 0, f, l, hc, hn, hp => by
    have e : f = [] := List.length_eq_zero_iff.mp (Nat.le_zero.mp hc)
    subst e
    exact ⟨⟨hn, hp, .inl rfl⟩, fun _ => rfl, Nat.le_refl _, rfl, fun _ h => h, fun _ h => h⟩
  | c + 1, f, l, hc, hn, hp => by
    unfold nfGo
    by_cases h : f ≠ [] ∧ last0 f = last0 l
    · rw [if_pos h]
      have hl : 0 < f.length := List.length_pos_iff.mpr h.1
      have hr : rotR l ≠ [] := fun z => by
        unfold rotR at z
        cases z
      obtain ⟨h1, h2, h3, h4, h5, h6⟩ := nfGo_spec c f.dropLast (rotR l) (by rw [List.length_dropLast]; omega) hr (rot_prim hn hp)
      exact ⟨h1, fun i => (h2 i).trans (step_item h.1 hn h.2 i), by rw [List.length_dropLast] at h3; omega, h4.trans (rot_len hn), fun v hv => mem_dl (h5 v hv), fun v hv => rot_mem hn (h6 v hv)⟩
    · rw [if_neg h]
      refine ⟨⟨hn, hp, ?_⟩, fun _ => rfl, Nat.le_refl _, rfl, fun _ h => h, fun _ h => h⟩
      by_cases z : f = []
      · exact .inl z
      · exact .inr fun e => h ⟨z, e⟩
structure NfS (s t : Stm) : Prop where
  nf : NF t
  it : ∀ i, item t i = item s i
  l1 : t.1.length ≤ s.1.length
  l2 : t.2.length ≤ s.2.length
  m1 : ∀ v ∈ t.1, v ∈ s.1
  m2 : ∀ v ∈ t.2, v ∈ s.2
theorem nf_spec {s : Stm} (hn : s.2 ≠ []) : NfS s (nf s) := by
  obtain ⟨a1, a2, a3, a4, a5⟩ := sloop_spec hn
  obtain ⟨h1, h2, h3, h4, h5, h6⟩ := nfGo_spec s.1.length s.1 (sloop s.2) (Nat.le_refl _) a1 a2
  refine ⟨h1, fun i => (h2 i).trans ?_, h3, h4 ▸ a4, h5, fun v hv => a5 v (h6 v hv)⟩
  unfold item
  by_cases z : i < s.1.length
  · rw [if_pos z, if_pos z]
  · rw [if_neg z, if_neg z]
    exact a3 _
theorem nf_eq {s t : Stm} (hs : s.2 ≠ []) (ht : t.2 ≠ []) (h : ∀ i, item s i = item t i) : nf s = nf t :=
  uniq (nf_spec hs).nf (nf_spec ht).nf fun i => by rw [(nf_spec hs).it, (nf_spec ht).it, h]
theorem nf_of {s t : Stm} (hs : s.2 ≠ []) (ht : NF t) (h : ∀ i, item s i = item t i) : nf s = t :=
  uniq (nf_spec hs).nf ht fun i => by rw [(nf_spec hs).it, h]
theorem nf_nf {s : Stm} (h : NF s) : nf s = s := nf_of h.ne h fun _ => rfl
end Sm

namespace K09
open PySem L2 Ab
def topS (i : Nat) : Stmt := PySem.Challenge.pw_nestcount_k09_whole_sizes_and_stages.main.body.getD i (.Pass ⟨0, 0, 0, 0⟩)
abbrev c_InvalidSchedule___init__ : Stmt := inClass (topS 3) 0
abbrev n_InvalidSchedule___init__ : List Str := ["self", "part"]
theorem q_InvalidSchedule___init__ : FnScope n_InvalidSchedule___init__ ["self", "part"] (defScope c_InvalidSchedule___init__) := ⟨rfl, rfl, rfl, by decide +kernel, rfl, by decide +kernel, by decide +kernel⟩
abbrev c_InvalidNumber___init__ : Stmt := inClass (topS 4) 0
abbrev n_InvalidNumber___init__ : List Str := ["self", "number"]
theorem q_InvalidNumber___init__ : FnScope n_InvalidNumber___init__ ["self", "number"] (defScope c_InvalidNumber___init__) := ⟨rfl, rfl, rfl, by decide +kernel, rfl, by decide +kernel, by decide +kernel⟩
abbrev c_InvalidNode___init__ : Stmt := inClass (topS 5) 0
abbrev n_InvalidNode___init__ : List Str := ["self", "part"]
theorem q_InvalidNode___init__ : FnScope n_InvalidNode___init__ ["self", "part"] (defScope c_InvalidNode___init__) := ⟨rfl, rfl, rfl, by decide +kernel, rfl, by decide +kernel, by decide +kernel⟩
abbrev c_TooLarge___init__ : Stmt := inClass (topS 7) 0
abbrev n_TooLarge___init__ : List Str := ["self", "limit"]
theorem q_TooLarge___init__ : FnScope n_TooLarge___init__ ["self", "limit"] (defScope c_TooLarge___init__) := ⟨rfl, rfl, rfl, by decide +kernel, rfl, by decide +kernel, by decide +kernel⟩
abbrev s_is_integer : Stmt := topS 13
abbrev n_is_integer : List Str := ["value", "low", "high"]
theorem q_is_integer : FnScope n_is_integer ["value", "low", "high"] (defScope s_is_integer) := ⟨rfl, rfl, rfl, by decide +kernel, rfl, by decide +kernel, by decide +kernel⟩
abbrev s_check_integer : Stmt := topS 15
abbrev n_check_integer : List Str := ["value", "low", "high"]
theorem q_check_integer : FnScope n_check_integer ["value", "low", "high"] (defScope s_check_integer) := ⟨rfl, rfl, rfl, by decide +kernel, rfl, by decide +kernel, by decide +kernel⟩
abbrev s_are_items : Stmt := topS 16
abbrev n_are_items : List Str := ["value", "least_size", "most_size", "item"]
theorem q_are_items : FnScope n_are_items ["value", "least_size", "most_size"] (defScope s_are_items) := ⟨rfl, rfl, rfl, by decide +kernel, rfl, by decide +kernel, by decide +kernel⟩
abbrev s_shortest_loop : Stmt := topS 17
abbrev n_shortest_loop : List Str := ["loop", "size"]
theorem q_shortest_loop : FnScope n_shortest_loop ["loop"] (defScope s_shortest_loop) := ⟨rfl, rfl, rfl, by decide +kernel, rfl, by decide +kernel, by decide +kernel⟩
abbrev s_normal_form : Stmt := topS 18
abbrev n_normal_form : List Str := ["front", "loop"]
theorem q_normal_form : FnScope n_normal_form ["front", "loop"] (defScope s_normal_form) := ⟨rfl, rfl, rfl, by decide +kernel, rfl, by decide +kernel, by decide +kernel⟩
abbrev s_stream_item : Stmt := topS 19
abbrev n_stream_item : List Str := ["stream", "index", "front", "loop"]
theorem q_stream_item : FnScope n_stream_item ["stream", "index"] (defScope s_stream_item) := ⟨rfl, rfl, rfl, by decide +kernel, rfl, by decide +kernel, by decide +kernel⟩
abbrev s_common_multiple : Stmt := topS 20
abbrev n_common_multiple : List Str := ["numbers", "found", "number", "step"]
theorem q_common_multiple : FnScope n_common_multiple ["numbers"] (defScope s_common_multiple) := ⟨rfl, rfl, rfl, by decide +kernel, rfl, by decide +kernel, by decide +kernel⟩
abbrev s_combined_streams : Stmt := topS 21
abbrev n_combined_streams : List Str := ["streams", "word", "size", "front", "loop", "period", "items", "index", "column", "stream"]
theorem q_combined_streams : FnScope n_combined_streams ["streams", "word"] (defScope s_combined_streams) := ⟨rfl, rfl, rfl, by decide +kernel, rfl, by decide +kernel, by decide +kernel⟩
abbrev s_checked_stream : Stmt := topS 22
abbrev n_checked_stream : List Str := ["stream", "front", "loop"]
theorem q_checked_stream : FnScope n_checked_stream ["stream"] (defScope s_checked_stream) := ⟨rfl, rfl, rfl, by decide +kernel, rfl, by decide +kernel, by decide +kernel⟩
abbrev s_made_schedule : Stmt := topS 23
abbrev n_made_schedule : List Str := ["arity", "spine", "levels"]
theorem q_made_schedule : FnScope n_made_schedule ["arity", "spine", "levels"] (defScope s_made_schedule) := ⟨rfl, rfl, rfl, by decide +kernel, rfl, by decide +kernel, by decide +kernel⟩
abbrev s_text_of_stream : Stmt := topS 24
abbrev n_text_of_stream : List Str := ["stream", "words", "item"]
theorem q_text_of_stream : FnScope n_text_of_stream ["stream"] (defScope s_text_of_stream) := ⟨rfl, rfl, rfl, by decide +kernel, rfl, by decide +kernel, by decide +kernel⟩
abbrev c_Schedule___init__ : Stmt := inClass (topS 25) 4
abbrev n_Schedule___init__ : List Str := ["self", "arity", "spine", "levels"]
theorem q_Schedule___init__ : FnScope n_Schedule___init__ ["self", "arity", "spine", "levels"] (defScope c_Schedule___init__) := ⟨rfl, rfl, rfl, by decide +kernel, rfl, by decide +kernel, by decide +kernel⟩
abbrev c_Schedule_is_stream : Stmt := inClass (topS 25) 5
abbrev n_Schedule_is_stream : List Str := ["value"]
theorem q_Schedule_is_stream : FnScope n_Schedule_is_stream ["value"] (defScope c_Schedule_is_stream) := ⟨rfl, rfl, rfl, by decide +kernel, rfl, by decide +kernel, by decide +kernel⟩
abbrev c_Schedule_arity : Stmt := inClass (topS 25) 8
abbrev n_Schedule_arity : List Str := ["self"]
theorem q_Schedule_arity : FnScope n_Schedule_arity ["self"] (defScope c_Schedule_arity) := ⟨rfl, rfl, rfl, by decide +kernel, rfl, by decide +kernel, by decide +kernel⟩
abbrev c_Schedule_spine : Stmt := inClass (topS 25) 9
abbrev n_Schedule_spine : List Str := ["self"]
theorem q_Schedule_spine : FnScope n_Schedule_spine ["self"] (defScope c_Schedule_spine) := ⟨rfl, rfl, rfl, by decide +kernel, rfl, by decide +kernel, by decide +kernel⟩
abbrev c_Schedule_levels : Stmt := inClass (topS 25) 10
abbrev n_Schedule_levels : List Str := ["self"]
theorem q_Schedule_levels : FnScope n_Schedule_levels ["self"] (defScope c_Schedule_levels) := ⟨rfl, rfl, rfl, by decide +kernel, rfl, by decide +kernel, by decide +kernel⟩
abbrev c_Schedule_spine_at : Stmt := inClass (topS 25) 12
abbrev n_Schedule_spine_at : List Str := ["self", "index"]
theorem q_Schedule_spine_at : FnScope n_Schedule_spine_at ["self", "index"] (defScope c_Schedule_spine_at) := ⟨rfl, rfl, rfl, by decide +kernel, rfl, by decide +kernel, by decide +kernel⟩
abbrev c_Schedule_level_at : Stmt := inClass (topS 25) 13
abbrev n_Schedule_level_at : List Str := ["self", "height"]
theorem q_Schedule_level_at : FnScope n_Schedule_level_at ["self", "height"] (defScope c_Schedule_level_at) := ⟨rfl, rfl, rfl, by decide +kernel, rfl, by decide +kernel, by decide +kernel⟩
abbrev c_Schedule_times : Stmt := inClass (topS 25) 19
abbrev n_Schedule_times : List Str := ["self", "factor", "streams", "front", "loop", "item"]
theorem q_Schedule_times : FnScope n_Schedule_times ["self", "factor"] (defScope c_Schedule_times) := ⟨rfl, rfl, rfl, by decide +kernel, rfl, by decide +kernel, by decide +kernel⟩
abbrev c_Schedule___eq__ : Stmt := inClass (topS 25) 22
abbrev n_Schedule___eq__ : List Str := ["self", "other"]
theorem q_Schedule___eq__ : FnScope n_Schedule___eq__ ["self", "other"] (defScope c_Schedule___eq__) := ⟨rfl, rfl, rfl, by decide +kernel, rfl, by decide +kernel, by decide +kernel⟩
abbrev c_Schedule___str__ : Stmt := inClass (topS 25) 23
abbrev n_Schedule___str__ : List Str := ["self"]
theorem q_Schedule___str__ : FnScope n_Schedule___str__ ["self"] (defScope c_Schedule___str__) := ⟨rfl, rfl, rfl, by decide +kernel, rfl, by decide +kernel, by decide +kernel⟩
abbrev s_combined_schedules : Stmt := topS 26
abbrev n_combined_schedules : List Str := ["schedules", "word", "index", "schedule", "spine", "levels"]
theorem q_combined_schedules : FnScope n_combined_schedules ["schedules", "word"] (defScope s_combined_schedules) := ⟨rfl, rfl, rfl, by decide +kernel, rfl, by decide +kernel, by decide +kernel⟩
abbrev s_total : Stmt := topS 27
abbrev n_total : List Str := ["schedules"]
theorem q_total : FnScope n_total ["schedules"] (defScope s_total) := ⟨rfl, rfl, rfl, by decide +kernel, rfl, by decide +kernel, by decide +kernel⟩
abbrev s_is_integer_nodes : Stmt := topS 29
abbrev n_is_integer_nodes : List Str := ["value", "least"]
theorem q_is_integer_nodes : FnScope n_is_integer_nodes ["value", "least"] (defScope s_is_integer_nodes) := ⟨rfl, rfl, rfl, by decide +kernel, rfl, by decide +kernel, by decide +kernel⟩
abbrev s_need_schedule : Stmt := topS 31
abbrev n_need_schedule : List Str := ["value"]
theorem q_need_schedule : FnScope n_need_schedule ["value"] (defScope s_need_schedule) := ⟨rfl, rfl, rfl, by decide +kernel, rfl, by decide +kernel, by decide +kernel⟩
abbrev s_sizes_up_to : Stmt := topS 32
abbrev n_sizes_up_to : List Str := ["schedule", "height", "found", "at"]
theorem q_sizes_up_to : FnScope n_sizes_up_to ["schedule", "height"] (defScope s_sizes_up_to) := ⟨rfl, rfl, rfl, by decide +kernel, rfl, by decide +kernel, by decide +kernel⟩
abbrev s_end_of_stage : Stmt := topS 33
abbrev n_end_of_stage : List Str := ["schedule", "sizes", "stage", "found", "at"]
theorem q_end_of_stage : FnScope n_end_of_stage ["schedule", "sizes", "stage"] (defScope s_end_of_stage) := ⟨rfl, rfl, rfl, by decide +kernel, rfl, by decide +kernel, by decide +kernel⟩
abbrev s_path_inside : Stmt := topS 34
abbrev n_path_inside : List Str := ["schedule", "sizes", "stage", "before", "at", "steps", "rest"]
theorem q_path_inside : FnScope n_path_inside ["schedule", "sizes", "stage", "before"] (defScope s_path_inside) := ⟨rfl, rfl, rfl, by decide +kernel, rfl, by decide +kernel, by decide +kernel⟩
abbrev s_path_of : Stmt := topS 35
abbrev n_path_of : List Str := ["schedule", "label", "end", "sizes", "stage", "begin"]
theorem q_path_of : FnScope n_path_of ["schedule", "label"] (defScope s_path_of) := ⟨rfl, rfl, rfl, by decide +kernel, rfl, by decide +kernel, by decide +kernel⟩
abbrev c_Node___init__ : Stmt := inClass (topS 36) 1
abbrev n_Node___init__ : List Str := ["self", "schedule", "height", "index"]
theorem q_Node___init__ : FnScope n_Node___init__ ["self", "schedule", "height", "index"] (defScope c_Node___init__) := ⟨rfl, rfl, rfl, by decide +kernel, rfl, by decide +kernel, by decide +kernel⟩
abbrev c_Node___eq__ : Stmt := inClass (topS 36) 2
abbrev n_Node___eq__ : List Str := ["self", "other"]
theorem q_Node___eq__ : FnScope n_Node___eq__ ["self", "other"] (defScope c_Node___eq__) := ⟨rfl, rfl, rfl, by decide +kernel, rfl, by decide +kernel, by decide +kernel⟩
abbrev c_Node_schedule : Stmt := inClass (topS 36) 3
abbrev n_Node_schedule : List Str := ["self"]
theorem q_Node_schedule : FnScope n_Node_schedule ["self"] (defScope c_Node_schedule) := ⟨rfl, rfl, rfl, by decide +kernel, rfl, by decide +kernel, by decide +kernel⟩
abbrev c_Node_height : Stmt := inClass (topS 36) 4
abbrev n_Node_height : List Str := ["self"]
theorem q_Node_height : FnScope n_Node_height ["self"] (defScope c_Node_height) := ⟨rfl, rfl, rfl, by decide +kernel, rfl, by decide +kernel, by decide +kernel⟩
abbrev c_Node_at : Stmt := inClass (topS 36) 9
abbrev n_Node_at : List Str := ["cls", "schedule", "label", "stage", "steps", "rest"]
theorem q_Node_at : FnScope n_Node_at ["cls", "schedule", "label"] (defScope c_Node_at) := ⟨rfl, rfl, rfl, by decide +kernel, rfl, by decide +kernel, by decide +kernel⟩
abbrev c_Node_led : Stmt := inClass (topS 36) 10
abbrev n_Node_led : List Str := ["schedule", "stage", "steps", "index", "step"]
theorem q_Node_led : FnScope n_Node_led ["schedule", "stage", "steps"] (defScope c_Node_led) := ⟨rfl, rfl, rfl, by decide +kernel, rfl, by decide +kernel, by decide +kernel⟩
abbrev c_Node_named : Stmt := inClass (topS 36) 11
abbrev n_Node_named : List Str := ["schedule", "height", "index"]
theorem q_Node_named : FnScope n_Node_named ["schedule", "height", "index"] (defScope c_Node_named) := ⟨rfl, rfl, rfl, by decide +kernel, rfl, by decide +kernel, by decide +kernel⟩
abbrev c_Node_child : Stmt := inClass (topS 36) 13
abbrev n_Node_child : List Str := ["self", "number"]
theorem q_Node_child : FnScope n_Node_child ["self", "number"] (defScope c_Node_child) := ⟨rfl, rfl, rfl, by decide +kernel, rfl, by decide +kernel, by decide +kernel⟩
abbrev c_Node_children : Stmt := inClass (topS 36) 14
abbrev n_Node_children : List Str := ["self", "many", "number"]
theorem q_Node_children : FnScope n_Node_children ["self"] (defScope c_Node_children) := ⟨rfl, rfl, rfl, by decide +kernel, rfl, by decide +kernel, by decide +kernel⟩
abbrev c_SpineNode___init__ : Stmt := inClass (topS 37) 0
abbrev n_SpineNode___init__ : List Str := ["self", "schedule", "height", "__class__"]
theorem q_SpineNode___init__ : NdefX.NScope n_SpineNode___init__ ["self", "schedule", "height"] ["__class__"] (defScope c_SpineNode___init__) := NdefX.nscope_by (by decide +kernel)
abbrev c_SpineNode___repr__ : Stmt := inClass (topS 37) 1
abbrev n_SpineNode___repr__ : List Str := ["self"]
theorem q_SpineNode___repr__ : FnScope n_SpineNode___repr__ ["self"] (defScope c_SpineNode___repr__) := ⟨rfl, rfl, rfl, by decide +kernel, rfl, by decide +kernel, by decide +kernel⟩
abbrev c_BranchNode___init__ : Stmt := inClass (topS 38) 0
abbrev n_BranchNode___init__ : List Str := ["self", "schedule", "height", "index", "__class__"]
theorem q_BranchNode___init__ : NdefX.NScope n_BranchNode___init__ ["self", "schedule", "height", "index"] ["__class__"] (defScope c_BranchNode___init__) := NdefX.nscope_by (by decide +kernel)
abbrev c_BranchNode___repr__ : Stmt := inClass (topS 38) 1
abbrev n_BranchNode___repr__ : List Str := ["self"]
theorem q_BranchNode___repr__ : FnScope n_BranchNode___repr__ ["self"] (defScope c_BranchNode___repr__) := ⟨rfl, rfl, rfl, by decide +kernel, rfl, by decide +kernel, by decide +kernel⟩
abbrev s_need_height : Stmt := topS 40
abbrev n_need_height : List Str := ["height"]
theorem q_need_height : FnScope n_need_height ["height"] (defScope s_need_height) := ⟨rfl, rfl, rfl, by decide +kernel, rfl, by decide +kernel, by decide +kernel⟩
abbrev s_branch_size : Stmt := topS 41
abbrev n_branch_size : List Str := ["schedule", "height"]
theorem q_branch_size : FnScope n_branch_size ["schedule", "height"] (defScope s_branch_size) := ⟨rfl, rfl, rfl, by decide +kernel, rfl, by decide +kernel, by decide +kernel⟩
abbrev s_stage_end : Stmt := topS 42
abbrev n_stage_end : List Str := ["schedule", "stage"]
theorem q_stage_end : FnScope n_stage_end ["schedule", "stage"] (defScope s_stage_end) := ⟨rfl, rfl, rfl, by decide +kernel, rfl, by decide +kernel, by decide +kernel⟩
abbrev s__law_streams : Stmt := topS 44
abbrev n__law_streams : List Str := ["_law_script", "_law_cells", "_law_found", "_law_k", "_law_cell"]
theorem q__law_streams : FnScope n__law_streams ["_law_script"] (defScope s__law_streams) := ⟨rfl, rfl, rfl, by decide +kernel, rfl, by decide +kernel, by decide +kernel⟩
abbrev s__law_next : Stmt := topS 45
abbrev n__law_next : List Str := ["_law_stream", "_law_many", "_law_found", "_law_at", "_law_cells"]
theorem q__law_next : FnScope n__law_next ["_law_stream", "_law_many"] (defScope s__law_next) := ⟨rfl, rfl, rfl, by decide +kernel, rfl, by decide +kernel, by decide +kernel⟩
abbrev s__law_row : Stmt := topS 46
abbrev n__law_row : List Str := ["_law_stream", "_law_low", "_law_width", "_law_front", "_law_k", "_law_loop"]
theorem q__law_row : FnScope n__law_row ["_law_stream", "_law_low"] (defScope s__law_row) := ⟨rfl, rfl, rfl, by decide +kernel, rfl, by decide +kernel, by decide +kernel⟩
abbrev s__law_item : Stmt := topS 47
abbrev n__law_item : List Str := ["_law_row_here", "_law_k", "_law_front", "_law_loop"]
theorem q__law_item : FnScope n__law_item ["_law_row_here", "_law_k"] (defScope s__law_item) := ⟨rfl, rfl, rfl, by decide +kernel, rfl, by decide +kernel, by decide +kernel⟩
abbrev s__law_plan : Stmt := topS 48
abbrev n__law_plan : List Str := ["_law_stream", "_law_most", "_law_k", "_law_trunk", "_law_crown"]
theorem q__law_plan : FnScope n__law_plan ["_law_stream", "_law_most"] (defScope s__law_plan) := ⟨rfl, rfl, rfl, by decide +kernel, rfl, by decide +kernel, by decide +kernel⟩
abbrev s__law_branch : Stmt := topS 49
abbrev n__law_branch : List Str := ["_law_k", "_law_crown", "_law_high", "_law_m", "_law_found", "_law_c"]
theorem q__law_branch : FnScope n__law_branch ["_law_k", "_law_crown", "_law_high", "_law_m"] (defScope s__law_branch) := ⟨rfl, rfl, rfl, by decide +kernel, rfl, by decide +kernel, by decide +kernel⟩
abbrev s__law_sizes : Stmt := topS 50
abbrev n__law_sizes : List Str := ["_law_k", "_law_crown", "_law_high", "_law_found", "_law_at"]
theorem q__law_sizes : FnScope n__law_sizes ["_law_k", "_law_crown", "_law_high"] (defScope s__law_sizes) := ⟨rfl, rfl, rfl, by decide +kernel, rfl, by decide +kernel, by decide +kernel⟩
abbrev s__law_ends : Stmt := topS 51
abbrev n__law_ends : List Str := ["_law_k", "_law_trunk", "_law_sizes_here", "_law_found", "_law_at", "_law_size"]
theorem q__law_ends : FnScope n__law_ends ["_law_k", "_law_trunk", "_law_sizes_here"] (defScope s__law_ends) := ⟨rfl, rfl, rfl, by decide +kernel, rfl, by decide +kernel, by decide +kernel⟩
abbrev s__law_far_right : Stmt := topS 52
abbrev n__law_far_right : List Str := ["_law_plan_here", "_law_sizes_here", "_law_ends_here", "_law_high", "_law_told"]
theorem q__law_far_right : FnScope n__law_far_right ["_law_plan_here", "_law_sizes_here", "_law_ends_here", "_law_high"] (defScope s__law_far_right) := ⟨rfl, rfl, rfl, by decide +kernel, rfl, by decide +kernel, by decide +kernel⟩
abbrev s__law_low_right : Stmt := topS 53
abbrev n__law_low_right : List Str := ["_law_k", "_law_crown", "_law_plan_here", "_law_high", "_law_own", "_law_m", "_law_many"]
theorem q__law_low_right : FnScope n__law_low_right ["_law_k", "_law_crown", "_law_plan_here"] (defScope s__law_low_right) := ⟨rfl, rfl, rfl, by decide +kernel, rfl, by decide +kernel, by decide +kernel⟩
abbrev s__law_sum_right : Stmt := topS 54
abbrev n__law_sum_right : List Str := ["_law_plan_here", "_law_other_plan", "_law_factor", "_law_high", "_law_whole", "_law_great"]
theorem q__law_sum_right : FnScope n__law_sum_right ["_law_plan_here", "_law_other_plan", "_law_factor", "_law_high"] (defScope s__law_sum_right) := ⟨rfl, rfl, rfl, by decide +kernel, rfl, by decide +kernel, by decide +kernel⟩
abbrev s_law : Stmt := topS 55
abbrev n_law : List Str := ["_law_script", "_law_stream", "_law_k", "_law_trunk", "_law_crown", "_law_plan_here", "_law_high", "_law_sizes_here", "_law_ends_here", "_law_at", "_law_other_plan"]
theorem q_law : FnScope n_law ["_law_script"] (defScope s_law) := ⟨rfl, rfl, rfl, by decide +kernel, rfl, by decide +kernel, by decide +kernel⟩
end K09

namespace Ab
open PySem L2
/-! ### short words -/
section
variable {X : Cx} {Γ : Gam} {M : Mem} {pos : Pos} {x : Str} {d : Val} {i : Int} {j}
theorem v_ (n : Nat) (hd : Γ[n]? = some (some d) := by rfl) (hN : X.N[n]? = some x := by rfl) (hv : Vis X.env.scope x := by first | exact Or.inl rfl | exact Or.inr (Or.inl rfl) | exact Or.inr (Or.inr rfl))
    (hdb : (x == ("__debug__" : Str)) = false := by decide) (hcd : (x == ("__classdict__" : Str)) = false := by decide) : aV X (.Name x pos) Γ M d := ae_var n hd ⟨rfl, rfl⟩ hN hv hdb hcd
theorem i_ : aV X (.Constant (.int i) j pos) Γ M (.int i) := ae_int ⟨rfl, rfl⟩
theorem s_ : aV X (.Constant (.str x) j pos) Γ M (.str x) := ae_str ⟨rfl, rfl⟩
theorem n_ : aV X (.Constant .none j pos) Γ M .non := ae_non ⟨rfl, rfl⟩
theorem nft {p : Prop} : false = true → p := fun h => nomatch h
theorem ntf {p : Prop} : true = false → p := fun h => nomatch h
theorem sz {n : Nat} (h : n ≤ 100000) : n ≤ sizeLine := Nat.le_trans h (by decide)
theorem szl {n : Nat} (h : n < 100000) : n < sizeLine := Nat.lt_of_lt_of_le h (by decide)
theorem szb {n : Nat} (h : Nat.ble n 100000 = true := by rfl) : n ≤ sizeLine := sz (Nat.le_of_ble_eq_true h)
end
def optV : Option Int → Val
  | none => .non
  | some l => .int l
def within (n : Int) (lo hi : Option Int) : Bool := (match lo with | none => true | some l => decide (l ≤ n)) && (match hi with | none => true | some h => decide (n ≤ h))
def iT (xs : List Int) : Val := .tup (xs.map .int)
def iL (xs : List Int) : Val := .lst (xs.map .int)
def at0 (g : List Int) (i : Int) : Int := g.getD i.toNat 0
theorem atI_int {g : List Int} {i : Int} (h0 : 0 ≤ i) (h1 : i < g.length) : atI (g.map Val.int) i = some (.int (at0 g i)) := by
  obtain ⟨n, rfl⟩ := Int.eq_ofNat_of_zero_le h0
  refine atI_nat ?_
  have hn : n < g.length := by omega
  rw [List.getElem?_map, List.getElem?_eq_getElem hn]
  show some (Val.int g[n]) = some (Val.int (at0 g n))
  unfold at0
  rw [Int.toNat_natCast, List.getD_eq_getElem?_getD, List.getElem?_eq_getElem hn]
  rfl
/-- the last one -/
theorem atI_last {g : List Int} (h : g ≠ []) : atI (g.map Val.int) (-1) = some (.int (g.getD (g.length - 1) 0)) := by
  have hl : 0 < g.length := List.length_pos_iff.mpr h
  unfold atI ixN
  rw [List.length_map, if_neg (by decide), if_pos (by omega), Option.bind_some, show ((-1 : Int) + (g.length : Int)).toNat = g.length - 1 by omega, List.getElem?_map, List.getElem?_eq_getElem (by omega), List.getD_eq_getElem?_getD, List.getElem?_eq_getElem (by omega)]
  rfl
theorem getD_int {g : List Int} {i : Nat} (h : i < g.length) : (g.map Val.int).getD i .non = .int g[i] := by
  rw [List.getD_eq_getElem?_getD, List.getElem?_map, List.getElem?_eq_getElem h]
  rfl
theorem cut_neg {g : List Int} (h : g ≠ []) : cutI g none (some (-1)) = g.dropLast := by
  have hl : 0 < g.length := List.length_pos_iff.mpr h
  unfold cutI
  have e : HT.sIx g.length g.length (some (-1)) = g.length - 1 := by
    show (if (-1 : Int) < 0 then ((-1 : Int) + (g.length : Int)).toNat else min (-1 : Int).toNat g.length) = _
    rw [if_pos (by decide)]
    omega
  rw [e, HT.sIx_none, List.drop_zero, Nat.sub_zero, List.dropLast_eq_take]
theorem cut_end {g : List Int} (h : g ≠ []) : cutI g (some (-1)) none = [g.getD (g.length - 1) 0] := by
  have hl : 0 < g.length := List.length_pos_iff.mpr h
  unfold cutI
  have e : HT.sIx g.length 0 (some (-1)) = g.length - 1 := by
    show (if (-1 : Int) < 0 then ((-1 : Int) + (g.length : Int)).toNat else min (-1 : Int).toNat g.length) = _
    rw [if_pos (by decide)]
    omega
  rw [e, HT.sIx_none, List.drop_eq_getElem_cons (by omega), show g.length - 1 + 1 = g.length by omega, List.drop_length, show g.length - (g.length - 1) = 1 by omega, List.getD_eq_getElem?_getD, List.getElem?_eq_getElem (by omega)]
  rfl
theorem map_cyc {g : List Int} (m : Nat) : (List.replicate m (g.map Val.int)).flatten = ((List.replicate m g).flatten).map Val.int := by
  induction m with
  | zero => rfl
  | succ m ih => rw [List.replicate_succ, List.replicate_succ, List.flatten_cons, List.flatten_cons, List.map_append, ih]
abbrev FX (P : Program) (w : World) (K : PySem.W.Frag) (mg : Str → Option Value) (base : Heap) (k : Nat) (f : Addr) (s : ASx) : Prop := FnX P w K mg base k f [] (spX K s)
/-- a def that stands under a global name -/
structure Gd (P : Program) (w : World) (K : PySem.W.Frag) (mg : Str → Option Value) (base : Heap) (k : Nat) (x : Str) (ks : List Str) (s : ASx) : Prop where
  ex : ∃ f, FnX P w K mg base k f ks (spX K s) ∧ mg x = some (.ref f) ∧ PySem.W.keepIn K (.ref f) = true
section
variable {X : Cx} {Γ : Gam} {M : Mem} {P : Val → Mem → Prop} {e : Expr} {es : List Expr} {kws : List Keyword} {pos p1 : Pos} {x : Str} {n m : Nat} {ks : List Str} {sx : ASx}
theorem ae_g (G : Gd X.prog X.w X.K X.mg X.base n x ks sx) (hr : Rm m X.A) (hnm : n ≤ m) (h : aA X (e :: es) Γ M fun ds M1 => aKw X kws Γ M1 fun zs M2 => zs.length = ks.length ∧ sx ds zs M2 P)
    (hg : Gl X x := by rfl) (hall : (backToKw pos (keywordEach kws X.env)).all (·.1.isSome) = true := by rfl) (hks : (backToKw pos (keywordEach kws X.env)).filterMap (·.1) = ks := by rfl) (hdb : (x == ("__debug__" : Str)) = false := by decide)
    (he : starEach (e :: es) X.env = (false, eval e X.env) :: starEach es X.env := by rfl) (hpl : ((backTo pos (starEach (e :: es) X.env)).any (·.1) || (backToKw pos (keywordEach kws X.env)).any (·.1.isNone)) = false := by rfl) : aE X (.Call (.Name x p1) (e :: es) kws pos) Γ M P := by
  obtain ⟨f, F, hm, hk⟩ := G.ex
  exact ae_call F (hr.mono hnm) hm hk h hg hall hks hdb he hpl
end
end Ab

namespace K09
open PySem L2 Ab Sm
section
variable {P : Program} {w : World} {K : PySem.W.Frag} {mg : Str → Option Value} {base : Heap} {k : Nat} {f C : Addr}
/-! ### is_integer, check_integer, are_items -/
def aInt : ASp := fun ds M R => ∃ n lo hi, ds = [.int n, optV lo, optV hi] ∧ R (.bl (within n lo hi)) M
theorem b_is_integer (m1 : mg "isinstance" = none) (m2 : mg "int" = none) (m3 : mg "bool" = none) : BodyOk P w K mg base k f n_is_integer "is_integer" (defScope s_is_integer) (defBody s_is_integer) aInt := by
  rintro cdv A outer s H E hr ds M R ⟨n, lo, hi, rfl, hp⟩
  refine as_cons (as_if (at_w (aw_or (at_not (at_val (ae_isi m1 (v_ 0) (av_ty (T := "int") m2 (by decide +kernel)) (.ty "int") (.int _) (kit_ty (by decide +kernel)) ⟨true, rfl, nft, fun _ => ?_⟩))))))
  refine aw_or1 (at_val (ae_isi m1 (v_ 0) (av_ty (T := "bool") m3 (by decide +kernel)) (.ty "bool") (.int _) (kit_ty (by decide +kernel)) ⟨false, rfl, nft, fun _ => ?_⟩))
  refine as_nil (as_one (as_ret ?_))
  cases lo with
  | none =>
    refine ae_and (ae_or (ae_cmp (v_ 1) n_ cmp_isN ⟨true, rfl, fun _ => ⟨true, rfl, fun _ => ?_, ntf⟩, ntf⟩))
    cases hi with
    | none => exact ae_one (ae_or (ae_cmp (v_ 2) n_ cmp_isN ⟨true, rfl, fun _ => .ok hp, ntf⟩))
    | some h => exact ae_one (ae_or (ae_cmp (v_ 2) n_ cmp_isN ⟨false, rfl, nft, fun _ => ae_one (ae_cmp (v_ 0) (v_ 2) cmp_le (.ok (by simpa [within] using hp)))⟩))
  | some l =>
    refine ae_and (ae_or (ae_cmp (v_ 1) n_ cmp_isN ⟨false, rfl, nft, fun _ => ae_one (ae_cmp (v_ 1) (v_ 0) cmp_le ⟨_, rfl, fun e => ?_, fun e => .ok (by simpa [within, e] using hp)⟩)⟩))
    cases hi with
    | none => exact ae_one (ae_or (ae_cmp (v_ 2) n_ cmp_isN ⟨true, rfl, fun _ => .ok (by simpa [within, e] using hp), ntf⟩))
    | some h => exact ae_one (ae_or (ae_cmp (v_ 2) n_ cmp_isN ⟨false, rfl, nft, fun _ => ae_one (ae_cmp (v_ 0) (v_ 2) cmp_le (.ok (by simpa [within, e] using hp)))⟩))
/-- is_integer(x, low=.., high=..) -/
abbrev GInt (P : Program) (w : World) (K : PySem.W.Frag) (mg : Str → Option Value) (base : Heap) : Prop := Gd P w K mg base 1 "is_integer_schedules" ["low", "high"] fun ds es M R => ds.length = 1 ∧ aInt (ds ++ es) M R
def aChk : ASp := fun ds M R => ∃ n lo, ds = [.int n, .int lo, .non] ∧ lo ≤ n ∧ R .non M
theorem b_check_integer (G : GInt P w K mg base) : BodyOk P w K mg base 1 f n_check_integer "check_integer" (defScope s_check_integer) (defBody s_check_integer) aChk := by
  rintro cdv A outer s H E hr ds M R ⟨n, lo, rfl, hle, hp⟩
  refine as_one (as_if (at_not (at_val (ae_g G hr (by decide) (aa_cons ((v_ 0).val (aa_nil (ak_cons ((v_ 1).val (ak_cons ((v_ 2).val (ak_nil ⟨rfl, rfl, n, some lo, none, rfl, true, ?_, nft, fun _ => as_nil (.ok hp)⟩))))))))))))
  have e : within n (some lo) none = true := by simp [within]; exact hle
  rw [e]
abbrev GChk (P : Program) (w : World) (K : PySem.W.Frag) (mg : Str → Option Value) (base : Heap) : Prop := Gd P w K mg base 2 "check_integer" [] fun ds _ M R => ds.length = 2 ∧ aChk (ds ++ [.non]) M R
def okI (v : Int) : Prop := 0 ≤ v ∧ v ≤ 1000000
theorem rep_true {M : Mem} {n : Nat} : Vw M (.lst ((List.range n).map fun _ => Val.bl true)) (.lst ((List.replicate n true).map .bl)) := by
  have e : (List.range n).map (fun _ => Val.bl true) = (List.replicate n true).map .bl := by simp [List.map_const']
  rw [e]
  exact .self _
def aItems : ASp := fun ds M R => ∃ xs a b, ds = [iT xs, .int a, .int b] ∧ a ≤ (xs.length : Int) ∧ (xs.length : Int) ≤ b ∧ b ≤ 1000 ∧ (∀ v ∈ xs, okI v) ∧ R (.bl true) M
theorem b_are_items {t : Tok} (G : GInt P w K mg base) (gl : mg "LABEL_LIMIT" = some (.int 1000000 t)) (m1 : mg "isinstance" = none) (m2 : mg "tuple" = none) (m3 : mg "len" = none) (m4 : mg "all" = none) : BodyOk P w K mg base 1 f n_are_items "are_items" (defScope s_are_items) (defBody s_are_items) aItems := by
  rintro cdv A outer s H E hr ds M R ⟨xs, a, b, rfl, h1, h2, h3, hx, hp⟩
  refine as_cons (as_if (at_w (aw_or (at_not (at_val (ae_isi m1 (v_ 0) (av_ty (T := "tuple") m2 (by decide +kernel)) (.ty "tuple") (.tup _) (kit_ty (by decide +kernel)) ⟨true, rfl, nft, fun _ => ?_⟩))))))
  refine aw_or1 (at_not (at_chain (v_ 1) (av_len m3 (v_ 0) .t) (v_ 2) cmp_le cmp_le ⟨fun h => ?_, fun _ => as_nil ?_⟩))
  · simp at h
    omega
  refine as_one (as_ret (ae_all m4 rfl (ae_lcP [("item", 3)] (fun _ => .bl true) rfl q_are_items.nd (blkOk_by (N := n_are_items) (sc := defScope s_are_items) (by decide +kernel)) (ai_tup ((v_ 0).val ⟨rfl, rfl⟩)) ?_ (by simp; omega) ⟨List.replicate _ true, rep_true, .ok ?_⟩)))
  · intro i acc D hi s H C' cl fp
    have hi' : i < xs.length := by simpa using hi
    rw [getD_int hi']
    refine agw_name 3 q_are_items.nd fun s H C' cl fp => ?_
    refine ae_g G hr (by decide) (aa_cons ((v_ 3).val (aa_nil (ak_cons (i_.val (ak_cons ((av_gint gl).val (ak_nil ⟨rfl, rfl, xs[i], some 0, some 1000000, rfl, ?_, rfl⟩))))))))
    have := hx _ (List.getElem_mem hi')
    have e : within xs[i] (some 0) (some 1000000) = true := by simp [within]; exact this
    rw [e]
  · rw [show (List.replicate (List.map Val.int xs).length true).all id = true by simp]
    exact hp
abbrev GItems (P : Program) (w : World) (K : PySem.W.Frag) (mg : Str → Option Value) (base : Heap) : Prop := Gd P w K mg base 2 "are_items" [] fun ds _ => aItems ds
/-! ### shortest_loop, normal_form, stream_item -/
def aSl : ASp := fun ds M R => ∃ l, ds = [iT l] ∧ l ≠ [] ∧ l.length ≤ 1000 ∧ R (iT (sloop l)) M
theorem b_shortest_loop (m1 : mg "range" = none) (m3 : mg "len" = none) : BodyOk P w K mg base k f n_shortest_loop "shortest_loop" (defScope s_shortest_loop) (defBody s_shortest_loop) aSl := by
  rintro cdv A outer s H E hr ds M R ⟨l, rfl, hn, hl, hp⟩
  have hu := hr.u64
  have hpos : 0 < l.length := List.length_pos_iff.mpr hn
  have len1 : ∀ {X : Cx} {Γ : Gam} {M : Mem} {e : Expr}, aV X e Γ M (.int ((l.map Val.int).length : Nat)) → aV X e Γ M (.int (l.length : Nat)) := fun h => by rw [List.length_map] at h; exact h
  refine as_cons (as_for (n := l.length - 1) (fun i Γ M' => M' = M ∧ ∃ v1, Γ = [some (iT l), v1] ∧ sloop l = slFrom l (l.length - 1 - i) (i + 1)) PassesOwn.never rfl
    (ai_range2 (lo := 1) m1 (aa_cons (i_.val (aa_cons ((len1 (av_len m3 (v_ 0) .t)).val (aa_nil ⟨_, rfl, by omega, by omega, rfl, none, rfl, rfl⟩)))))) (fun _ _ _ _ _ => trivial) ?_ ?_)
  · rintro i Γ M' hi ⟨rfl, v1, rfl, hs⟩
    refine ag_name 1 q_shortest_loop.nd ?_
    rw [show l.length - 1 - i = (l.length - 1 - (i + 1)) + 1 by omega] at hs
    have hst : slFrom l (l.length - 1 - (i + 1) + 1) (i + 1) = if isRep l (i + 1) = true then l.take (i + 1) else slFrom l (l.length - 1 - (i + 1)) (i + 1 + 1) := rfl
    rw [hst] at hs
    have e1 : (1 : Int) + (i : Int) = ((i + 1 : Nat) : Int) := by omega
    rw [e1]
    have sl : ∀ {X : Cx} {Γ : Gam} {M : Mem} {e : Expr}, aV X e Γ M (.tup (cutA (l.map Val.int) none (some ((i + 1 : Nat) : Int)))) → aV X e Γ M (iT (l.take (i + 1))) := fun h => by
      rw [cut_map, cut_hi (by omega) (by omega), Int.toNat_natCast] at h
      exact h
    have dv : ((l.length : Int) / ((i + 1 : Nat) : Int)) = ((l.length / (i + 1) : Nat) : Int) := by omega
    by_cases hm : l.length % (i + 1) = 0
    · have hge : 2 ≤ l.length / (i + 1) := by
        have h1 := Nat.div_add_mod l.length (i + 1)
        rw [hm, Nat.add_zero] at h1
        rcases Nat.lt_or_ge (l.length / (i + 1)) 2 with z | z
        · have : l.length / (i + 1) ≤ 1 := by omega
          have := Nat.mul_le_mul_left (i + 1) this
          omega
        · exact z
      have hle : l.length / (i + 1) ≤ l.length := Nat.div_le_self _ _
      have tl := take_len (l := l) (p := i + 1) (by omega)
      have tne : (l.take (i + 1)).map Val.int ≠ [] := fun z => by
        have := congrArg List.length z
        rw [List.length_map, tl] at this
        simp at this
      have cy : ∀ {X : Cx} {Γ : Gam} {M : Mem} {e : Expr}, aV X e Γ M (.tup (List.replicate ((l.length : Int) / ((i + 1 : Nat) : Int)).toNat ((l.take (i + 1)).map Val.int)).flatten) → aV X e Γ M (iT (cyc (l.take (i + 1)) (l.length / (i + 1)))) := fun h => by
        rw [dv, Int.toNat_natCast, map_cyc] at h
        exact h
      refine as_one (as_if (at_w (aw_and (at_cmp (av_mod (len1 (av_len m3 (v_ 0) .t)) (v_ 1) (by omega)) i_ cmp_eqI ⟨fun _ => ?_, fun h => ?_⟩))))
      · refine aw_and1 (at_cmp (v_ 0) (cy (av_repT (sl (av_sliceT (v_ 0) ao_none (ao_some (v_ 1)))) (av_fdiv (len1 (av_len m3 (v_ 0) .t)) (v_ 1) ⟨by omega, by omega⟩) tne (by rw [dv]; omega) (by rw [dv]; omega) (by rw [List.length_map, tl]; omega))) (cmp_eqTI hu) ⟨fun h => ?_, fun h => ?_⟩)
        · have hrp : isRep l (i + 1) = true := by
            unfold isRep
            rw [decide_eq_true hm, h]
            rfl
          rw [if_pos hrp] at hs
          refine as_one (as_ret ((sl (av_sliceT (v_ 0) ao_none (ao_some (v_ 1)))).val (.ok ?_)))
          rw [← hs]
          exact hp
        · have hrp : ¬ isRep l (i + 1) = true := by
            unfold isRep
            rw [h, Bool.and_false]
            exact Bool.false_ne_true
          rw [if_neg hrp] at hs
          exact as_nil ⟨rfl, _, rfl, hs⟩
      · exfalso
        rw [decide_eq_false_iff_not] at h
        apply h
        omega
    · have hrp : ¬ isRep l (i + 1) = true := by
        unfold isRep
        rw [decide_eq_false hm, Bool.false_and]
        exact Bool.false_ne_true
      rw [if_neg hrp] at hs
      refine as_one (as_if (at_w (aw_and (at_cmp (av_mod (len1 (av_len m3 (v_ 0) .t)) (v_ 1) (by omega)) i_ cmp_eqI ⟨fun h => ?_, fun _ => ⟨nft, fun _ => as_nil ⟨rfl, _, rfl, hs⟩⟩⟩))))
      exfalso
      rw [decide_eq_true_eq] at h
      omega
  · rintro Γ M' ⟨rfl, v1, rfl, hs⟩
    refine as_one (as_ret ((v_ 0).val (.ok ?_)))
    rw [Nat.sub_self] at hs
    have e : sloop l = l := hs
    rw [e] at hp
    exact hp
abbrev GSl (P : Program) (w : World) (K : PySem.W.Frag) (mg : Str → Option Value) (base : Heap) : Prop := Gd P w K mg base 1 "shortest_loop" [] fun ds _ => aSl ds
end
end K09

namespace K09
open PySem L2 Ab Sm
section
variable {P : Program} {w : World} {K : PySem.W.Frag} {mg : Str → Option Value} {base : Heap} {k : Nat} {f C : Addr}
/-- a stream -/
def stV (s : Stm) : Val := .tup [iT s.1, iT s.2]
def aNf : ASp := fun ds M R => ∃ s : Stm, ds = [iT s.1, iT s.2] ∧ s.2 ≠ [] ∧ s.1.length ≤ 1000 ∧ s.2.length ≤ 1000 ∧ R (stV (nf s)) M
theorem nfGo_succ {c : Nat} {f l : List Int} : nfGo (c + 1) f l = if f ≠ [] ∧ last0 f = last0 l then nfGo c f.dropLast (rotR l) else (f, l) := rfl
theorem cmp_neT {X : Cx} {M : Mem} {g : List Int} (hu : X.A.units + 64 < cLine) : Cmp X .NotEq M (iT g) (.tup []) (!decide (g = [])) := cmp_neTI (ns := g) (ms := []) hu
theorem b_normal_form (G : GSl P w K mg base) : BodyOk P w K mg base 1 f n_normal_form "normal_form" (defScope s_normal_form) (defBody s_normal_form) aNf := by
  rintro cdv A outer s H E hr ds M R ⟨⟨f0, l0⟩, rfl, hn, h1, h2, hp⟩
  have hu := hr.u64
  refine as_cons (as_set 1 q_normal_form.nd (ae_g G hr (by decide) (aa_cons ((v_ 1).val (aa_nil (ak_nil ⟨rfl, l0, rfl, hn, h2, ?_⟩))))))
  have hsl := sloop_spec hn
  refine as_cons (as_while (fun c Γ M' => M' = M ∧ ∃ f l, Γ = [some (iT f), some (iT l)] ∧ l ≠ [] ∧ f.length = c ∧ f.length ≤ 1000 ∧ l.length ≤ 1000 ∧ nf (f0, l0) = nfGo c f l) f0.length PassesOwn.never ⟨rfl, f0, sloop l0, rfl, hsl.1, rfl, h1, Nat.le_trans hsl.2.2.2.1 h2, rfl⟩ ?_)
  rintro c Γ M' ⟨rfl, g, l, rfl, hl, hc, hf, hll, hnf⟩
  have sf : g ≠ [] → ∀ {X : Cx} {Γ : Gam} {M : Mem} {e : Expr}, aV X e Γ M (.tup (cutA (g.map Val.int) none (some (-1)))) → aV X e Γ M (iT g.dropLast) := fun hne _ _ _ _ h => by
    rw [cut_map, cut_neg hne] at h
    exact h
  have s1 : ∀ {X : Cx} {Γ : Gam} {M : Mem} {e : Expr}, aV X e Γ M (.tup (cutA (l.map Val.int) none (some (-1)))) → aV X e Γ M (iT l.dropLast) := fun h => by
    rw [cut_map, cut_neg hl] at h
    exact h
  have s2 : ∀ {X : Cx} {Γ : Gam} {M : Mem} {e : Expr}, aV X e Γ M (.tup (cutA (l.map Val.int) (some (-1)) none)) → aV X e Γ M (iT [last0 l]) := fun h => by
    rw [cut_map, cut_end hl] at h
    exact h
  have fin : nf (f0, l0) = (g, l) → aSs (bcx P w K mg base n_normal_form "normal_form" (defScope s_normal_form) f cdv A outer s H E) [(defBody s_normal_form).getD 2 (.Pass ⟨0, 0, 0, 0⟩)] [some (iT g), some (iT l)] M' (kOf R) := fun e => by
    refine as_one (as_ret (aE.val (av_tup (avs_cons (v_ 0) (avs_cons (v_ 1) avs_nil)) szb) (.ok ?_)))
    rw [e] at hp
    exact hp
  by_cases hfe : g = []
  · subst hfe
    refine at_w (aw_and (at_cmp (v_ 0) (av_tup avs_nil szb) (cmp_neT hu) ⟨fun h => ?_, fun _ => ⟨nft, fun _ => fin ?_⟩⟩))
    · simp at h
    · rw [hnf, ← hc]
      rfl
  · have hfl : 0 < g.length := List.length_pos_iff.mpr hfe
    obtain ⟨c', rfl⟩ : ∃ c', c = c' + 1 := ⟨c - 1, by omega⟩
    rw [nfGo_succ] at hnf
    refine at_w (aw_and (at_cmp (v_ 0) (av_tup avs_nil szb) (cmp_neT hu) ⟨fun _ => ?_, fun h => ?_⟩))
    · refine aw_and1 (at_cmp (av_ixT (v_ 0) (av_neg i_) (atI_last hfe)) (av_ixT (v_ 1) (av_neg i_) (atI_last hl)) cmp_eqI ⟨fun h => ?_, fun h => fin ?_⟩)
      · rw [decide_eq_true_eq] at h
        rw [if_pos ⟨hfe, h⟩] at hnf
        refine as_one (as_par 0 1 q_normal_form.nd rfl (by decide) (aa_cons ((sf hfe (av_sliceT (v_ 0) ao_none (ao_some (av_neg i_)))).val (aa_cons (aE.val (av_catT (s2 (av_sliceT (v_ 1) (ao_some (av_neg i_)) ao_none)) (s1 (av_sliceT (v_ 1) ao_none (ao_some (av_neg i_)))) (sz ?_)) (aa_nil ⟨_, _, rfl, c', Nat.lt_succ_self _, rfl, g.dropLast, rotR l, rfl, ?_, ?_, ?_, ?_, hnf⟩))))))
        · simp
          omega
        · unfold rotR
          exact List.cons_ne_nil _ _
        · rw [List.length_dropLast]
          omega
        · rw [List.length_dropLast]
          omega
        · rw [rot_len hl]
          exact hll
      · rw [decide_eq_false_iff_not] at h
        rw [if_neg fun z => h z.2] at hnf
        exact hnf
    · simp [hfe] at h
abbrev GNf (P : Program) (w : World) (K : PySem.W.Frag) (mg : Str → Option Value) (base : Heap) : Prop := Gd P w K mg base 2 "normal_form" [] fun ds _ => aNf ds
/-! ### stream_item -/
def aItem : ASp := fun ds M R => ∃ (s : Stm) (i : Int), ds = [stV s, .int i] ∧ s.2 ≠ [] ∧ 0 ≤ i ∧ R (.int (item s i.toNat)) M
theorem item_lp {s : Stm} {i : Int} (hn : s.2 ≠ []) (h0 : 0 ≤ i) (h : ¬ i < (s.1.length : Int)) : item s i.toNat = at0 s.2 ((i - (s.1.length : Int)) % (s.2.length : Int)) := by
  have hl : 0 < s.2.length := List.length_pos_iff.mpr hn
  rw [item_ge (by omega)]
  unfold lp at0
  have e : i - (s.1.length : Int) = ((i.toNat - s.1.length : Nat) : Int) := by omega
  rw [e, ← Int.natCast_emod, Int.toNat_natCast]
theorem b_stream_item (m3 : mg "len" = none) : BodyOk P w K mg base k f n_stream_item "stream_item" (defScope s_stream_item) (defBody s_stream_item) aItem := by
  rintro cdv A outer s0 H E hr ds M R ⟨s, i, rfl, hn, h0, hp⟩
  have hl : 0 < s.2.length := List.length_pos_iff.mpr hn
  refine as_cons (as_asg ((v_ 0).val (ag_tup rfl (ags_cons (ag_name 2 q_stream_item.nd (ags_cons (ag_name 3 q_stream_item.nd (ags_nil ?_))))))))
  have len1 : ∀ {g : List Int} {X : Cx} {Γ : Gam} {M : Mem} {e : Expr}, aV X e Γ M (.int ((g.map Val.int).length : Nat)) → aV X e Γ M (.int (g.length : Nat)) := fun h => by rw [List.length_map] at h; exact h
  refine as_one (as_ret (ae_ifd (p := i < (s.1.length : Int)) (at_cmp (v_ 1) (len1 (av_len m3 (v_ 2) .t)) cmp_lt ⟨rfl, rfl⟩) (fun h => ?_) (fun h => ?_)))
  · refine aE.val (av_ixT (v_ 2) (v_ 1) (atI_int h0 h)) (.ok ?_)
    have e : item s i.toNat = at0 s.1 i := item_lt (by omega)
    rw [e] at hp
    exact hp
  · refine aE.val (av_ixT (v_ 3) (av_mod (av_sub (v_ 1) (len1 (av_len m3 (v_ 2) .t))) (len1 (av_len m3 (v_ 3) .t)) (by omega)) (atI_int (Int.emod_nonneg _ (by omega)) (Int.emod_lt_of_pos _ (by omega)))) (.ok ?_)
    rw [item_lp hn h0 h] at hp
    exact hp
abbrev GItem (P : Program) (w : World) (K : PySem.W.Frag) (mg : Str → Option Value) (base : Heap) : Prop := Gd P w K mg base 1 "stream_item" [] fun ds _ => aItem ds
end
end K09

namespace Sm
/-! ### streams without their first items, with other ones -/
def rotL (l : List Int) (k : Nat) : List Int := l.drop k ++ l.take k
theorem rotL_len {l : List Int} {k : Nat} (h : k ≤ l.length) : (rotL l k).length = l.length := by
  unfold rotL
  rw [List.length_append, List.length_drop, List.length_take]
  omega
theorem rotL_mem {l : List Int} {k : Nat} {v : Int} (h : v ∈ rotL l k) : v ∈ l := by
  rcases List.mem_append.mp h with h | h
  · exact List.mem_of_mem_drop h
  · exact List.mem_of_mem_take h
theorem rotL_lp {l : List Int} {k : Nat} (hk : k < l.length) (i : Nat) : lp (rotL l k) i = lp l (i + k) := by
  have hl := rotL_len (l := l) (k := k) (by omega)
  have hm := Nat.mod_lt i (show 0 < l.length by omega)
  have key : ∀ j, j < l.length → (rotL l k).getD j 0 = lp l (j + k) := fun j hj => by
    unfold rotL
    rw [List.getD_eq_getElem?_getD]
    by_cases h : j < l.length - k
    · rw [List.getElem?_append_left (by rw [List.length_drop]; exact h), List.getElem?_drop, lp_lt (by omega), List.getD_eq_getElem?_getD, Nat.add_comm]
    · rw [List.getElem?_append_right (by rw [List.length_drop]; omega), List.length_drop, List.getElem?_take_of_lt (by omega), ← List.getD_eq_getElem?_getD]
      have := lp_add (l := l) (j - (l.length - k))
      rw [show j - (l.length - k) + l.length = j + k by omega] at this
      rw [this, lp_lt (by omega)]
  have e1 : lp (rotL l k) i = lp (rotL l k) (i % l.length) := by
    have := per_mod (h := fun i => lp (rotL l k) i) (p := l.length) (fun i => by rw [← hl]; exact lp_add i) i
    exact this.symm
  rw [e1, lp_lt (by omega), key _ hm]
  have := per_mod (h := fun i => lp l (i + k)) (p := l.length) (fun i => by
    show lp l (i + l.length + k) = lp l (i + k)
    rw [show i + l.length + k = i + k + l.length by omega, lp_add]) i
  exact this
def swo (s : Stm) (c : Nat) : Stm := if c ≤ s.1.length then (s.1.drop c, s.2) else ([], rotL s.2 ((c - s.1.length) % s.2.length))
theorem swo_item {s : Stm} (hn : s.2 ≠ []) (c i : Nat) : item (swo s c) i = item s (i + c) := by
  have hl : 0 < s.2.length := List.length_pos_iff.mpr hn
  unfold swo
  by_cases h : c ≤ s.1.length
  · rw [if_pos h]
    by_cases hi : i + c < s.1.length
    · rw [item_lt hi, item_lt (by show i < (s.1.drop c).length; rw [List.length_drop]; omega)]
      show (s.1.drop c).getD i 0 = _
      rw [List.getD_eq_getElem?_getD, List.getElem?_drop, List.getD_eq_getElem?_getD, Nat.add_comm]
    · rw [item_ge (s := s) (by omega), item_ge (by show (s.1.drop c).length ≤ i; rw [List.length_drop]; omega)]
      show lp s.2 (i - (s.1.drop c).length) = _
      rw [List.length_drop, show i - (s.1.length - c) = i + c - s.1.length by omega]
  · rw [if_neg h, item_ge (s := s) (by omega), item_ge (by exact Nat.zero_le _)]
    show lp (rotL s.2 _) (i - 0) = _
    rw [Nat.sub_zero, rotL_lp (Nat.mod_lt _ hl)]
    have := per_mod (h := fun j => lp s.2 (i + j)) (p := s.2.length) (fun j => by
      show lp s.2 (i + (j + s.2.length)) = lp s.2 (i + j)
      rw [← Nat.add_assoc, lp_add]) (c - s.1.length)
    rw [this, show i + (c - s.1.length) = i + c - s.1.length by omega]
theorem swo_ne {s : Stm} (hn : s.2 ≠ []) (c : Nat) : (swo s c).2 ≠ [] ∧ (swo s c).2.length = s.2.length ∧ ∀ v ∈ (swo s c).2, v ∈ s.2 := by
  have hl : 0 < s.2.length := List.length_pos_iff.mpr hn
  unfold swo
  by_cases h : c ≤ s.1.length
  · rw [if_pos h]
    exact ⟨hn, rfl, fun _ h => h⟩
  · rw [if_neg h]
    have e := rotL_len (l := s.2) (k := (c - s.1.length) % s.2.length) (Nat.le_of_lt (Nat.mod_lt _ hl))
    refine ⟨fun z => ?_, e, fun v hv => rotL_mem hv⟩
    have z' : rotL s.2 ((c - s.1.length) % s.2.length) = [] := z
    rw [z'] at e
    simp at e
    omega
theorem swo_nil {s : Stm} {c : Nat} (h : s.1.length ≤ c) : (swo s c).1 = [] := by
  unfold swo
  by_cases h2 : c ≤ s.1.length
  · rw [if_pos h2]
    exact List.drop_of_length_le h
  · rw [if_neg h2]
/-- a longer front -/
def wf (s : Stm) (m : Nat) : Stm := ((List.range m).map (item s), (swo s m).2)
theorem wf_item {s : Stm} (hn : s.2 ≠ []) {m : Nat} (hm : s.1.length ≤ m) (i : Nat) : item (wf s m) i = item s i := by
  have hl : ((List.range m).map (item s)).length = m := by simp
  by_cases h : i < m
  · rw [item_lt (by show i < ((List.range m).map (item s)).length; rw [hl]; exact h)]
    show ((List.range m).map (item s)).getD i 0 = _
    rw [gd_eq (by rw [hl]; exact h)]
    simp
  · rw [item_ge (by show ((List.range m).map (item s)).length ≤ i; rw [hl]; omega)]
    show lp (swo s m).2 (i - ((List.range m).map (item s)).length) = _
    rw [hl]
    have := swo_item hn m (i - m)
    rw [Nat.sub_add_cancel (by omega), item_ge (by rw [swo_nil hm]; exact Nat.zero_le _), swo_nil hm] at this
    exact this
/-- another first item -/
def wfst (s : Stm) (v : Int) : Stm := (v :: ((List.range (max 1 s.1.length)).map (item s)).drop 1, (swo s (max 1 s.1.length)).2)
theorem wfst_item {s : Stm} (hn : s.2 ≠ []) (v : Int) (i : Nat) : item (wfst s v) i = if i = 0 then v else item s i := by
  have hw := wf_item hn (m := max 1 s.1.length) (by omega) i
  have hl : ((List.range (max 1 s.1.length)).map (item s)).length = max 1 s.1.length := by simp
  cases i with
  | zero =>
    rw [if_pos rfl, item_lt (by show 0 < (v :: _).length; exact Nat.succ_pos _)]
    rfl
  | succ i =>
    rw [if_neg (by omega), ← hw]
    unfold item
    have e : (wfst s v).1.length = (wf s (max 1 s.1.length)).1.length := by
      show (v :: ((List.range (max 1 s.1.length)).map (item s)).drop 1).length = ((List.range (max 1 s.1.length)).map (item s)).length
      rw [List.length_cons, List.length_drop, hl]
      omega
    rw [e]
    by_cases h : i + 1 < (wf s (max 1 s.1.length)).1.length
    · rw [if_pos h, if_pos h]
      show (v :: ((List.range (max 1 s.1.length)).map (item s)).drop 1).getD (i + 1) 0 = ((List.range (max 1 s.1.length)).map (item s)).getD (i + 1) 0
      rw [List.getD_cons_succ, List.getD_eq_getElem?_getD, List.getElem?_drop, List.getD_eq_getElem?_getD, Nat.add_comm]
    · rw [if_neg h, if_neg h]
      rfl
/-! ### streams item by item -/
def cmb (F : Nat → Int) (n p : Nat) : Stm := ((List.range n).map F, (List.range p).map fun i => F (n + i))
theorem cmb_item {F : Nat → Int} {n p : Nat} (hp : 0 < p) (h : ∀ i, n ≤ i → F (i + p) = F i) (i : Nat) : item (cmb F n p) i = F i := by
  have l1 : (cmb F n p).1.length = n := by simp [cmb]
  have l2 : (cmb F n p).2.length = p := by simp [cmb]
  by_cases hi : i < n
  · rw [item_lt (by rw [l1]; exact hi)]
    show ((List.range n).map F).getD i 0 = _
    rw [gd_eq (by simpa using hi)]
    simp
  · rw [item_ge (by rw [l1]; omega), l1]
    unfold lp
    rw [l2]
    have hm := Nat.mod_lt (i - n) hp
    show ((List.range p).map fun i => F (n + i)).getD ((i - n) % p) 0 = _
    rw [gd_eq (by simpa using hm)]
    have := per_mod (h := fun j => F (n + j)) (p := p) (fun j => by
      show F (n + (j + p)) = F (n + j)
      rw [← Nat.add_assoc]
      exact h _ (by omega)) (i - n)
    simp only [List.getElem_map, List.getElem_range]
    rw [this, show n + (i - n) = i by omega]
theorem item_per {s : Stm} {p i : Nat} (hd : s.2.length ∣ p) (hi : s.1.length ≤ i) : item s (i + p) = item s i := by
  rw [item_ge (by omega), item_ge hi, show i + p - s.1.length = i - s.1.length + p by omega]
  obtain ⟨q, rfl⟩ := hd
  exact per_mul (fun i => lp_add (l := s.2) i) q _
def minL : List Int → Int
  | [] => 0
  | x :: xs => xs.foldl (fun a b => if b < a then b else a) x
def maxL : List Int → Int
  | [] => 0
  | x :: xs => xs.foldl (fun a b => if b > a then b else a) x
theorem minL_spec : ∀ (xs : List Int) (x : Int), minL (x :: xs) ∈ x :: xs ∧ ∀ y ∈ x :: xs, minL (x :: xs) ≤ y
  | [], x => ⟨List.mem_cons_self, fun y hy => by
    have : y = x := by simpa using hy
    subst this
    exact Int.le_refl _⟩
  | b :: xs, x => by
    have e : minL (x :: b :: xs) = minL ((if b < x then b else x) :: xs) := rfl
    obtain ⟨h1, h2⟩ := minL_spec xs (if b < x then b else x)
    rw [e]
    have h0 := h2 _ List.mem_cons_self
    refine ⟨?_, fun y hy => ?_⟩
    · rcases List.mem_cons.mp h1 with z | z
      · rw [z]
        split
        · exact List.mem_cons_of_mem _ List.mem_cons_self
        · exact List.mem_cons_self
      · exact List.mem_cons_of_mem _ (List.mem_cons_of_mem _ z)
    · rcases List.mem_cons.mp hy with rfl | hy
      · refine Int.le_trans h0 ?_
        split <;> omega
      · rcases List.mem_cons.mp hy with rfl | hy
        · refine Int.le_trans h0 ?_
          split <;> omega
        · exact h2 y (List.mem_cons_of_mem _ hy)
theorem maxL_spec : ∀ (xs : List Int) (x : Int), maxL (x :: xs) ∈ x :: xs ∧ ∀ y ∈ x :: xs, y ≤ maxL (x :: xs)
  | [], x => ⟨List.mem_cons_self, fun y hy => by
    have : y = x := by simpa using hy
    subst this
    exact Int.le_refl _⟩
  | b :: xs, x => by
    have e : maxL (x :: b :: xs) = maxL ((if b > x then b else x) :: xs) := rfl
    obtain ⟨h1, h2⟩ := maxL_spec xs (if b > x then b else x)
    rw [e]
    have h0 := h2 _ List.mem_cons_self
    refine ⟨?_, fun y hy => ?_⟩
    · rcases List.mem_cons.mp h1 with z | z
      · rw [z]
        split
        · exact List.mem_cons_of_mem _ List.mem_cons_self
        · exact List.mem_cons_self
      · exact List.mem_cons_of_mem _ (List.mem_cons_of_mem _ z)
    · rcases List.mem_cons.mp hy with rfl | hy
      · refine Int.le_trans ?_ h0
        split <;> omega
      · rcases List.mem_cons.mp hy with rfl | hy
        · refine Int.le_trans ?_ h0
          split <;> omega
        · exact h2 y (List.mem_cons_of_mem _ hy)
theorem min_is {ns : List Int} {m : Int} (h1 : m ∈ ns) (h2 : ∀ y ∈ ns, m ≤ y) : m = minL ns := by
  cases ns with
  | nil => cases h1
  | cons x xs =>
    obtain ⟨a, b⟩ := minL_spec xs x
    exact Int.le_antisymm (h2 _ a) (b _ h1)
theorem max_is {ns : List Int} {m : Int} (h1 : m ∈ ns) (h2 : ∀ y ∈ ns, y ≤ m) : m = maxL ns := by
  cases ns with
  | nil => cases h1
  | cons x xs =>
    obtain ⟨a, b⟩ := maxL_spec xs x
    exact Int.le_antisymm (b _ h1) (h2 _ a)
/-! ### the least common multiple, step by step -/
theorem lcm_of {a b k : Nat} (ha : 0 < a) (hb : 0 < b) (hk : 0 < k) (hd : b ∣ a * k) (hm : ∀ j, 0 < j → j < k → ¬ b ∣ a * j) : a * k = Nat.lcm a b := by
  have h1 : Nat.lcm a b ∣ a * k := Nat.lcm_dvd (Nat.dvd_mul_right a k) hd
  obtain ⟨q, hq⟩ := Nat.dvd_lcm_left a b
  have hq0 : 0 < q := by
    rcases Nat.eq_zero_or_pos q with z | z
    · rw [z, Nat.mul_zero] at hq
      have := Nat.lcm_pos ha hb
      omega
    · exact z
  have hle : a * q ≤ a * k := hq ▸ Nat.le_of_dvd (Nat.mul_pos ha hk) h1
  have hqk : q ≤ k := Nat.le_of_mul_le_mul_left hle ha
  rcases Nat.lt_or_ge q k with z | z
  · exact absurd (hq ▸ Nat.dvd_lcm_right a b) (hm q hq0 z)
  · have : q = k := Nat.le_antisymm hqk z
    rw [← this, ← hq]
def lcmL (ns : List Nat) : Nat := ns.foldl Nat.lcm 1
theorem lcmL_from : ∀ (ns : List Nat) (a : Nat), a ∣ ns.foldl Nat.lcm a ∧ (∀ n ∈ ns, n ∣ ns.foldl Nat.lcm a) ∧ ∀ N, a ∣ N → (∀ n ∈ ns, n ∣ N) → ns.foldl Nat.lcm a ∣ N
  | [], a => ⟨Nat.dvd_refl _, (fun _ h => nomatch h), fun N h _ => h⟩
  | b :: ns, a => by
    obtain ⟨h1, h2, h3⟩ := lcmL_from ns (Nat.lcm a b)
    refine ⟨Nat.dvd_trans (Nat.dvd_lcm_left a b) h1, fun n hn => ?_, fun N ha hN => h3 N (Nat.lcm_dvd ha (hN b List.mem_cons_self)) fun n hn => hN n (List.mem_cons_of_mem _ hn)⟩
    rcases List.mem_cons.mp hn with rfl | hn
    · exact Nat.dvd_trans (Nat.dvd_lcm_right a n) h1
    · exact h2 n hn
theorem lcmL_dvd {ns : List Nat} {n : Nat} (h : n ∈ ns) : n ∣ lcmL ns := (lcmL_from ns 1).2.1 n h
theorem dvd_lcmL {ns : List Nat} {N : Nat} (h : ∀ n ∈ ns, n ∣ N) : lcmL ns ∣ N := (lcmL_from ns 1).2.2 N (Nat.one_dvd _) h
end Sm

namespace Ab
open PySem PySem.Spec PyProof.Rows L2
section
variable {X : Cx} {Γ : Gam} {M : Mem} {k : AK} {sts : List Stmt} {pos : Pos} {y : Str} {n : Nat}
/-- y = [.. for ..], items told by their number, never changed behind it -/
theorem as_lcP {tg iter elt : Expr} {scope : Scope} {py spos : Pos} (m : Nat) (own : List (Str × Nat)) {it : Nat → Val} (g : Nat → Val) (hc : X.calm = true) (hN : X.N.Nodup) (ok : BlkOk X.N X.env.scope scope own)
    (hi : aI X tg iter Γ M n it (fun _ => True) (fun M' => M' = M))
    (hs : ∀ i acc D, i < n → bG X scope (own.map (·.2)) tg (it i) (wipeG Γ (own.map (·.2))) ((D, .lst acc) :: M) fun Γ2 M2 => bE X scope elt Γ2 M2 fun y M4 => y = g i ∧ M4 = (D, .lst acc) :: M)
    (hn : n ≤ 100000) (h : aSs X sts (Γ.set m (some (.lst ((List.range n).map g)))) M k) (hm : m < Γ.length := by exact Nat.le_of_ble_eq_true rfl) (hy : X.N[m]? = some y := by rfl) (hyl : X.env.scope.names.lookup y = some .local := by rfl)
    (hsw : swapsWith (.ListComp elt [⟨tg, iter, [], 0⟩] scope pos) (some (.Name y py)) spos.line X.env = pure true := by exact sw_true rfl rfl rfl (by decide +kernel))
    (hf : ∀ x, foldedSetIterable iter X.env x = pure x := by intro _; rfl) :
    aSs X (.Assign [.Name y py] (.ListComp elt [⟨tg, iter, [], 0⟩] scope pos) spos :: sts) Γ M k := by
  refine as_cons (as_lcJ m own hc hN ok (aj_ai hi fun M1 e => ?_) hy hyl hsw hf)
  subst e
  refine ⟨hn, fun i acc M' => M' = M1 ∧ acc = (List.range i).map g, ⟨rfl, rfl⟩, ?_, ?_⟩
  · rintro i acc M' D hi' _ ⟨rfl, rfl⟩ s H C cl fp
    intro Hi1 H1 σ1 v1 ok1 en1 r1 Q1 q1
    refine hs i _ D hi' s H C cl fp Hi1 H1 σ1 v1 ok1 en1 r1 Q1 fun Γ2 M2 σ2 Hi2 H2 h2 => q1 Γ2 M2 σ2 Hi2 H2 fun s' H' C' cl' fp' => ats_nil ⟨fun _ s2 H2 C2 cl2 fp2 => (h2 s2 H2 C2 cl2 fp2).mono fun y M4 hy => ?_, fun z => nomatch z⟩
    obtain ⟨rfl, rfl⟩ := hy
    exact ⟨_, rfl, rfl, by rw [List.range_succ, List.map_append]; rfl⟩
  · rintro D acc M' ⟨rfl, rfl⟩
    refine as_frz m (by rw [List.getElem?_set_self hm]) ?_
    rw [List.set_set]
    exact h
end
end Ab

namespace K09
open PySem L2 Ab Sm
theorem len_ {g : List Int} {X : Cx} {Γ : Gam} {M : Mem} {e : Expr} (h : aV X e Γ M (.int ((g.map Val.int).length : Nat))) : aV X e Γ M (.int (g.length : Nat)) := by
  rw [List.length_map] at h
  exact h
theorem cut_loN {g : List Int} {j : Int} (h0 : 0 ≤ j) : cutI g (some j) none = g.drop j.toNat := by
  by_cases h : j ≤ g.length
  · exact cut_lo h0 h
  · obtain ⟨n, rfl⟩ := Int.eq_ofNat_of_zero_le h0
    unfold cutI
    rw [HT.sIx_nat, HT.sIx_none, Nat.min_eq_right (by omega), Int.toNat_natCast, List.drop_of_length_le (Nat.le_refl _), List.drop_of_length_le (by omega), List.take_nil]
section
variable {P : Program} {w : World} {K : PySem.W.Frag} {mg : Str → Option Value} {base : Heap} {k : Nat} {f C : Addr}
/-! ### stream_without, with_front, with_first -/
def aSwo : ASp := fun ds M R => ∃ (s : Stm) (c : Nat), ds = [stV s, .int (c : Int)] ∧ s.2 ≠ [] ∧ s.2.length ≤ 1000 ∧ R (stV (swo s c)) M
abbrev GSwo (P : Program) (w : World) (K : PySem.W.Frag) (mg : Str → Option Value) (base : Heap) : Prop := Gd P w K mg base 1 "stream_without" [] fun ds _ => aSwo ds
def aWf : ASp := fun ds M R => ∃ (s : Stm) (n : Nat), ds = [stV s, .int (n : Int)] ∧ s.2 ≠ [] ∧ s.1.length ≤ 1000 ∧ s.2.length ≤ 1000 ∧ n ≤ 1000 ∧ R (stV (wf s (max n s.1.length))) M
abbrev GWf (P : Program) (w : World) (K : PySem.W.Frag) (mg : Str → Option Value) (base : Heap) : Prop := Gd P w K mg base 2 "with_front" [] fun ds _ => aWf ds
def aWfst : ASp := fun ds M R => ∃ (s : Stm) (v : Int), ds = [stV s, .int v] ∧ s.2 ≠ [] ∧ s.1.length ≤ 1000 ∧ s.2.length ≤ 1000 ∧ R (stV (wfst s v)) M
abbrev GWfst (P : Program) (w : World) (K : PySem.W.Frag) (mg : Str → Option Value) (base : Heap) : Prop := Gd P w K mg base 3 "with_first" [] fun ds _ => aWfst ds
/-! ### common_multiple -/
def nL (ns : List Nat) : List Int := ns.map fun (n : Nat) => (n : Int)
def aLcm : ASp := fun ds M R => ∃ ns : List Nat, ds = [iL (nL ns)] ∧ (∀ n ∈ ns, 0 < n) ∧ R (.int (lcmL ns : Nat)) M
theorem fold_pos : ∀ (ns : List Nat) (a : Nat), 0 < a → (∀ n ∈ ns, 0 < n) → 0 < ns.foldl Nat.lcm a
  | [], a, h, _ => h
  | b :: ns, a, h, hn => fold_pos ns (Nat.lcm a b) (Nat.lcm_pos h (hn b List.mem_cons_self)) fun n hm => hn n (List.mem_cons_of_mem _ hm)
theorem b_common_multiple : BodyOk P w K mg base k f n_common_multiple "common_multiple" (defScope s_common_multiple) (defBody s_common_multiple) aLcm := by
  rintro cdv A outer s0 H E hr ds M R ⟨ns, rfl, hpos, hp⟩
  refine as_cons (as_set 1 q_common_multiple.nd (ae_int ?_))
  refine as_cons (as_for (fun i Γ M' => M' = M ∧ ∃ v2 v3, Γ = [some (iL (nL ns)), some (.int (((ns.take i).foldl Nat.lcm 1 : Nat) : Int)), v2, v3]) PassesOwn.never rfl (ai_lst ((v_ 0).val ⟨rfl, rfl, none, none, rfl⟩)) (fun _ _ _ _ _ => trivial) ?_ ?_)
  · rintro i Γ M' hi ⟨rfl, v2, v3, rfl⟩
    have hi' : i < ns.length := by simpa [nL] using hi
    have hi2 : i < (nL ns).length := by simpa [nL] using hi'
    rw [getD_int hi2]
    have eb : (nL ns)[i] = (ns[i] : Int) := by simp [nL]
    rw [eb]
    have hb := hpos _ (List.getElem_mem hi')
    have et : ns.take (i + 1) = ns.take i ++ [ns[i]] := by rw [List.take_succ, List.getElem?_eq_getElem hi']; rfl
    have ef : (ns.take (i + 1)).foldl Nat.lcm 1 = Nat.lcm ((ns.take i).foldl Nat.lcm 1) ns[i] := by rw [et, List.foldl_append]; rfl
    have ha := fold_pos (ns.take i) 1 (by decide) fun n hn => hpos n (List.mem_of_mem_take hn)
    rw [ef]
    generalize ns[i] = b at *
    generalize (ns.take i).foldl Nat.lcm 1 = a at *
    refine ag_name 2 q_common_multiple.nd ?_
    refine as_cons (as_set 3 q_common_multiple.nd ((v_ 1).val ?_))
    refine as_one (as_while (fun c Γ M'' => M'' = M' ∧ ∃ k, Γ = [some (iL (nL ns)), some (.int ((a * k : Nat) : Int)), some (.int (b : Int)), some (.int (a : Int))] ∧ 0 < k ∧ k ≤ b ∧ c + k = b + 1 ∧ ∀ j, 0 < j → j < k → ¬ b ∣ a * j) b PassesOwn.never ⟨rfl, 1, by rw [Nat.mul_one]; rfl, by decide, hb, rfl, fun j h1 h2 => by omega⟩ ?_)
    rintro c Γ M'' ⟨rfl, k, rfl, hk, hkle, hc, hno⟩
    refine at_cmp (av_mod (v_ 1) (v_ 2) (by omega)) i_ cmp_neI ⟨fun h => ?_, fun h => ?_⟩
    · have hnd : ¬ b ∣ a * k := fun hd => by
        have : ((a * k : Nat) : Int) % (b : Int) = 0 := by
          rw [← Int.natCast_emod, Nat.mod_eq_zero_of_dvd hd]
          rfl
        rw [decide_eq_true this] at h
        exact absurd h (by decide)
      have hkb : k ≠ b := fun e => hnd (e ▸ Nat.dvd_mul_left b a)
      refine as_one (as_augI (i := ((a * k : Nat) : Int)) 1 q_common_multiple.nd ip_add rfl ((v_ 3).val ⟨_, rfl, c - 1, by omega, rfl, k + 1, ?_, by omega, by omega, by omega, fun j h1 h2 => ?_⟩))
      · show [_, some (Val.int (((a * k : Nat) : Int) + (a : Int))), _, _] = _
        rw [Nat.mul_succ, Int.natCast_add]
      · rcases Nat.lt_or_ge j k with z | z
        · exact hno j h1 z
        · have : j = k := by omega
          subst this
          exact hnd
    · have hd : b ∣ a * k := by
        have : ((a * k : Nat) : Int) % (b : Int) = 0 := by simpa using h
        rw [← Int.natCast_emod] at this
        exact Nat.dvd_of_mod_eq_zero (by omega)
      rw [← lcm_of ha hb hk hd hno]
      exact ⟨rfl, _, _, rfl⟩
  · rintro Γ M' ⟨rfl, v2, v3, rfl⟩
    refine as_one (as_ret ((v_ 1).val (.ok ?_)))
    rw [List.take_of_length_le (by simp [nL])]
    exact hp
abbrev GLcm (P : Program) (w : World) (K : PySem.W.Frag) (mg : Str → Option Value) (base : Heap) : Prop := Gd P w K mg base 1 "common_multiple" [] fun ds _ => aLcm ds
end
end K09

namespace K09
open PySem L2 Ab Sm
inductive Wd where
  | sum | least | greatest
def Wd.str : Wd → Str
  | .sum => "sum"
  | .least => "least"
  | .greatest => "greatest"
def opV : Wd → List Int → Int
  | .sum, ns => ns.sum
  | .least, ns => minL ns
  | .greatest, ns => maxL ns
def colF (w : Wd) (ss : List Stm) (i : Nat) : Int := opV w (ss.map fun s => item s i)
theorem getD_st {ss : List Stm} {i : Nat} (h : i < ss.length) : (ss.map stV).getD i .non = stV ss[i] := by
  rw [List.getD_eq_getElem?_getD, List.getElem?_map, List.getElem?_eq_getElem h]
  rfl
theorem rng_map {α : Type} (ss : List α) (g : α → Int) (dd : α) : (List.range ss.length).map (fun i => Val.int (g (ss.getD i dd))) = (ss.map g).map Val.int := by
  apply List.ext_getElem
  · simp
  · intro i h1 h2
    have hi : i < ss.length := by simpa using h1
    simp [List.getD_eq_getElem?_getD, List.getElem?_eq_getElem hi]
section
variable {P : Program} {w : World} {K : PySem.W.Frag} {mg : Str → Option Value} {base : Heap} {k : Nat} {f C : Addr}
/-! ### combined_streams -/
def aCmb : ASp := fun ds M R => ∃ (ss : List Stm) (wd : Wd) (B : Nat), ds = [.lst (ss.map stV), .str wd.str] ∧ ss ≠ [] ∧ ss.length ≤ 100 ∧ (∀ s ∈ ss, s.2 ≠ [] ∧ s.1.length ≤ B) ∧ B ≤ 100 ∧ lcmL (ss.map fun s => s.2.length) ≤ 1000 ∧
  ∀ n, n ≤ B → (∀ s ∈ ss, s.1.length ≤ n) → R (stV (cmb (colF wd ss) n (lcmL (ss.map fun s => s.2.length)))) M
theorem b_combined_streams (G1 : GItem P w K mg base) (G2 : GLcm P w K mg base) (m1 : mg "range" = none) (m2 : mg "tuple" = none) (m3 : mg "len" = none) (m4 : mg "max" = none) (m5 : mg "min" = none) (m6 : mg "sum" = none) :
    BodyOk P w K mg base 1 f n_combined_streams "combined_streams" (defScope s_combined_streams) (defBody s_combined_streams) aCmb := by
  rintro cdv A outer s0 H E hr ds M R ⟨ss, wd, B, rfl, hne, hsl, hss, hB, hlc, hp⟩
  have hs0 : 0 < ss.length := List.length_pos_iff.mpr hne
  -- the size
  refine as_cons (as_set 2 q_combined_streams.nd (ae_maxL m4 rfl (ae_lcP [("front", 3), ("loop", 4)] (fun i => .int (((ss.getD i ([], [])).1.length : Nat) : Int)) rfl q_combined_streams.nd (blkOk_by (N := n_combined_streams) (sc := defScope s_combined_streams) (by decide +kernel))
    (ai_lst ((v_ 0).val ⟨rfl, rfl⟩)) ?_ (by rw [List.length_map]; omega) ⟨ss.map fun s => (s.1.length : Int), ?_, by rw [List.length_map]; exact hs0, fun m hm1 hm2 => ?_⟩)))
  · intro i acc D hi s H C' cl fp
    have hi' : i < ss.length := by simpa using hi
    rw [getD_st hi']
    refine agw_tup rfl (agws_cons (agw_name 3 q_combined_streams.nd (agws_cons (agw_name 4 q_combined_streams.nd (agws_nil fun s H C' cl fp => ?_)))))
    refine aE.val (len_ (av_len m3 (v_ 3) .t)) ⟨?_, rfl⟩
    rw [List.getD_eq_getElem?_getD, List.getElem?_eq_getElem hi']
    rfl
  · rw [List.length_map, rng_map ss (fun s => (s.1.length : Int)) ([], [])]
    exact .self _
  obtain ⟨sm, hsm, rfl⟩ := List.mem_map.mp hm1
  have hnB : sm.1.length ≤ B := (hss sm hsm).2
  have hmx : ∀ s ∈ ss, s.1.length ≤ sm.1.length := fun s hs => by
    have := hm2 _ (List.mem_map.mpr ⟨s, hs, rfl⟩)
    omega
  have hp := hp _ hnB hmx
  generalize sm.1.length = n at *
  clear hm1 hm2 hsm
  -- the period
  refine as_cons (as_set 5 q_combined_streams.nd (ae_g G2 hr (by decide) (aa_cons (ae_lcP [("front", 3), ("loop", 4)] (fun i => .int (((ss.getD i ([], [])).2.length : Nat) : Int)) rfl q_combined_streams.nd (blkOk_by (N := n_combined_streams) (sc := defScope s_combined_streams) (by decide +kernel))
    (ai_lst ((v_ 0).val ⟨rfl, rfl⟩)) ?_ (by rw [List.length_map]; omega) (aa_nil (ak_nil ⟨rfl, ss.map fun s => s.2.length, ?_, ?_, ?_⟩))))))
  · intro i acc D hi s H C' cl fp
    have hi' : i < ss.length := by simpa using hi
    rw [getD_st hi']
    refine agw_tup rfl (agws_cons (agw_name 3 q_combined_streams.nd (agws_cons (agw_name 4 q_combined_streams.nd (agws_nil fun s H C' cl fp => ?_)))))
    refine aE.val (len_ (av_len m3 (v_ 4) .t)) ⟨?_, rfl⟩
    rw [List.getD_eq_getElem?_getD, List.getElem?_eq_getElem hi']
    rfl
  · rw [List.length_map, rng_map ss (fun s => (s.2.length : Int)) ([], [])]
    unfold iL nL
    simp only [List.map_map]
    rfl
  · intro n hn
    obtain ⟨s, hs, rfl⟩ := List.mem_map.mp hn
    exact List.length_pos_iff.mpr (hss s hs).1
  generalize lcmL (ss.map fun s => s.2.length) = p at *
  -- the items
  refine as_cons (as_set 6 q_combined_streams.nd (ae_lstC (aa_nil ⟨szb, fun q => ?_⟩)))
  refine as_cons (as_for (n := n + p) (fun i Γ M' => M' = (q, .lst (((List.range i).map (colF wd ss)).map .int)) :: M ∧ ∃ v3 v4 v7 v8 v9, Γ = [some (.lst (ss.map stV)), some (.str wd.str), some (.int (n : Int)), v3, v4, some (.int (p : Int)), some (.ptr q), v7, v8, v9]) PassesOwn.never rfl
    (ai_range1 m1 (aE.val (av_add (v_ 2) (v_ 5)) ⟨_, rfl, by omega, by omega, by omega, rfl, none, none, none, none, none, rfl⟩)) (fun _ _ _ _ _ => trivial) ?_ ?_)
  · rintro i Γ M' hi ⟨rfl, v3, v4, v7, v8, v9, rfl⟩
    refine ag_name 7 q_combined_streams.nd ?_
    refine as_lcP 8 [("stream", 9)] (fun j => .int (item (ss.getD j ([], [])) i)) rfl q_combined_streams.nd (blkOk_by (N := n_combined_streams) (sc := defScope s_combined_streams) (by decide +kernel)) (ai_lst ((v_ 0).val ⟨rfl, rfl⟩)) ?_ (by rw [List.length_map]; omega) ?_
    · intro j acc D hj s H C' cl fp
      have hj' : j < ss.length := by simpa using hj
      rw [getD_st hj']
      refine agw_name 9 q_combined_streams.nd fun s H C' cl fp => ?_
      refine ae_g G1 hr (by decide) (aa_cons ((v_ 9).val (aa_cons ((v_ 7).val (aa_nil (ak_nil ⟨rfl, ss[j], _, rfl, (hss _ (List.getElem_mem hj')).1, by omega, ?_⟩))))))
      rw [show ((0 : Int) + (i : Int)).toNat = i by omega, List.getD_eq_getElem?_getD, List.getElem?_eq_getElem hj']
      exact ⟨rfl, rfl⟩
    rw [List.length_map, rng_map ss (fun s => item s i) ([], [])]
    have fin : ∀ v : Int, v = colF wd ss i → ∃ (n0 : Nat) (xs : List Val), (((q, Cell.lst (((List.range i).map (colF wd ss)).map .int)) :: M : Mem))[n0]? = some (q, .lst xs) ∧ xs.length < sizeLine ∧ ((fun (_ : Val) (M' : Mem) => M' = (q, Cell.lst (((List.range (i + 1)).map (colF wd ss)).map .int)) :: M ∧ ∃ v3 v4 v7 v8 v9, ([some (.lst (ss.map stV)), some (.str wd.str), some (.int (n : Int)), v3, v4, some (.int (p : Int)), some (.ptr q), v7, v8, v9] : Gam) = [some (.lst (ss.map stV)), some (.str wd.str), some (.int (n : Int)), v3, v4, some (.int (p : Int)), some (.ptr q), v7, v8, v9]) .non (((q, Cell.lst (((List.range i).map (colF wd ss)).map .int)) :: M : Mem).set n0 (q, .lst (xs ++ [.int v])))) := fun v e => by
      subst e
      refine ⟨0, _, rfl, szl (by simp; omega), ?_, none, none, none, none, none, rfl⟩
      show (q, Cell.lst (_ ++ [Val.int (colF wd ss i)])) :: M = _
      rw [List.range_succ, List.map_append, List.map_append]
      rfl
    have l0 : 0 < (ss.map fun s => item s i).length := by rw [List.length_map]; exact hs0
    cases wd with
    | sum =>
      refine as_one (as_expr (ae_append (n0 := 0) (v_ 6) rfl (ae_if (at_cmp (v_ 1) s_ cmp_eqS ⟨fun _ => ae_sum m6 rfl ((v_ 8).val ⟨_, .self _, ?_⟩), fun h => absurd h (by decide +kernel)⟩))))
      obtain ⟨n0, xs, h1, h2, h3, _⟩ := fin (ss.map fun s => item s i).sum rfl
      exact ⟨n0, xs, h1, h2, h3, _, _, _, _, _, rfl⟩
    | least =>
      refine as_one (as_expr (ae_append (n0 := 0) (v_ 6) rfl (ae_if (at_cmp (v_ 1) s_ cmp_eqS ⟨fun h => absurd h (by decide +kernel), fun _ => ae_if (at_cmp (v_ 1) s_ cmp_eqS ⟨fun _ => ae_minL m5 rfl ((v_ 8).val ⟨_, .self _, l0, fun m h1 h2 => ?_⟩), fun h => absurd h (by decide +kernel)⟩)⟩))))
      obtain ⟨n0, xs, h1, h2, h3, _⟩ := fin m (min_is h1 h2)
      exact ⟨n0, xs, h1, h2, h3, _, _, _, _, _, rfl⟩
    | greatest =>
      refine as_one (as_expr (ae_append (n0 := 0) (v_ 6) rfl (ae_if (at_cmp (v_ 1) s_ cmp_eqS ⟨fun h => absurd h (by decide +kernel), fun _ => ae_if (at_cmp (v_ 1) s_ cmp_eqS ⟨fun h => absurd h (by decide +kernel), fun _ => ae_maxL m4 rfl ((v_ 8).val ⟨_, .self _, l0, fun m h1 h2 => ?_⟩)⟩)⟩))))
      obtain ⟨n0, xs, h1, h2, h3, _⟩ := fin m (max_is h1 h2)
      exact ⟨n0, xs, h1, h2, h3, _, _, _, _, _, rfl⟩
  · rintro Γ M' ⟨rfl, v3, v4, v7, v8, v9, rfl⟩
    refine as_one (as_ret (ae_tup (aa_cons (aE.val (av_tuple m2 (av_sliceL (v_ 6) ao_none (ao_some (v_ 2)) (.lst 0 rfl)) (.l (.self _))) (aa_cons (aE.val (av_tuple m2 (av_sliceL (v_ 6) (ao_some (v_ 2)) ao_none (.lst 0 rfl)) (.l (.self _))) (aa_nil ⟨szb, .drop (.ok ?_)⟩)))))))
    rw [cut_map, cut_map, cut_hi (by omega) (by simp; omega), cut_loN (by omega), Int.toNat_natCast]
    have e1 : ((List.range (n + p)).map (colF wd ss)).take n = (List.range n).map (colF wd ss) := by
      rw [← List.map_take, List.take_range, Nat.min_eq_left (by omega)]
    have e2 : ((List.range (n + p)).map (colF wd ss)).drop n = (List.range p).map fun i => colF wd ss (n + i) := by
      apply List.ext_getElem
      · simp
      · intro i h1 h2
        simp
    rw [e1, e2]
    exact hp
abbrev GCmb (P : Program) (w : World) (K : PySem.W.Frag) (mg : Str → Option Value) (base : Heap) : Prop := Gd P w K mg base 2 "combined_streams" [] fun ds _ => aCmb ds
end
end K09

namespace K09
open PySem L2 Ab Sm
/-! ### schedules -/
structure Lim (s : Stm) : Prop where
  l1 : s.1.length ≤ 12
  l2 : s.2.length ≤ 6
  ne : s.2 ≠ []
  a1 : ∀ v ∈ s.1, okI v
  a2 : ∀ v ∈ s.2, okI v
structure Sc where
  a : Int
  sp : Stm
  lv : Stm
def schF (S : Sc) : List (Str × Val) := [("own_arity", .int S.a), ("own_spine", stV S.sp), ("own_levels", stV S.lv)]
def scV (C : Addr) (S : Sc) : Val := .obj C (schF S)
structure GoodS (S : Sc) : Prop where
  a2 : 2 ≤ S.a
  a9 : S.a ≤ 9
  ns : NF S.sp
  ls : Lim S.sp
  nl : NF S.lv
  ll : Lim S.lv
  lf : item S.lv 0 ≠ 0
theorem item_mem {s : Stm} (hn : s.2 ≠ []) (i : Nat) : item s i ∈ s.1 ∨ item s i ∈ s.2 := by
  have hl : 0 < s.2.length := List.length_pos_iff.mpr hn
  by_cases h : i < s.1.length
  · left
    rw [item_lt h, gd_eq h]
    exact List.getElem_mem h
  · right
    rw [item_ge (by omega)]
    unfold lp
    rw [gd_eq (Nat.mod_lt _ hl)]
    exact List.getElem_mem _
theorem Lim.item {s : Stm} (h : Lim s) (i : Nat) : okI (item s i) := by
  rcases item_mem h.ne i with z | z
  · exact h.a1 _ z
  · exact h.a2 _ z
theorem GoodS.ext {S T : Sc} (hS : GoodS S) (hT : GoodS T) (ha : S.a = T.a) (h1 : ∀ i, item S.sp i = item T.sp i) (h2 : ∀ i, item S.lv i = item T.lv i) : S = T := by
  cases S
  cases T
  have e1 := uniq hS.ns hT.ns h1
  have e2 := uniq hS.nl hT.nl h2
  subst ha e1 e2
  rfl
structure Rs (K : PySem.W.Frag) (mg : Str → Option Value) (C : Addr) : Prop where
  cl : Cls K C
  nA : NoAttr K C "own_arity"
  nS : NoAttr K C "own_spine"
  nL : NoAttr K C "own_levels"
  gC : mg "Schedule" = some (.ref C)
structure Lm (mg : Str → Option Value) (t1 t2 t3 t4 : Tok) : Prop where
  f : mg "FRONT_LIMIT" = some (.int 12 t1)
  l : mg "LOOP_LIMIT" = some (.int 6 t2)
  b : mg "LABEL_LIMIT" = some (.int 1000000 t3)
  a : mg "ARITY_LIMIT" = some (.int 9 t4)
theorem look_a {S : Sc} : (schF S).lookup ("own_arity" : Str) = some (.int S.a) := by rfl
theorem look_s {S : Sc} : (schF S).lookup ("own_spine" : Str) = some (stV S.sp) := by rfl
theorem look_l {S : Sc} : (schF S).lookup ("own_levels" : Str) = some (stV S.lv) := by rfl
section
variable {P : Program} {w : World} {K : PySem.W.Frag} {mg : Str → Option Value} {base : Heap} {k : Nat} {f C : Addr} {t1 t2 t3 t4 : Tok}
/-! ### checked_stream -/
def aCs : ASp := fun ds M R => ∃ s : Stm, ds = [stV s] ∧ s.2 ≠ [] ∧ s.1.length ≤ 1000 ∧ s.2.length ≤ 1000 ∧ (nf s).1.length ≤ 12 ∧ (nf s).2.length ≤ 6 ∧ (∀ v ∈ (nf s).1 ++ (nf s).2, v ≤ 1000000) ∧ R (stV (nf s)) M
theorem b_checked_stream (L : Lm mg t1 t2 t3 t4) (G : GNf P w K mg base) (m3 : mg "len" = none) (m4 : mg "max" = none) : BodyOk P w K mg base 2 f n_checked_stream "checked_stream" (defScope s_checked_stream) (defBody s_checked_stream) aCs := by
  rintro cdv A outer s0 H E hr ds M R ⟨s, rfl, hn, h1, h2, h3, h4, h5, hp⟩
  have hu := hr.u64
  have hne := (nf_spec hn).nf.ne
  have hpos : 0 < (nf s).2.length := List.length_pos_iff.mpr hne
  refine as_cons (as_asg (ae_g G hr (by decide) (aa_cons ((av_ixT (v_ 0) i_ rfl).val (aa_cons ((av_ixT (v_ 0) i_ rfl).val (aa_nil (ak_nil ⟨rfl, s, rfl, hn, h1, h2, ag_tup rfl (ags_cons (ag_name 1 q_checked_stream.nd (ags_cons (ag_name 2 q_checked_stream.nd (ags_nil ?_)))))⟩))))))))
  refine as_cons (as_if (at_cmp (len_ (av_len m3 (v_ 1) .t)) (av_gint L.f) cmp_gt ⟨fun h => ?_, fun _ => as_nil ?_⟩))
  · rw [decide_eq_true_eq] at h
    omega
  refine as_cons (as_if (at_cmp (len_ (av_len m3 (v_ 2) .t)) (av_gint L.l) cmp_gt ⟨fun h => ?_, fun _ => as_nil ?_⟩))
  · rw [decide_eq_true_eq] at h
    omega
  refine as_cons (as_if (at_cmpM (ae_maxT m4 rfl hu (aE.val (av_catT (v_ 1) (v_ 2) (sz (by rw [List.length_map, List.length_map]; omega))) ⟨(nf s).1 ++ (nf s).2, by rw [List.map_append], by rw [List.length_append]; omega, fun m hm _ => (av_gint L.b).val ⟨_, cmp_gt, fun h => ?_, fun _ => as_nil ?_⟩⟩))))
  · rw [decide_eq_true_eq] at h
    have := h5 m hm
    omega
  exact as_one (as_ret (aE.val (av_tup (avs_cons (v_ 1) (avs_cons (v_ 2) avs_nil)) szb) (.ok hp)))
abbrev GCs (P : Program) (w : World) (K : PySem.W.Frag) (mg : Str → Option Value) (base : Heap) : Prop := Gd P w K mg base 3 "checked_stream" [] fun ds _ => aCs ds
/-! ### Schedule.is_stream, __init__ -/
def aIss : ASp := fun ds M R => ∃ s : Stm, ds = [stV s] ∧ Lim s ∧ R (.bl true) M
theorem b_is_stream (L : Lm mg t1 t2 t3 t4) (G : GItems P w K mg base) (m1 : mg "isinstance" = none) (m2 : mg "tuple" = none) (m3 : mg "len" = none) : BodyOk P w K mg base 2 f n_Schedule_is_stream "Schedule.is_stream" (defScope c_Schedule_is_stream) (defBody c_Schedule_is_stream) aIss := by
  rintro cdv A outer s0 H E hr ds M R ⟨s, rfl, hs, hp⟩
  have hpos : 0 < s.2.length := List.length_pos_iff.mpr hs.ne
  have q1 := hs.l1
  have q2 := hs.l2
  refine as_cons (as_if (at_w (aw_or (at_not (at_val (ae_isi m1 (v_ 0) (av_ty (T := "tuple") m2 (by decide +kernel)) (.ty "tuple") (.tup _) (kit_ty (by decide +kernel)) ⟨true, rfl, nft, fun _ => ?_⟩))))))
  refine aw_or1 (at_cmp (av_len m3 (v_ 0) .t) i_ cmp_neI ⟨nft, fun _ => as_nil ?_⟩)
  refine as_one (as_ret (ae_and (ae_g G hr (by decide) (aa_cons ((av_ixT (v_ 0) i_ rfl).val (aa_cons (i_.val (aa_cons ((av_gint L.f).val (aa_nil (ak_nil ⟨rfl, s.1, 0, 12, rfl, by omega, by omega, by decide, hs.a1, true, rfl, fun _ => ?_, ntf⟩)))))))))))
  exact ae_one (ae_g G hr (by decide) (aa_cons ((av_ixT (v_ 0) i_ rfl).val (aa_cons (i_.val (aa_cons ((av_gint L.l).val (aa_nil (ak_nil ⟨rfl, s.2, 1, 6, rfl, by omega, by omega, by decide, hs.a2, .ok hp⟩)))))))))
structure Cs (P : Program) (w : World) (K : PySem.W.Frag) (mg : Str → Option Value) (base : Heap) (C p g : Addr) : Prop where
  rd : ClX.CRead K C (.type "type")
  sm : SMet K C (.type "type") "is_stream" p g
  fx : FX P w K mg base 3 g fun ds _ => aIss ds
def aInitS (C : Addr) : ASp := fun ds M R => ∃ (p : Addr) (a : Int) (sp lv : Stm) (M0 : Mem), ds = [.ptr p, .int a, stV sp, stV lv] ∧ M = (p, .ins C []) :: M0 ∧ 2 ≤ a ∧ a ≤ 9 ∧ Lim sp ∧ Lim lv ∧ item lv 0 ≠ 0 ∧ R .non ((p, .ins C (schF ⟨a, nf sp, nf lv⟩)) :: M0)
theorem b_init {pS gS : Addr} (T : Rs K mg C) (L : Lm mg t1 t2 t3 t4) (G1 : GInt P w K mg base) (G2 : Cs P w K mg base C pS gS) (G3 : GItem P w K mg base) (G4 : GNf P w K mg base) :
    BodyOk P w K mg base 3 f n_Schedule___init__ "Schedule.__init__" (defScope c_Schedule___init__) (defBody c_Schedule___init__) (aInitS C) := by
  rintro cdv A outer s0 H E hr ds M R ⟨p, a, sp, lv, M0, rfl, rfl, ha2, ha9, hs, hl, h0, hp⟩
  have q1 := hs.l1
  have q2 := hs.l2
  have q3 := hl.l1
  have q4 := hl.l2
  refine as_cons (as_if (at_not (at_val (ae_g G1 hr (by decide) (aa_cons ((v_ 1).val (aa_nil (ak_cons (i_.val (ak_cons ((av_gint L.a).val (ak_nil ⟨rfl, rfl, a, some 2, some 9, rfl, true, ?_, nft, fun _ => as_nil ?_⟩))))))))))))
  · have e : within a (some 2) (some 9) = true := by simp [within]; omega
    rw [e]
  refine as_cons (as_if (at_not (at_val (ae_smeth G2.rd G2.sm G2.fx hr (ae_glob T.gC ⟨rfl, rfl⟩) (aa_cons ((v_ 2).val (aa_nil (ak_nil ⟨rfl, sp, rfl, hs, true, rfl, nft, fun _ => as_nil ?_⟩))))))))
  refine as_cons (as_if (at_not (at_val (ae_smeth G2.rd G2.sm G2.fx hr (ae_glob T.gC ⟨rfl, rfl⟩) (aa_cons ((v_ 3).val (aa_nil (ak_nil ⟨rfl, lv, rfl, hl, true, rfl, nft, fun _ => as_nil ?_⟩))))))))
  refine as_cons (as_if (at_cmpM (ae_g G3 hr (by decide) (aa_cons ((v_ 3).val (aa_cons (i_.val (aa_nil (ak_nil ⟨rfl, lv, 0, rfl, hl.ne, by decide, i_.val ⟨_, cmp_eqI, fun h => ?_, fun _ => as_nil ?_⟩⟩)))))))))
  · rw [decide_eq_true_eq] at h
    exact absurd h h0
  refine as_cons (as_fld T.cl T.nA ((v_ 1).val ((v_ 0).val ⟨0, p, _, rfl, rfl, Nat.le_of_ble_eq_true rfl, ?_⟩)))
  refine as_cons (as_fld T.cl T.nS (ae_g G4 hr (by decide) (aa_cons ((av_ixT (v_ 2) i_ rfl).val (aa_cons ((av_ixT (v_ 2) i_ rfl).val (aa_nil (ak_nil ⟨rfl, sp, rfl, hs.ne, by omega, by omega, (v_ 0).val ⟨0, p, _, rfl, rfl, Nat.le_of_ble_eq_true rfl, ?_⟩⟩))))))))
  refine as_one (as_fld T.cl T.nL (ae_g G4 hr (by decide) (aa_cons ((av_ixT (v_ 3) i_ rfl).val (aa_cons ((av_ixT (v_ 3) i_ rfl).val (aa_nil (ak_nil ⟨rfl, lv, rfl, hl.ne, by omega, by omega, (v_ 0).val ⟨0, p, _, rfl, rfl, Nat.le_of_ble_eq_true rfl, .ok ?_⟩⟩))))))))
  exact hp
structure Mks (P : Program) (w : World) (K : PySem.W.Frag) (mg : Str → Option Value) (base : Heap) (C : Addr) : Prop where
  ex : ∃ fi, Mk K C fi ∧ FnX P w K mg base 4 fi ["spine", "levels"] (spX K fun ds es M R => ds.length = 2 ∧ aInitS C (ds ++ es) M R)
/-- Schedule(a, spine=s, levels=l) -/
theorem ae_sch {X : Cx} {Γ : Gam} {M : Mem} {R : Val → Mem → Prop} {e e1 e2 : Expr} {p1 p2 p3 pos : Pos} {m : Nat} (T : Rs X.K X.mg C) (I : Mks X.prog X.w X.K X.mg X.base C) (hr : Rm m X.A) (hm : 5 ≤ m)
    (h : aE X e Γ M fun x M1 => aE X e1 Γ M1 fun y M2 => aE X e2 Γ M2 fun z M3 => ∃ a sp lv, x = .int a ∧ y = stV sp ∧ z = stV lv ∧ 2 ≤ a ∧ a ≤ 9 ∧ Lim sp ∧ Lim lv ∧ item lv 0 ≠ 0 ∧ R (scV C ⟨a, nf sp, nf lv⟩) M3)
    (hg : Gl X "Schedule" := by rfl) (he : starEach [e] X.env = (false, eval e X.env) :: starEach [] X.env := by rfl) : aE X (.Call (.Name "Schedule" p1) [e] [⟨some "spine", e1, p2⟩, ⟨some "levels", e2, p3⟩] pos) Γ M R := by
  obtain ⟨fi, mk, F⟩ := I.ex
  refine ae_frzO (ae_make mk F (hr.mono hm) T.gC (aa_cons (h.mono fun x M1 h1 => aa_nil (ak_cons (h1.mono fun y M2 h2 => ak_cons (h2.mono fun z M3 h3 => ak_nil ⟨rfl, fun p hn => ⟨rfl, ?_⟩⟩)))) he) hg rfl rfl (by decide) he (by rw [he]; rfl))
  obtain ⟨a, sp, lv, rfl, rfl, rfl, a2, a9, hs, hl, h0, hR⟩ := h3
  exact ⟨p, a, sp, lv, M3, rfl, rfl, a2, a9, hs, hl, h0, rfl, p, C, _, _, rfl, rfl, hR⟩
/-! ### made_schedule -/
def aMd (C : Addr) : ASp := fun ds M R => ∃ (a : Int) (s l : Stm), ds = [.int a, stV s, stV l] ∧ 2 ≤ a ∧ a ≤ 9 ∧ s.2 ≠ [] ∧ s.1.length ≤ 1000 ∧ s.2.length ≤ 1000 ∧ l.2 ≠ [] ∧ l.1.length ≤ 1000 ∧ l.2.length ≤ 1000 ∧ Lim (nf s) ∧ Lim (nf l) ∧ item l 0 ≠ 0 ∧ R (scV C ⟨a, nf s, nf l⟩) M
theorem Lim.top {s : Stm} (h : Lim s) : ∀ v ∈ s.1 ++ s.2, v ≤ 1000000 := fun v hv => by
  rcases List.mem_append.mp hv with z | z
  · exact (h.a1 v z).2
  · exact (h.a2 v z).2
theorem b_made_schedule (T : Rs K mg C) (I : Mks P w K mg base C) (G : GCs P w K mg base) : BodyOk P w K mg base 5 f n_made_schedule "made_schedule" (defScope s_made_schedule) (defBody s_made_schedule) (aMd C) := by
  rintro cdv A outer s0 H E hr ds M R ⟨a, s, l, rfl, a2, a9, h1, h2, h3, h4, h5, h6, ls, ll, h0, hp⟩
  have ns := nf_spec h1
  have nl := nf_spec h4
  refine as_cons (as_set 1 q_made_schedule.nd (ae_g G hr (by decide) (aa_cons ((v_ 1).val (aa_nil (ak_nil ⟨rfl, s, rfl, h1, h2, h3, ls.l1, ls.l2, ls.top, ?_⟩))))))
  refine as_one (as_ret (ae_sch T I hr (by decide) ((v_ 0).val ((v_ 1).val (ae_g G hr (by decide) (aa_cons ((v_ 2).val (aa_nil (ak_nil ⟨rfl, l, rfl, h4, h5, h6, ll.l1, ll.l2, ll.top, a, nf s, nf l, rfl, rfl, rfl, a2, a9, ls, ll, by rw [nl.it]; exact h0, .ok ?_⟩)))))))))
  rw [nf_nf ns.nf, nf_nf nl.nf]
  exact hp
abbrev GMd (P : Program) (w : World) (K : PySem.W.Frag) (mg : Str → Option Value) (base : Heap) (C : Addr) : Prop := Gd P w K mg base 6 "made_schedule" [] fun ds _ => aMd C ds
end
end K09

namespace K09
open PySem L2 Ab Sm
/-- a made schedule is good -/
theorem good_nf {a : Int} {s l : Stm} (a2 : 2 ≤ a) (a9 : a ≤ 9) (h1 : s.2 ≠ []) (h2 : l.2 ≠ []) (ls : Lim (nf s)) (ll : Lim (nf l)) (h0 : item l 0 ≠ 0) : GoodS ⟨a, nf s, nf l⟩ :=
  ⟨a2, a9, (nf_spec h1).nf, ls, (nf_spec h2).nf, ll, by rw [(nf_spec h2).it]; exact h0⟩
theorem lim_nf {s : Stm} (hn : s.2 ≠ []) (h1 : s.1.length ≤ 12) (h2 : s.2.length ≤ 6) (h3 : ∀ v ∈ s.1, okI v) (h4 : ∀ v ∈ s.2, okI v) : Lim (nf s) :=
  have q := nf_spec hn
  ⟨Nat.le_trans q.l1 h1, Nat.le_trans q.l2 h2, q.nf.ne, fun v hv => h3 v (q.m1 v hv), fun v hv => h4 v (q.m2 v hv)⟩
def mulS (m : Int) (s : Stm) : Stm := (s.1.map fun v => m * v, s.2.map fun v => m * v)
theorem mulS_item {m : Int} {s : Stm} (hn : s.2 ≠ []) (i : Nat) : item (mulS m s) i = m * item s i := by
  have hl : 0 < s.2.length := List.length_pos_iff.mpr hn
  have l1 : (mulS m s).1.length = s.1.length := by simp [mulS]
  have l2 : (mulS m s).2.length = s.2.length := by simp [mulS]
  by_cases h : i < s.1.length
  · rw [item_lt h, item_lt (by rw [l1]; exact h), gd_eq h, gd_eq (by rw [l1]; exact h)]
    simp [mulS]
  · rw [item_ge (s := s) (by omega), item_ge (by rw [l1]; omega), l1]
    unfold lp
    have hm := Nat.mod_lt (i - s.1.length) hl
    rw [l2, gd_eq hm, gd_eq (by rw [l2]; exact hm)]
    simp [mulS]
section
variable {P : Program} {w : World} {K : PySem.W.Frag} {mg : Str → Option Value} {base : Heap} {k : Nat} {f C : Addr} {t1 t2 t3 t4 : Tok}
theorem av_a {X : Cx} {Γ : Gam} {M : Mem} {e : Expr} {S : Sc} {pos : Pos} (T : Rs X.K X.mg C) (h : aV X e Γ M (scV C S)) (hb : attributeBase e "own_arity" X.env (eval e X.env) = eval e X.env := by rfl) : aV X (.Attribute e "own_arity" pos) Γ M (.int S.a) := av_fld T.cl T.nA h (.im _) look_a hb
theorem av_s {X : Cx} {Γ : Gam} {M : Mem} {e : Expr} {S : Sc} {pos : Pos} (T : Rs X.K X.mg C) (h : aV X e Γ M (scV C S)) (hb : attributeBase e "own_spine" X.env (eval e X.env) = eval e X.env := by rfl) : aV X (.Attribute e "own_spine" pos) Γ M (stV S.sp) := av_fld T.cl T.nS h (.im _) look_s hb
theorem av_l {X : Cx} {Γ : Gam} {M : Mem} {e : Expr} {S : Sc} {pos : Pos} (T : Rs X.K X.mg C) (h : aV X e Γ M (scV C S)) (hb : attributeBase e "own_levels" X.env (eval e X.env) = eval e X.env := by rfl) : aV X (.Attribute e "own_levels" pos) Γ M (stV S.lv) := av_fld T.cl T.nL h (.im _) look_l hb
/-! ### spine_at, level_at, arity -/
def aSat (C : Addr) : ASp := fun ds M R => ∃ (S : Sc) (i : Int), ds = [scV C S, .int i] ∧ GoodS S ∧ 0 ≤ i ∧ R (.int (item S.sp i.toNat)) M
def aLat (C : Addr) : ASp := fun ds M R => ∃ (S : Sc) (i : Int), ds = [scV C S, .int i] ∧ GoodS S ∧ 0 ≤ i ∧ R (.int (item S.lv i.toNat)) M
theorem b_spine_at (T : Rs K mg C) (G1 : GChk P w K mg base) (G2 : GItem P w K mg base) : BodyOk P w K mg base 2 f n_Schedule_spine_at "Schedule.spine_at" (defScope c_Schedule_spine_at) (defBody c_Schedule_spine_at) (aSat C) := by
  rintro cdv A outer s0 H E hr ds M R ⟨S, i, rfl, hS, h0, hp⟩
  refine as_cons (as_expr (ae_g G1 hr (by decide) (aa_cons ((v_ 1).val (aa_cons (i_.val (aa_nil (ak_nil ⟨rfl, rfl, i, 0, rfl, h0, ?_⟩))))))))
  exact as_one (as_ret (ae_g G2 hr (by decide) (aa_cons ((av_s T (v_ 0)).val (aa_cons ((v_ 1).val (aa_nil (ak_nil ⟨rfl, S.sp, i, rfl, hS.ns.ne, h0, .ok hp⟩))))))))
theorem b_level_at (T : Rs K mg C) (G1 : GChk P w K mg base) (G2 : GItem P w K mg base) : BodyOk P w K mg base 2 f n_Schedule_level_at "Schedule.level_at" (defScope c_Schedule_level_at) (defBody c_Schedule_level_at) (aLat C) := by
  rintro cdv A outer s0 H E hr ds M R ⟨S, i, rfl, hS, h0, hp⟩
  refine as_cons (as_expr (ae_g G1 hr (by decide) (aa_cons ((v_ 1).val (aa_cons (i_.val (aa_nil (ak_nil ⟨rfl, rfl, i, 0, rfl, h0, ?_⟩))))))))
  exact as_one (as_ret (ae_g G2 hr (by decide) (aa_cons ((av_l T (v_ 0)).val (aa_cons ((v_ 1).val (aa_nil (ak_nil ⟨rfl, S.lv, i, rfl, hS.nl.ne, h0, .ok hp⟩))))))))
def aAri (C : Addr) : ASp := fun ds M R => ∃ (S : Sc), ds = [scV C S] ∧ R (.int S.a) M
theorem b_arity (T : Rs K mg C) : BodyOk P w K mg base k f n_Schedule_arity "Schedule.arity" (defScope c_Schedule_arity) (defBody c_Schedule_arity) (aAri C) := by
  rintro cdv A outer s0 H E hr ds M R ⟨S, rfl, hp⟩
  exact as_one (as_ret ((av_a T (v_ 0)).val (.ok hp)))
/-! ### delayed, times -/
def aDel (C : Addr) : ASp := fun ds M R => ∃ (S : Sc) (n : Int), ds = [scV C S, .int n] ∧ GoodS S ∧ 0 ≤ n ∧ item S.sp 0 + n ≤ 1000000 ∧ ∀ S' : Sc, GoodS S' → S'.a = S.a → (∀ i, item S'.sp i = if i = 0 then item S.sp 0 + n else item S.sp i) → S'.lv = S.lv → R (scV C S') M
def aTim (C : Addr) : ASp := fun ds M R => ∃ (S : Sc) (m : Int), ds = [scV C S, .int m] ∧ GoodS S ∧ 1 ≤ m ∧ m ≤ 1000 ∧ (∀ i, m * item S.sp i ≤ 1000000 ∧ m * item S.lv i ≤ 1000000) ∧ ∀ S' : Sc, GoodS S' → S'.a = S.a → (∀ i, item S'.sp i = m * item S.sp i) → (∀ i, item S'.lv i = m * item S.lv i) → R (scV C S') M
/-- an item stands somewhere -/
theorem mem_item {s : Stm} {v : Int} (h : v ∈ s.1 ∨ v ∈ s.2) : ∃ i, item s i = v := by
  rcases h with h | h
  · obtain ⟨i, hi, rfl⟩ := List.getElem_of_mem h
    exact ⟨i, by rw [item_lt hi, gd_eq hi]⟩
  · obtain ⟨i, hi, rfl⟩ := List.getElem_of_mem h
    exact ⟨i + s.1.length, by rw [item_ge (by omega), Nat.add_sub_cancel, lp_lt hi, gd_eq hi]⟩
theorem mul_lim {s : Stm} {m : Int} (hs : Lim s) (h1 : 1 ≤ m) (h : ∀ i, m * item s i ≤ 1000000) : Lim (nf (mulS m s)) := by
  have key : ∀ v, (v ∈ s.1 ∨ v ∈ s.2) → okI v → okI (m * v) := fun v hv hok => by
    obtain ⟨i, rfl⟩ := mem_item hv
    exact ⟨Int.mul_nonneg (by omega) hok.1, h i⟩
  refine lim_nf (fun z => hs.ne ?_) (by simp [mulS]; exact hs.l1) (by simp [mulS]; exact hs.l2) (fun v hv => ?_) (fun v hv => ?_)
  · exact List.map_eq_nil_iff.mp z
  · obtain ⟨u, hu, rfl⟩ := List.mem_map.mp hv
    exact key u (.inl hu) (hs.a1 u hu)
  · obtain ⟨u, hu, rfl⟩ := List.mem_map.mp hv
    exact key u (.inr hu) (hs.a2 u hu)
theorem mul_ne {s : Stm} {m : Int} (hs : s.2 ≠ []) : (mulS m s).2 ≠ [] := fun z => hs (List.map_eq_nil_iff.mp z)
theorem b_times (T : Rs K mg C) (G1 : GChk P w K mg base) (G4 : GMd P w K mg base C) (m2 : mg "tuple" = none) : BodyOk P w K mg base 6 f n_Schedule_times "Schedule.times" (defScope c_Schedule_times) (defBody c_Schedule_times) (aTim C) := by
  rintro cdv A outer s0 H E hr ds M R ⟨S, m, rfl, hS, h1, h9, htop, hp⟩
  have q1 := hS.ls.l1
  have q2 := hS.ls.l2
  have q3 := hS.ll.l1
  have q4 := hS.ll.l2
  refine as_cons (as_expr (ae_g G1 hr (by decide) (aa_cons ((v_ 1).val (aa_cons (i_.val (aa_nil (ak_nil ⟨rfl, rfl, m, 1, rfl, h1, ?_⟩))))))))
  refine as_cons (as_set 2 q_Schedule_times.nd (ae_lstC (aa_nil ⟨szb, fun q => ?_⟩)))
  refine as_cons (as_for (fun i Γ M' => M' = (q, .lst (([S.sp, S.lv].take i).map fun s => stV (mulS m s))) :: M ∧ ∃ v3 v4 v5, Γ = [some (scV C S), some (.int m), some (.ptr q), v3, v4, v5]) PassesOwn.never rfl
    (ai_tup (aE.val (av_tup (avs_cons (av_s T (v_ 0)) (avs_cons (av_l T (v_ 0)) avs_nil)) szb) ⟨rfl, rfl, none, none, none, rfl⟩)) (fun _ _ _ _ _ => trivial) ?_ ?_)
  · rintro i Γ M' hi ⟨rfl, v3, v4, v5, rfl⟩
    rcases (show i = 0 ∨ i = 1 by have : i < 2 := hi; omega) with rfl | rfl
    · refine ag_tup rfl (ags_cons (ag_name 3 q_Schedule_times.nd (ags_cons (ag_name 4 q_Schedule_times.nd (ags_nil ?_)))))
      refine as_one (as_expr (ae_append (n0 := 0) (v_ 2) rfl (ae_tup (aa_cons (ae_tuple m2 (ae_lcP [("item", 5)] (fun j => .int (m * S.sp.1.getD j 0)) rfl q_Schedule_times.nd (blkOk_by (N := n_Schedule_times) (sc := defScope c_Schedule_times) (by decide +kernel)) (ai_tup ((v_ 3).val ⟨rfl, rfl⟩)) ?_ (by rw [List.length_map]; omega) ⟨_, .l (.self _), ?_⟩))))))
      · intro j acc D hj s H C' cl fp
        have hj' : j < S.sp.1.length := by simpa using hj
        rw [getD_int hj']
        refine agw_name 5 q_Schedule_times.nd fun s H C' cl fp => ?_
        refine aE.val (av_mul (v_ 1) (v_ 5) (.inl ⟨by omega, by omega⟩)) ⟨?_, rfl⟩
        rw [gd_eq hj']
      rw [List.length_map, rng_map S.sp.1 (fun v => m * v) 0]
      refine aa_cons (ae_tuple m2 (ae_lcP [("item", 5)] (fun j => .int (m * S.sp.2.getD j 0)) rfl q_Schedule_times.nd (blkOk_by (N := n_Schedule_times) (sc := defScope c_Schedule_times) (by decide +kernel)) (ai_tup ((v_ 4).val ⟨rfl, rfl⟩)) ?_ (by rw [List.length_map]; omega) ⟨_, .l (.self _), ?_⟩))
      · intro j acc D hj s H C' cl fp
        have hj' : j < S.sp.2.length := by simpa using hj
        rw [getD_int hj']
        refine agw_name 5 q_Schedule_times.nd fun s H C' cl fp => ?_
        refine aE.val (av_mul (v_ 1) (v_ 5) (.inl ⟨by omega, by omega⟩)) ⟨?_, rfl⟩
        rw [gd_eq hj']
      rw [List.length_map, rng_map S.sp.2 (fun v => m * v) 0]
      exact aa_nil ⟨szb, 0, _, rfl, szl (Nat.le_of_ble_eq_true rfl), rfl, _, _, _, rfl⟩
    · refine ag_tup rfl (ags_cons (ag_name 3 q_Schedule_times.nd (ags_cons (ag_name 4 q_Schedule_times.nd (ags_nil ?_)))))
      refine as_one (as_expr (ae_append (n0 := 0) (v_ 2) rfl (ae_tup (aa_cons (ae_tuple m2 (ae_lcP [("item", 5)] (fun j => .int (m * S.lv.1.getD j 0)) rfl q_Schedule_times.nd (blkOk_by (N := n_Schedule_times) (sc := defScope c_Schedule_times) (by decide +kernel)) (ai_tup ((v_ 3).val ⟨rfl, rfl⟩)) ?_ (by rw [List.length_map]; omega) ⟨_, .l (.self _), ?_⟩))))))
      · intro j acc D hj s H C' cl fp
        have hj' : j < S.lv.1.length := by simpa using hj
        rw [getD_int hj']
        refine agw_name 5 q_Schedule_times.nd fun s H C' cl fp => ?_
        refine aE.val (av_mul (v_ 1) (v_ 5) (.inl ⟨by omega, by omega⟩)) ⟨?_, rfl⟩
        rw [gd_eq hj']
      rw [List.length_map, rng_map S.lv.1 (fun v => m * v) 0]
      refine aa_cons (ae_tuple m2 (ae_lcP [("item", 5)] (fun j => .int (m * S.lv.2.getD j 0)) rfl q_Schedule_times.nd (blkOk_by (N := n_Schedule_times) (sc := defScope c_Schedule_times) (by decide +kernel)) (ai_tup ((v_ 4).val ⟨rfl, rfl⟩)) ?_ (by rw [List.length_map]; omega) ⟨_, .l (.self _), ?_⟩))
      · intro j acc D hj s H C' cl fp
        have hj' : j < S.lv.2.length := by simpa using hj
        rw [getD_int hj']
        refine agw_name 5 q_Schedule_times.nd fun s H C' cl fp => ?_
        refine aE.val (av_mul (v_ 1) (v_ 5) (.inl ⟨by omega, by omega⟩)) ⟨?_, rfl⟩
        rw [gd_eq hj']
      rw [List.length_map, rng_map S.lv.2 (fun v => m * v) 0]
      exact aa_nil ⟨szb, 0, _, rfl, szl (Nat.le_of_ble_eq_true rfl), rfl, _, _, _, rfl⟩
  · rintro Γ M' ⟨rfl, v3, v4, v5, rfl⟩
    have ls := mul_lim hS.ls h1 fun i => (htop i).1
    have ll := mul_lim hS.ll h1 fun i => (htop i).2
    have ns := mul_ne (m := m) hS.ns.ne
    have nl := mul_ne (m := m) hS.nl.ne
    have h0 : item (mulS m S.lv) 0 ≠ 0 := by
      rw [mulS_item hS.nl.ne]
      have := hS.lf
      intro z
      rcases Int.mul_eq_zero.mp z with z | z
      · omega
      · exact this z
    refine as_one (as_ret (ae_g G4 hr (by decide) (aa_cons ((av_a T (v_ 0)).val (aa_cons ((av_ixL (v_ 2) i_ (.lst 0 rfl) rfl).val (aa_cons ((av_ixL (v_ 2) i_ (.lst 0 rfl) rfl).val (aa_nil (ak_nil ⟨rfl, S.a, mulS m S.sp, mulS m S.lv, rfl, hS.a2, hS.a9, ns, by simp [mulS]; omega, by simp [mulS]; omega, nl, by simp [mulS]; omega, by simp [mulS]; omega, ls, ll, h0, .drop (.ok ?_)⟩))))))))))
    refine hp _ (good_nf hS.a2 hS.a9 ns nl ls ll h0) rfl (fun i => ?_) (fun i => ?_)
    · rw [← mulS_item hS.ns.ne]
      exact (nf_spec ns).it i
    · rw [← mulS_item hS.nl.ne]
      exact (nf_spec nl).it i
end
end K09

namespace K09
open PySem L2 Ab Sm
/-! ### == of schedules -/
theorem toD_st (s : Stm) : toD (stV s) = some (.tuple [.tuple (s.1.map PyData.int), .tuple (s.2.map PyData.int)]) := by
  refine toD_tup ?_
  unfold toDs
  rw [show toD (iT s.1) = some (.tuple (s.1.map PyData.int)) from toD_tup (toDs_ints s.1)]
  show ((toDs [iT s.2]).map fun ds => PyData.tuple (s.1.map PyData.int) :: ds) = _
  unfold toDs
  rw [show toD (iT s.2) = some (.tuple (s.2.map PyData.int)) from toD_tup (toDs_ints s.2)]
  rfl
theorem shaped_st (s : Stm) : SeqAt.shaped (.tuple [.tuple (s.1.map PyData.int), .tuple (s.2.map PyData.int)]) = true := by
  simp [SeqAt.shaped, PyData.canLay0, PyData.canLayAll0, PyData.depth, PyData.depthAll, lay_ints, dep_ints]
theorem eqv_st (s t : Stm) : PyData.eqv (.tuple [.tuple (s.1.map PyData.int), .tuple (s.2.map PyData.int)]) (.tuple [.tuple (t.1.map PyData.int), .tuple (t.2.map PyData.int)]) = decide (s = t) := by
  simp only [PyData.eqv, PyData.eqvAll, eqv_ints, Bool.and_true]
  obtain ⟨a, b⟩ := s
  obtain ⟨c, d⟩ := t
  simp [Prod.mk.injEq]
theorem cmp_eqST {X : Cx} {M : Mem} {s t : Stm} (hu : X.A.units + 64 < cLine) : Cmp X .Eq M (stV s) (stV t) (decide (s = t)) := by
  have h := cmp_eqD (X := X) (M := M) (.self (stV s)) (.self (stV t)) (toD_st s) (toD_st t) (shaped_st s) (shaped_st t) hu
  rw [eqv_st] at h
  exact h
noncomputable def relS (fs gs : List (Str × Val)) : Bool := @decide (fs = gs) (Classical.propDecidable _)
def goodF (fs : List (Str × Val)) : Prop := ∃ S : Sc, fs = schF S ∧ GoodS S
theorem iT_inj {xs ys : List Int} (h : iT xs = iT ys) : xs = ys := by
  unfold iT at h
  have h2 : xs.map Val.int = ys.map Val.int := by injection h
  exact List.map_inj_right (fun a b e => by injection e) |>.mp h2
theorem stV_inj {s t : Stm} (h : stV s = stV t) : s = t := by
  unfold stV at h
  have h2 : [iT s.1, iT s.2] = [iT t.1, iT t.2] := by injection h
  have h3 := (List.cons.inj h2).1
  have h4 := (List.cons.inj (List.cons.inj h2).2).1
  exact Prod.ext (iT_inj h3) (iT_inj h4)
theorem schF_inj {S T : Sc} (h : schF S = schF T) : S = T := by
  unfold schF at h
  have h1 := (List.cons.inj h).1
  have h2 := (List.cons.inj (List.cons.inj h).2).1
  have h3 := (List.cons.inj (List.cons.inj (List.cons.inj h).2).2).1
  have e1 : Val.int S.a = Val.int T.a := (Prod.mk.inj h1).2
  have e2 := stV_inj (Prod.mk.inj h2).2
  have e3 := stV_inj (Prod.mk.inj h3).2
  cases S
  cases T
  cases e1
  simp only at e2 e3
  subst e2 e3
  rfl
theorem rel_eq {S T : Sc} (h : S = T) : relS (schF S) (schF T) = true := by
  unfold relS
  exact @decide_eq_true _ (Classical.propDecidable _) (by rw [h])
theorem rel_ne {S T : Sc} (h : S ≠ T) : relS (schF S) (schF T) = false := by
  unfold relS
  exact @decide_eq_false _ (Classical.propDecidable _) fun z => h (schF_inj z)
/-- what isinstance asks of the class -/
structure Isi (K : PySem.W.Frag) (C : Addr) : Prop where
  c1 : PySem.W.findIn K (.ref C) "__class__" = some (some (.builtin "object.__class__"))
  c2 : PySem.W.specialIn K (.builtin "object.__class__") "__get__" = some (some (.builtin "getset_descriptor.__get__"))
  c3 : PySem.W.takesIn K (.builtin "object.__class__") = some true
  c4 : PySem.W.mroIn K C (.type "object") = some true
  c5 : PySem.W.kitOne K (.ref C) (.ref C) = some true
section
variable {P : Program} {w : World} {K : PySem.W.Frag} {mg : Str → Option Value} {base : Heap} {k : Nat} {f C : Addr} {t1 t2 t3 t4 : Tok}
theorem ty_sc {M : Mem} {S : Sc} (T : Rs K mg C) (I : Isi K C) : TyV K M (scV C S) (.ref C) := .ob (.im _) T.cl I.c1 I.c2 I.c3 I.c4
def aEqS (C : Addr) : ASp := fun ds M R => ∃ fs gs, ds = [.obj C fs, .obj C gs] ∧ goodF fs ∧ goodF gs ∧ R (.bl (relS fs gs)) M
theorem b_eq (T : Rs K mg C) (I : Isi K C) (m1 : mg "isinstance" = none) : BodyOk P w K mg base k f n_Schedule___eq__ "Schedule.__eq__" (defScope c_Schedule___eq__) (defBody c_Schedule___eq__) (aEqS C) := by
  rintro cdv A outer s0 H E hr ds M R ⟨fs, gs, rfl, ⟨S, rfl, hS⟩, ⟨S', rfl, hS'⟩, hp⟩
  have hu := hr.u64
  refine as_cons (as_if (at_w (aw_or (at_not (at_val (ae_isi m1 (d1 := scV C S') (v_ 1) (ae_glob T.gC ⟨rfl, rfl⟩) (.own C) (ty_sc T I) I.c5 ⟨true, rfl, nft, fun _ => ?_⟩))))))
  have v0 : ∀ {X : Cx} {Γ : Gam} {M : Mem} {e : Expr}, aV X e Γ M (.obj C (schF S)) → aV X e Γ M (scV C S) := fun h => h
  have v1 : ∀ {X : Cx} {Γ : Gam} {M : Mem} {e : Expr}, aV X e Γ M (.obj C (schF S')) → aV X e Γ M (scV C S') := fun h => h
  by_cases ha : S.a = S'.a
  · refine aw_or1 (at_cmp (av_a T (v0 (v_ 0))) (av_a T (v1 (v_ 1))) cmp_neI ⟨fun h => ?_, fun _ => as_nil ?_⟩)
    · rw [decide_eq_true ha] at h
      exact absurd h (by decide)
    refine as_one (as_ret (ae_and (ae_cmp (av_s T (v0 (v_ 0))) (av_s T (v1 (v_ 1))) (cmp_eqST hu) ⟨_, rfl, fun h => ?_, fun h => .ok ?_⟩)))
    · rw [decide_eq_true_eq] at h
      refine ae_one (ae_cmp (av_l T (v0 (v_ 0))) (av_l T (v1 (v_ 1))) (cmp_eqST hu) (.ok ?_))
      by_cases hl : S.lv = S'.lv
      · rw [decide_eq_true hl]
        have e : S = S' := by
          cases S
          cases S'
          simp only at ha h hl
          subst ha h hl
          rfl
        rw [rel_eq e] at hp
        exact hp
      · rw [decide_eq_false hl]
        rw [rel_ne (S := S) (T := S') fun z => hl (by rw [z])] at hp
        exact hp
    · rw [decide_eq_false_iff_not] at h
      rw [rel_ne (S := S) (T := S') fun z => h (by rw [z])] at hp
      exact hp
  · refine aw_or1 (at_cmp (av_a T (v0 (v_ 0))) (av_a T (v1 (v_ 1))) cmp_neI ⟨fun _ => ?_, fun h => ?_⟩)
    · refine as_one (as_ret (ae_bl (.ok ?_)))
      rw [rel_ne (S := S) (T := S') fun z => ha (by rw [z])] at hp
      exact hp
    · rw [decide_eq_false ha] at h
      exact absurd h (by decide)
/-! ### combined_schedules -/
end
/-- six items on, from the twelfth -/
def P6 (s : Stm) : Prop := ∀ i, 12 ≤ i → item s (i + 6) = item s i
theorem nf_dvd {s : Stm} (h : NF s) {q N : Nat} (hq : ∀ i, N ≤ i → item s (i + q) = item s i) : s.2.length ∣ q := by
  have hp : 0 < s.2.length := List.length_pos_iff.mpr h.ne
  have per : ∀ i, lp s.2 (i + q) = lp s.2 i := fun i => by
    have hN : N ≤ s.2.length * N := Nat.le_mul_of_pos_left _ hp
    have a := hq (i + s.2.length * N + s.1.length) (by omega)
    rw [item_ge (by omega), item_ge (by omega), Nat.add_sub_cancel, show i + s.2.length * N + s.1.length + q - s.1.length = i + q + s.2.length * N by omega, per_mul (fun i => lp_add (l := s.2) i), per_mul (fun i => lp_add (l := s.2) i)] at a
    exact a
  have g := per_gcd _ _ (fun i => lp_add (l := s.2) i) per
  have e := prim_per h.ne h.pr (Nat.gcd_pos_of_pos_left _ hp) (Nat.gcd_dvd_left _ _) g
  rw [← e]
  exact Nat.gcd_dvd_right _ _
theorem P6.dvd {s : Stm} (h : P6 s) (hn : NF s) : s.2.length ∣ 6 := nf_dvd hn h
theorem p6_of {s : Stm} (h : Lim s) (hd : s.2.length ∣ 6) : P6 s := fun i hi => item_per hd (Nat.le_trans h.l1 hi)
/-- what the caller must know of the result -/
structure Cb (wd : Wd) (Ss : List Sc) : Prop where
  ne : Ss ≠ []
  ln : Ss.length ≤ 100
  gd : ∀ S ∈ Ss, GoodS S
  ar : ∀ S ∈ Ss, ∀ S' ∈ Ss, S.a = S'.a
  l6 : (∃ q, 0 < q ∧ q ≤ 6 ∧ ∀ S ∈ Ss, S.sp.2.length ∣ q) ∧ ∃ q, 0 < q ∧ q ≤ 6 ∧ ∀ S ∈ Ss, S.lv.2.length ∣ q
  ts : ∀ i, okI (colF wd (Ss.map Sc.sp) i)
  tl : ∀ i, okI (colF wd (Ss.map Sc.lv) i)
  l0 : colF wd (Ss.map Sc.lv) 0 ≠ 0
def aCbs (C : Addr) : ASp := fun ds M R => ∃ (Ss : List Sc) (wd : Wd), ds = [.tup (Ss.map (scV C)), .str wd.str] ∧ Cb wd Ss ∧
  ∀ S' : Sc, GoodS S' → (∀ S ∈ Ss, S'.a = S.a) → (∀ i, item S'.sp i = colF wd (Ss.map Sc.sp) i) → (∀ i, item S'.lv i = colF wd (Ss.map Sc.lv) i) → R (scV C S') M
theorem getD_sc {C : Addr} {Ss : List Sc} {i : Nat} (h : i < Ss.length) : (Ss.map (scV C)).getD i .non = scV C Ss[i] := by
  rw [List.getD_eq_getElem?_getD, List.getElem?_map, List.getElem?_eq_getElem h]
  rfl
/-- the streams put together are within the limits -/
theorem cmb_ok {wd : Wd} {ss : List Stm} {n q : Nat} (q0 : 0 < q) (q6 : q ≤ 6) (hn : n ≤ 12) (hmx : ∀ s ∈ ss, s.1.length ≤ n) (hl : ∀ s ∈ ss, s.2.length ∣ q) (hok : ∀ i, okI (colF wd ss i)) :
    (cmb (colF wd ss) n (lcmL (ss.map fun s => s.2.length))).2 ≠ [] ∧ Lim (nf (cmb (colF wd ss) n (lcmL (ss.map fun s => s.2.length)))) ∧ (∀ i, item (cmb (colF wd ss) n (lcmL (ss.map fun s => s.2.length))) i = colF wd ss i) ∧ lcmL (ss.map fun s => s.2.length) ≤ 6 := by
  have hd : lcmL (ss.map fun s => s.2.length) ∣ q := dvd_lcmL fun m hm => by
    obtain ⟨s, hs, rfl⟩ := List.mem_map.mp hm
    exact hl s hs
  have h6 : lcmL (ss.map fun s => s.2.length) ≤ 6 := Nat.le_trans (Nat.le_of_dvd q0 hd) q6
  have h0 : 0 < lcmL (ss.map fun s => s.2.length) := Nat.pos_of_dvd_of_pos hd q0
  have hne : (cmb (colF wd ss) n (lcmL (ss.map fun s => s.2.length))).2 ≠ [] := fun z => by
    have := congrArg List.length z
    simp [cmb] at this
    omega
  refine ⟨hne, lim_nf hne (by simp [cmb]; exact hn) (by simp [cmb]; exact h6) (fun v hv => ?_) (fun v hv => ?_), fun i => cmb_item h0 (fun i hi => ?_) i, h6⟩
  · obtain ⟨i, _, rfl⟩ := List.mem_map.mp hv
    exact hok i
  · obtain ⟨i, _, rfl⟩ := List.mem_map.mp hv
    exact hok _
  · unfold colF
    congr 1
    refine List.map_congr_left fun s hs => ?_
    exact item_per (lcmL_dvd (List.mem_map.mpr ⟨s, hs, rfl⟩)) (Nat.le_trans (hmx s hs) hi)
section
variable {P : Program} {w : World} {K : PySem.W.Frag} {mg : Str → Option Value} {base : Heap} {k : Nat} {f C : Addr} {t1 t2 t3 t4 : Tok}
theorem cmb_l1 {F : Nat → Int} {n p : Nat} : (cmb F n p).1.length = n := by simp [cmb]
theorem cmb_l2 {F : Nat → Int} {n p : Nat} : (cmb F n p).2.length = p := by simp [cmb]
theorem le6 (ss : List Stm) {q : Nat} (q0 : 0 < q) (q6 : q ≤ 6) (h : ∀ s ∈ ss, s.2 ≠ [] ∧ s.1.length ≤ 12 ∧ s.2.length ∣ q) : lcmL (ss.map fun s => s.2.length) ≤ 6 := by
  refine Nat.le_trans (Nat.le_of_dvd q0 (dvd_lcmL fun m hm => ?_)) q6
  obtain ⟨s, hs, rfl⟩ := List.mem_map.mp hm
  exact (h s hs).2.2
theorem sc_map {Ss : List Sc} (g : Sc → Val) : (List.range Ss.length).map (fun i => g (Ss.getD i ⟨0, ([], []), ([], [])⟩)) = Ss.map g := by
  apply List.ext_getElem
  · simp
  · intro i h1 h2
    have hi : i < Ss.length := by simpa using h1
    simp [List.getD_eq_getElem?_getD, List.getElem?_eq_getElem hi]
theorem b_combined_schedules (T : Rs K mg C) (I : Isi K C) (G1 : GCmb P w K mg base) (G2 : GMd P w K mg base C) (m1 : mg "isinstance" = none) (m2 : mg "enumerate" = none) (m3 : mg "len" = none) (m4 : mg "max" = none) (m5 : mg "min" = none) :
    BodyOk P w K mg base 6 f n_combined_schedules "combined_schedules" (defScope s_combined_schedules) (defBody s_combined_schedules) (aCbs C) := by
  rintro cdv A outer s0 H E hr ds M R ⟨Ss, wd, rfl, hc, hp⟩
  have hl : 0 < Ss.length := List.length_pos_iff.mpr hc.ne
  have hln := hc.ln
  have hd : ∀ {i : Nat} (h : i < Ss.length), Ss.getD i ⟨0, ([], []), ([], [])⟩ = Ss[i] := fun h => by
    rw [List.getD_eq_getElem?_getD, List.getElem?_eq_getElem h]
    rfl
  refine as_cons (as_if (at_cmp (av_len m3 (v_ 0) .t) i_ cmp_eqI ⟨fun h => ?_, fun _ => as_nil ?_⟩))
  · rw [decide_eq_true_eq, List.length_map] at h
    omega
  refine as_cons (as_for (fun i Γ M' => M' = M ∧ ∃ v2 v3, Γ = [some (.tup (Ss.map (scV C))), some (.str wd.str), v2, v3, none, none]) PassesOwn.never rfl (ai_enumT m2 ((v_ 0).val ⟨rfl, rfl, none, none, rfl⟩)) (fun _ _ _ _ _ => trivial) ?_ ?_)
  · rintro i Γ M' hi ⟨rfl, v2, v3, rfl⟩
    have hi' : i < Ss.length := by simpa using hi
    rw [getD_sc hi']
    refine ag_tup rfl (ags_cons (ag_name 2 q_combined_schedules.nd (ags_cons (ag_name 3 q_combined_schedules.nd (ags_nil ?_)))))
    exact as_one (as_if (at_not (at_val (ae_isi m1 (v_ 3) (ae_glob T.gC ⟨rfl, rfl⟩) (.own C) (ty_sc T I) I.c5 ⟨true, rfl, nft, fun _ => as_nil ⟨rfl, _, _, rfl⟩⟩))))
  rintro Γ M' ⟨rfl, v2, v3, rfl⟩
  have e_ar : ∀ m : Int, m ∈ Ss.map Sc.a → m = Ss[0].a := fun m hm => by
    obtain ⟨S, hS, rfl⟩ := List.mem_map.mp hm
    exact hc.ar S hS _ (List.getElem_mem hl)
  have ea : (List.range (Ss.map (scV C)).length).map (fun i => Val.int (Ss.getD i ⟨0, ([], []), ([], [])⟩).a) = (Ss.map Sc.a).map Val.int := by
    rw [List.length_map, sc_map (fun S => Val.int S.a), List.map_map]
    rfl
  have es : (List.range (Ss.map (scV C)).length).map (fun i => stV (Ss.getD i ⟨0, ([], []), ([], [])⟩).sp) = (Ss.map Sc.sp).map stV := by
    rw [List.length_map, sc_map (fun S => stV S.sp), List.map_map]
    rfl
  have el : (List.range (Ss.map (scV C)).length).map (fun i => stV (Ss.getD i ⟨0, ([], []), ([], [])⟩).lv) = (Ss.map Sc.lv).map stV := by
    rw [List.length_map, sc_map (fun S => stV S.lv), List.map_map]
    rfl
  have l1 : 0 < (Ss.map Sc.a).length := by rw [List.length_map]; exact hl
  refine as_cons (as_if (at_cmpM (ae_maxL m4 rfl (ae_lcP [("schedule", 3)] (fun i => .int (Ss.getD i ⟨0, ([], []), ([], [])⟩).a) rfl q_combined_schedules.nd (blkOk_by (N := n_combined_schedules) (sc := defScope s_combined_schedules) (by decide +kernel)) (ai_tup ((v_ 0).val ⟨rfl, rfl⟩)) ?_ (by rw [List.length_map]; omega) ⟨Ss.map Sc.a, by rw [ea]; exact .self _, l1, fun m hm _ => ?_⟩))))
  · intro i acc D hi s H C' cl fp
    have hi' : i < Ss.length := by simpa using hi
    rw [getD_sc hi', hd hi']
    refine agw_name 3 q_combined_schedules.nd fun s H C' cl fp => ?_
    exact aE.val (av_a T (v_ 3)) ⟨rfl, rfl⟩
  refine ae_minL m5 rfl (ae_lcP [("schedule", 3)] (fun i => .int (Ss.getD i ⟨0, ([], []), ([], [])⟩).a) rfl q_combined_schedules.nd (blkOk_by (N := n_combined_schedules) (sc := defScope s_combined_schedules) (by decide +kernel)) (ai_tup ((v_ 0).val ⟨rfl, rfl⟩)) ?_ (by rw [List.length_map]; omega) ⟨Ss.map Sc.a, by rw [ea]; exact .self _, l1, fun m' hm' _ => ⟨_, cmp_neI, fun h => ?_, fun _ => as_nil ?_⟩⟩)
  · intro i acc D hi s H C' cl fp
    have hi' : i < Ss.length := by simpa using hi
    rw [getD_sc hi', hd hi']
    refine agw_name 3 q_combined_schedules.nd fun s H C' cl fp => ?_
    exact aE.val (av_a T (v_ 3)) ⟨rfl, rfl⟩
  · rw [e_ar m hm, e_ar m' hm', decide_eq_true rfl] at h
    exact absurd h (by decide)
  obtain ⟨⟨q1, q10, q16, qd1⟩, q2, q20, q26, qd2⟩ := hc.l6
  have hs6 : ∀ s ∈ Ss.map Sc.sp, s.2 ≠ [] ∧ s.1.length ≤ 12 ∧ s.2.length ∣ q1 := fun s hs => by
    obtain ⟨S, hS, rfl⟩ := List.mem_map.mp hs
    exact ⟨(hc.gd S hS).ns.ne, (hc.gd S hS).ls.l1, qd1 S hS⟩
  have hl6 : ∀ s ∈ Ss.map Sc.lv, s.2 ≠ [] ∧ s.1.length ≤ 12 ∧ s.2.length ∣ q2 := fun s hs => by
    obtain ⟨S, hS, rfl⟩ := List.mem_map.mp hs
    exact ⟨(hc.gd S hS).nl.ne, (hc.gd S hS).ll.l1, qd2 S hS⟩
  refine as_cons (as_set 4 q_combined_schedules.nd (ae_g G1 hr (by decide) (aa_cons (ae_lcP [("schedule", 3)] (fun i => stV (Ss.getD i ⟨0, ([], []), ([], [])⟩).sp) rfl q_combined_schedules.nd (blkOk_by (N := n_combined_schedules) (sc := defScope s_combined_schedules) (by decide +kernel)) (ai_tup ((v_ 0).val ⟨rfl, rfl⟩)) ?_ (by rw [List.length_map]; omega) (aa_cons ((v_ 1).val (aa_nil (ak_nil ⟨rfl, Ss.map Sc.sp, wd, 12, by rw [es], by simpa using hc.ne, by rw [List.length_map]; exact hln, fun s hs => ⟨(hs6 s hs).1, (hs6 s hs).2.1⟩, by decide, Nat.le_trans (le6 _ q10 q16 hs6) (by decide), fun n hn hmx => ?_⟩))))))))
  · intro i acc D hi s H C' cl fp
    have hi' : i < Ss.length := by simpa using hi
    rw [getD_sc hi', hd hi']
    refine agw_name 3 q_combined_schedules.nd fun s H C' cl fp => ?_
    exact aE.val (av_s T (v_ 3)) ⟨rfl, rfl⟩
  refine as_cons (as_set 5 q_combined_schedules.nd (ae_g G1 hr (by decide) (aa_cons (ae_lcP [("schedule", 3)] (fun i => stV (Ss.getD i ⟨0, ([], []), ([], [])⟩).lv) rfl q_combined_schedules.nd (blkOk_by (N := n_combined_schedules) (sc := defScope s_combined_schedules) (by decide +kernel)) (ai_tup ((v_ 0).val ⟨rfl, rfl⟩)) ?_ (by rw [List.length_map]; omega) (aa_cons ((v_ 1).val (aa_nil (ak_nil ⟨rfl, Ss.map Sc.lv, wd, 12, by rw [el], by simpa using hc.ne, by rw [List.length_map]; exact hln, fun s hs => ⟨(hl6 s hs).1, (hl6 s hs).2.1⟩, by decide, Nat.le_trans (le6 _ q20 q26 hl6) (by decide), fun n' hn' hmx' => ?_⟩))))))))
  · intro i acc D hi s H C' cl fp
    have hi' : i < Ss.length := by simpa using hi
    rw [getD_sc hi', hd hi']
    refine agw_name 3 q_combined_schedules.nd fun s H C' cl fp => ?_
    exact aE.val (av_l T (v_ 3)) ⟨rfl, rfl⟩
  obtain ⟨n1, lim1, it1, p1⟩ := cmb_ok q10 q16 hn hmx (fun s hs => (hs6 s hs).2.2) hc.ts
  obtain ⟨n2, lim2, it2, p2⟩ := cmb_ok q20 q26 hn' hmx' (fun s hs => (hl6 s hs).2.2) hc.tl
  have g0 := hc.gd _ (List.getElem_mem hl)
  have h00 : item (cmb (colF wd (Ss.map Sc.lv)) n' (lcmL ((Ss.map Sc.lv).map fun s => s.2.length))) 0 ≠ 0 := by rw [it2]; exact hc.l0
  have at00 : atI (Ss.map (scV C)) 0 = some (scV C Ss[0]) := by
    refine atI_nat (j := 0) ?_
    rw [List.getElem?_map, List.getElem?_eq_getElem hl]
    rfl
  refine as_one (as_ret (ae_g G2 hr (by decide) (aa_cons ((av_a T (av_ixT (v_ 0) i_ at00)).val (aa_cons ((v_ 4).val (aa_cons ((v_ 5).val (aa_nil (ak_nil ⟨rfl, Ss[0].a, _, _, rfl, g0.a2, g0.a9, n1, by rw [cmb_l1]; omega, by rw [cmb_l2]; omega, n2, by rw [cmb_l1]; omega, by rw [cmb_l2]; omega, lim1, lim2, h00, .ok ?_⟩))))))))))
  refine hp _ (good_nf g0.a2 g0.a9 n1 n2 lim1 lim2 h00) (fun S hS => (hc.ar _ (List.getElem_mem hl) S hS)) (fun i => ?_) (fun i => ?_)
  · rw [← it1]
    exact (nf_spec n1).it i
  · rw [← it2]
    exact (nf_spec n2).it i
abbrev GCbs (P : Program) (w : World) (K : PySem.W.Frag) (mg : Str → Option Value) (base : Heap) (C : Addr) : Prop := Gd P w K mg base 7 "combined_schedules" [] fun ds _ => aCbs C ds
/-- total, least, greatest -/
def aWd (C : Addr) (wd : Wd) : ASp := fun ds M R => ∃ (Ss : List Sc), ds = [.tup (Ss.map (scV C))] ∧ Cb wd Ss ∧
  ∀ S' : Sc, GoodS S' → (∀ S ∈ Ss, S'.a = S.a) → (∀ i, item S'.sp i = colF wd (Ss.map Sc.sp) i) → (∀ i, item S'.lv i = colF wd (Ss.map Sc.lv) i) → R (scV C S') M
theorem b_total (G : GCbs P w K mg base C) : BodyOk P w K mg base 7 f n_total "total" (defScope s_total) (defBody s_total) (aWd C .sum) := by
  rintro cdv A outer s0 H E hr ds M R ⟨Ss, rfl, hc, hp⟩
  exact as_one (as_ret (ae_g G hr (by decide) (aa_cons ((v_ 0).val (aa_cons (s_.val (aa_nil (ak_nil ⟨rfl, Ss, .sum, rfl, hc, fun S' h1 h2 h3 h4 => .ok (hp S' h1 h2 h3 h4)⟩))))))))
end
end K09

namespace Ab
open PySem PySem.Spec PyProof.Rows L2
section
variable {X : Cx} {Γ : Gam} {M : Mem} {P : Val → Mem → Prop} {e a b c o : Expr} {es : List Expr} {kws : List Keyword} {pos p1 p2 apos kpos : Pos} {d : Val} {i j l : Int} {x m : Str} {n : Nat} {f C : Addr} {ks : List Str} {sx : ASx}
/-- o.m(..), o any expression -/
theorem ae_methM {pl : Sem Bool} (c : Cls X.K C) (hm : Meth X.K C m f) (F : FnX X.prog X.w X.K X.mg X.base n f ks (spX X.K sx)) (hr : Rm n X.A)
    (h : aE X o Γ M fun d M0 => ∃ fs, Ob M0 C d fs ∧ fs.lookup m = none ∧ aA X (e :: es) Γ M0 fun ds M1 => aKw X kws Γ M1 fun zs M2 => zs.length = ks.length ∧ sx (d :: ds) zs M2 P)
    (hall : (backToKw pos (keywordEach kws X.env)).all (·.1.isSome) = true := by rfl) (hks : (backToKw pos (keywordEach kws X.env)).filterMap (·.1) = ks := by rfl)
    (he : starEach (e :: es) X.env = (false, eval e X.env) :: starEach es X.env := by rfl) (hpl : ((backTo pos (starEach (e :: es) X.env)).any (·.1) || (backToKw pos (keywordEach kws X.env)).any (·.1.isNone)) = false := by rfl)
    (ht : eval (.Call (.Attribute o m apos) (e :: es) kws pos) X.env = (do
      let ov ← eval o X.env
      standAt apos.atName
      let (f, first) ← holding [ov] (getMethod ov m pl)
      callWith pos f first (backTo pos (starEach (e :: es) X.env)) (backToKw pos (keywordEach kws X.env))) := by rfl) : aE X (.Call (.Attribute o m apos) (e :: es) kws pos) Γ M P := fun Hi H σ ok en Q q => by
  refine ⟨fun σ H Q => WE X o σ H fun x H0 => ∃ a dx fs, x = .ref a ∧ H0 a = some (.ins C dx fs) ∧ fs.lookup m = none ∧ WA X (e :: es) σ H0 fun vs H1 => WK X kws σ H1 fun zs H2 => zs.length = ks.length ∧ spX X.K sx (x :: vs) zs H2 Q, ⟨fun pins s σ H Q I h => ?_⟩, ?_⟩
  · refine PySem.W.methodCall_KW (pl := pl) (thn (pe_we.run pins s σ H _ I h) fun u s1 ⟨x, H1, I1, rx, a, dx, fs, ex, ea, l, q⟩ => ?_) ht
    subst ex
    obtain rfl : u = Value.ref a := rx
    refine getmeth_ok I1 ea c hm l ?_
    refine PySem.W.callWith_KW (first := [.ref a]) (h₀ := X.base) I.ok.mod.kin hm.kp hall (thn (pa_wa.run pos pins s1 σ H1 _ I1 q) fun us s2 ⟨vs, H2, I2, r, q2⟩ => ?_) hpl he
    refine thn (pk_wk.run pos pins s2 σ H2 _ I2 q2) fun ws s3 ⟨zs, H3, I3, rz, l2, q3⟩ => ⟨I3.kIn, ?_⟩
    rw [hks]
    exact run_x (us := .ref a :: us) (vs := .ref a :: vs) F hr I3 (.cons rfl r) rz l2 q3
  · refine h Hi H σ ok en _ fun x M0 v0 Hi0 H0 h0 s0 ok0 r0 => ?_
    obtain ⟨fs, hob, hl, h⟩ := h0
    obtain ⟨p, dx, gs, rfl, hp, rf⟩ := hob.rep ok0 r0
    refine ⟨p, dx, gs, rfl, hp, rf.none hl, ?_⟩
    refine h Hi0 H0 σ ok0 (en.mono s0) _ fun ds M1 vs Hi1 H1 h1 s1 ok1 r1 => ?_
    refine h1 Hi1 H1 σ ok1 (en.mono (s0.trans s1)) _ fun zs M2 ws Hi2 H2 h2 s2 ok2 r2 => ?_
    exact ⟨r2.length.symm.trans h2.1, Hi2, M2, _ :: ds, zs, P, .cons (r0.mono (s1.trans s2)) (r1.mono s2), r2, ok2, h2.2, q.up ((s0.trans s1).trans s2)⟩
/-- min(a, b, c) -/
theorem av_min3 (hm : X.mg "min" = none) (hc : X.calm = true) (ha : aV X a Γ M (.int i)) (hb : aV X b Γ M (.int j)) (hcc : aV X c Γ M (.int l)) (hg : Gl X "min" := by rfl)
    (hs : starEach [a, b, c] X.env = (false, eval a X.env) :: starEach [b, c] X.env := by rfl) (hs2 : starEach [b, c] X.env = (false, eval b X.env) :: starEach [c] X.env := by rfl) (hs3 : starEach [c] X.env = (false, eval c X.env) :: starEach [] X.env := by rfl) (hpl : (backTo pos (starEach [b, c] X.env)).any (·.1) = false := by rfl) :
    aV X (.Call (.Name "min" p1) [a, b, c] [] pos) Γ M (.int (if l < (if j < i then j else i) then l else (if j < i then j else i))) :=
  ae_callB (call_min3Nu hc) hm (by decide +kernel) (aa_cons (ha.val (aa_cons (hb.val (aa_cons (hcc.val (aa_nil fun Hi H vs ok r Q q => by
    cases r with
    | cons r1 r2 =>
      cases r2 with
      | cons r2 r3 =>
        cases r3 with
        | cons r3 r4 =>
          cases r4
          cases r1
          cases r2
          cases r3
          refine ⟨_, _, _, .int (if l < (if j < i then j else i) then l else (if j < i then j else i)), rfl, ?_, q _ _ _ Hi H ⟨rfl, rfl⟩ (Same.refl _) ok (.int _)⟩
          have e2 : ∀ u v : Int, nuMin2 (.int u) (.int v) = some (.int (if v < u then v else u)) := fun u v => by
            show (some (decide (v < u))).map (fun c => if c = true then V.int v else V.int u) = _
            by_cases h : v < u
            · simp [h]
            · simp [h]
          show (nuMin2 (.int i) (.int j)).bind (fun m => nuMin2 m (.int l)) = _
          rw [e2, Option.bind_some, e2])) hs3)) hs2)) hs) hg (he := hs) (hpl := hpl)
end
end Ab

namespace Ab
open PySem PySem.Spec PyProof.Rows L2
/-! ### tests by a plain Prop -/
section
variable {X : Cx} {Γ : Gam} {M : Mem} {P : Val → Mem → Prop} {e a b c o : Expr} {es : List Expr} {pos p1 p2 apos kpos : Pos} {k : AK} {d d1 d2 d3 : Val} {i j l : Int} {x y m : Str} {n : Nat} {f C : Addr} {p q : Prop}
def TP (X : Cx) (c : Expr) (Γ : Gam) (M : Mem) (p : Prop) : Prop := ∃ b : Bool, aB X c Γ M b ∧ (b = true ↔ p)
def WP (X : Cx) (c : Expr) (Γ : Gam) (M : Mem) (p : Prop) : Prop := ∃ b : Bool, (aW X c Γ M fun x M' => x = b ∧ M' = M) ∧ (b = true ↔ p)
def VP (X : Cx) (c : Expr) (Γ : Gam) (M : Mem) (p : Prop) : Prop := ∃ b : Bool, aV X c Γ M (.bl b) ∧ (b = true ↔ p)
def CP (X : Cx) (op : CmpOp) (M : Mem) (x y : Val) (p : Prop) : Prop := ∃ b : Bool, Cmp X op M x y b ∧ (b = true ↔ p)
theorem cp_lt : CP X .Lt M (.int i) (.int j) (i < j) := ⟨_, cmp_lt, decide_eq_true_iff⟩
theorem cp_le : CP X .LtE M (.int i) (.int j) (i ≤ j) := ⟨_, cmp_le, decide_eq_true_iff⟩
theorem cp_gt : CP X .Gt M (.int i) (.int j) (j < i) := ⟨_, cmp_gt, decide_eq_true_iff⟩
theorem cp_ge : CP X .GtE M (.int i) (.int j) (j ≤ i) := ⟨_, cmp_ge, decide_eq_true_iff⟩
theorem cp_eq : CP X .Eq M (.int i) (.int j) (i = j) := ⟨_, cmp_eqI, decide_eq_true_iff⟩
theorem cp_ne : CP X .NotEq M (.int i) (.int j) (i ≠ j) := ⟨_, cmp_neI, by simp⟩
theorem cp_eqS {x y : Str} : CP X .Eq M (.str x) (.str y) (x = y) := ⟨_, cmp_eqS, decide_eq_true_iff⟩
theorem cp_neS {x y : Str} : CP X .NotEq M (.str x) (.str y) (x ≠ y) := ⟨_, cmp_neS, by simp⟩
theorem cp_isN : CP X .Is M d .non (d.isN = true) := ⟨_, cmp_isN, Iff.rfl⟩
theorem cp_notN : CP X .IsNot M d .non (d.isN = false) := ⟨_, cmp_notN, by cases d.isN <;> simp⟩
theorem cp_of {op : CmpOp} {x y : Val} {b : Bool} (h : Cmp X op M x y b) : CP X op M x y (b = true) := ⟨b, h, Iff.rfl⟩
theorem cp_eqL {ns ms : List Int} (v1 : Vw M d1 (.lst (ns.map .int))) (v2 : Vw M d2 (.lst (ms.map .int))) (hu : X.A.units + 64 < cLine) : CP X .Eq M d1 d2 (ns = ms) := ⟨_, cmp_eqLI v1 v2 hu, decide_eq_true_iff⟩
theorem cp_neL {ns ms : List Int} (v1 : Vw M d1 (.lst (ns.map .int))) (v2 : Vw M d2 (.lst (ms.map .int))) (hu : X.A.units + 64 < cLine) : CP X .NotEq M d1 d2 (ns ≠ ms) := ⟨_, cmp_neLI v1 v2 hu, by simp⟩
theorem cp_eqT {ns ms : List Int} (hu : X.A.units + 64 < cLine) : CP X .Eq M (.tup (ns.map .int)) (.tup (ms.map .int)) (ns = ms) := ⟨_, cmp_eqTI hu, decide_eq_true_iff⟩
theorem cp_neT {ns ms : List Int} (hu : X.A.units + 64 < cLine) : CP X .NotEq M (.tup (ns.map .int)) (.tup (ms.map .int)) (ns ≠ ms) := ⟨_, cmp_neTI hu, by simp⟩
theorem tp_cmp {op : CmpOp} (ha : aV X a Γ M d1) (hb : aV X b Γ M d2) (hc : CP X op M d1 d2 p) (hm : behindInMarks op b = false := by first | exact nomark _ | rfl) : TP X (.Compare a [op] [b] pos) Γ M p := by
  obtain ⟨k, h, i⟩ := hc
  exact ⟨k, at_cmp ha hb h ⟨rfl, rfl⟩ hm, i⟩
theorem vp_cmp {op : CmpOp} (ha : aV X a Γ M d1) (hb : aV X b Γ M d2) (hc : CP X op M d1 d2 p) (hm : behindInMarks op b = false := by first | exact nomark _ | rfl) : VP X (.Compare a [op] [b] pos) Γ M p := by
  obtain ⟨k, h, i⟩ := hc
  exact ⟨k, ae_cmp ha hb h ⟨rfl, rfl⟩ hm, i⟩
theorem tp_chain {op op' : CmpOp} (ha : aV X a Γ M d1) (hb : aV X b Γ M d2) (hc : aV X c Γ M d3) (h1 : CP X op M d1 d2 p) (h2 : CP X op' M d2 d3 q) (hm : lastMarks [op, op'] [b, c] = false := by with_unfolding_all rfl) : TP X (.Compare a [op, op'] [b, c] pos) Γ M (p ∧ q) := by
  obtain ⟨k1, h1, i1⟩ := h1
  obtain ⟨k2, h2, i2⟩ := h2
  exact ⟨k1 && k2, at_chain ha hb hc h1 h2 ⟨rfl, rfl⟩ hm, by rw [Bool.and_eq_true, i1, i2]⟩
theorem vp_chain {op op' : CmpOp} (ha : aV X a Γ M d1) (hb : aV X b Γ M d2) (hc : aV X c Γ M d3) (h1 : CP X op M d1 d2 p) (h2 : CP X op' M d2 d3 q) (hm : lastMarks [op, op'] [b, c] = false := by with_unfolding_all rfl) : VP X (.Compare a [op, op'] [b, c] pos) Γ M (p ∧ q) := by
  obtain ⟨k1, h1, i1⟩ := h1
  obtain ⟨k2, h2, i2⟩ := h2
  exact ⟨k1 && k2, ae_chain ha hb hc h1 h2 ⟨rfl, rfl⟩ hm, by rw [Bool.and_eq_true, i1, i2]⟩
theorem tp_not (h : TP X a Γ M p) : TP X (.UnaryOp .Not a pos) Γ M (¬ p) := by
  obtain ⟨b, h, i⟩ := h
  exact ⟨!b, at_not (h.val ⟨rfl, rfl⟩), by rw [← i]; cases b <;> simp⟩
theorem vp_not (h : VP X a Γ M p) : VP X (.UnaryOp .Not a pos) Γ M (¬ p) := by
  obtain ⟨b, h, i⟩ := h
  exact ⟨!b, ae_not (h.val ⟨_, rfl, rfl, rfl⟩), by rw [← i]; cases b <;> simp⟩
theorem tp_val {k : Bool} (h : aV X e Γ M (.bl k)) (he : ∀ whole, isTrue e X.env whole = (do let v ← whole; standAt e.pos; holding [v] (truthy v)) := by intro _; rfl) : TP X e Γ M (k = true) := ⟨k, at_val (h.val ⟨_, rfl, rfl, rfl⟩) he, Iff.rfl⟩
theorem tp_vp (h : VP X e Γ M p) (he : ∀ whole, isTrue e X.env whole = (do let v ← whole; standAt e.pos; holding [v] (truthy v)) := by intro _; rfl) : TP X e Γ M p := by
  obtain ⟨k, h, i⟩ := h
  exact ⟨k, at_val (h.val ⟨_, rfl, rfl, rfl⟩) he, i⟩
theorem vp_val {k : Bool} (h : aV X e Γ M (.bl k)) : VP X e Γ M (k = true) := ⟨k, h, Iff.rfl⟩
theorem tp_w (h : WP X e Γ M p) : TP X e Γ M p := by
  obtain ⟨k, h, i⟩ := h
  exact ⟨k, at_w h, i⟩
theorem wp_and1 (h : TP X a Γ M p) : WP X (.BoolOp .And [a] pos) Γ M p := by
  obtain ⟨k, h, i⟩ := h
  exact ⟨k, aw_and1 h, i⟩
theorem wp_or1 (h : TP X a Γ M p) : WP X (.BoolOp .Or [a] pos) Γ M p := by
  obtain ⟨k, h, i⟩ := h
  exact ⟨k, aw_or1 h, i⟩
theorem wp_and {rest : List Expr} (h : TP X a Γ M p) (h2 : p → WP X (.BoolOp .And (b :: rest) pos) Γ M q) : WP X (.BoolOp .And (a :: b :: rest) pos) Γ M (p ∧ q) := by
  obtain ⟨k, h, i⟩ := h
  cases k with
  | true =>
    obtain ⟨k2, h2, i2⟩ := h2 (i.mp rfl)
    exact ⟨k2, aw_and (h.val ⟨fun _ => h2, fun z => nomatch z⟩), by rw [i2]; exact ⟨fun z => ⟨i.mp rfl, z⟩, fun z => z.2⟩⟩
  | false => exact ⟨false, aw_and (h.val ⟨(fun z => nomatch z), fun _ => ⟨rfl, rfl⟩⟩), ⟨(fun z => nomatch z), fun z => i.mpr z.1⟩⟩
theorem wp_or {rest : List Expr} (h : TP X a Γ M p) (h2 : ¬ p → WP X (.BoolOp .Or (b :: rest) pos) Γ M q) : WP X (.BoolOp .Or (a :: b :: rest) pos) Γ M (p ∨ q) := by
  obtain ⟨k, h, i⟩ := h
  cases k with
  | false =>
    have np : ¬ p := fun z => Bool.false_ne_true (i.mpr z)
    obtain ⟨k2, h2, i2⟩ := h2 np
    exact ⟨k2, aw_or (h.val ⟨(fun z => nomatch z), fun _ => h2⟩), by rw [i2]; exact ⟨.inr, fun z => z.resolve_left np⟩⟩
  | true => exact ⟨true, aw_or (h.val ⟨fun _ => ⟨rfl, rfl⟩, fun z => nomatch z⟩), ⟨fun _ => .inl (i.mp rfl), fun _ => rfl⟩⟩
theorem vp_one {op} (h : VP X a Γ M p) : VP X (.BoolOp op [a] pos) Γ M p := by
  obtain ⟨k, h, i⟩ := h
  exact ⟨k, ae_one h, i⟩
theorem vp_and {rest : List Expr} (h : VP X a Γ M p) (h2 : p → VP X (.BoolOp .And (b :: rest) pos) Γ M q) : VP X (.BoolOp .And (a :: b :: rest) pos) Γ M (p ∧ q) := by
  obtain ⟨k, h, i⟩ := h
  cases k with
  | true =>
    obtain ⟨k2, h2, i2⟩ := h2 (i.mp rfl)
    exact ⟨k2, ae_and (h.val ⟨_, rfl, fun _ => h2, fun z => nomatch z⟩), by rw [i2]; exact ⟨fun z => ⟨i.mp rfl, z⟩, fun z => z.2⟩⟩
  | false => exact ⟨false, ae_and (h.val ⟨_, rfl, (fun z => nomatch z), fun _ => ⟨rfl, rfl⟩⟩), ⟨(fun z => nomatch z), fun z => i.mpr z.1⟩⟩
theorem vp_or {rest : List Expr} (h : VP X a Γ M p) (h2 : ¬ p → VP X (.BoolOp .Or (b :: rest) pos) Γ M q) : VP X (.BoolOp .Or (a :: b :: rest) pos) Γ M (p ∨ q) := by
  obtain ⟨k, h, i⟩ := h
  cases k with
  | false =>
    have np : ¬ p := fun z => Bool.false_ne_true (i.mpr z)
    obtain ⟨k2, h2, i2⟩ := h2 np
    exact ⟨k2, ae_or (h.val ⟨_, rfl, (fun z => nomatch z), fun _ => h2⟩), by rw [i2]; exact ⟨.inr, fun z => z.resolve_left np⟩⟩
  | true => exact ⟨true, ae_or (h.val ⟨_, rfl, fun _ => ⟨rfl, rfl⟩, fun z => nomatch z⟩), ⟨fun _ => .inl (i.mp rfl), fun _ => rfl⟩⟩
theorem TP.iff {q : Prop} (h : TP X c Γ M p) (e : p ↔ q) : TP X c Γ M q := by
  obtain ⟨k, h, i⟩ := h
  exact ⟨k, h, i.trans e⟩
theorem VP.iff {q : Prop} (h : VP X c Γ M p) (e : p ↔ q) : VP X c Γ M q := by
  obtain ⟨k, h, i⟩ := h
  exact ⟨k, h, i.trans e⟩
theorem VP.out [Decidable p] (h : VP X c Γ M p) : aV X c Γ M (.bl (decide p)) := by
  obtain ⟨k, h, i⟩ := h
  have e : k = decide p := by
    cases k with
    | true => exact (decide_eq_true (i.mp rfl)).symm
    | false => exact (decide_eq_false fun z => Bool.false_ne_true (i.mpr z)).symm
  rw [← e]
  exact h
theorem VP.tt (h : VP X c Γ M p) (hp : p) : aV X c Γ M (.bl true) := by
  obtain ⟨k, h, i⟩ := h
  rw [← i.mpr hp]
  exact h
theorem VP.ff (h : VP X c Γ M p) (hp : ¬ p) : aV X c Γ M (.bl false) := by
  obtain ⟨k, h, i⟩ := h
  cases k with
  | true => exact absurd (i.mp rfl) hp
  | false => exact h
theorem as_ifp {s1 s2 : List Stmt} (h : TP X c Γ M p) (h1 : p → aSs X s1 Γ M k) (h2 : ¬ p → aSs X s2 Γ M k) : aS X (.If c s1 s2 pos) Γ M k := by
  obtain ⟨b, h, i⟩ := h
  exact as_if (h.val ⟨fun z => h1 (i.mp z), fun z => h2 fun y => by rw [i.mpr y] at z; cases z⟩)
theorem ae_ifp (h : TP X c Γ M p) (h1 : p → aE X a Γ M P) (h2 : ¬ p → aE X b Γ M P) : aE X (.IfExp c a b pos) Γ M P := by
  obtain ⟨b, h, i⟩ := h
  exact ae_if (h.val ⟨fun z => h1 (i.mp z), fun z => h2 fun y => by rw [i.mpr y] at z; cases z⟩)
theorem av_ifI [Decidable p] (h : TP X c Γ M p) (h1 : p → aV X a Γ M (.int i)) (h2 : ¬ p → aV X b Γ M (.int j)) : aV X (.IfExp c a b pos) Γ M (.int (if p then i else j)) := by
  refine ae_ifp h (fun z => ?_) fun z => ?_
  · rw [if_pos z]
    exact h1 z
  · rw [if_neg z]
    exact h2 z
/-! ### slots forgotten -/
def Le : Gam → Gam → Prop
  | [], [] => True
  | none :: a, _ :: b => Le a b
  | some d :: a, e :: b => e = some d ∧ Le a b
  | _, _ => False
theorem Le.spec : ∀ {A B : Gam}, Le A B → A.length = B.length ∧ ∀ (i : Nat) (d : Val), A[i]? = some (some d) → B[i]? = some (some d)
  | [], [], _ => ⟨rfl, fun i d h => by simp at h⟩
  | none :: a, x :: b, h => by
    obtain ⟨h1, h2⟩ := Le.spec (A := a) (B := b) h
    refine ⟨by simp [h1], fun i d q => ?_⟩
    cases i with
    | zero => simp at q
    | succ i => exact h2 i d (by simpa using q)
  | some d :: a, e :: b, h => by
    obtain ⟨rfl, h⟩ := h
    obtain ⟨h1, h2⟩ := Le.spec (A := a) (B := b) h
    refine ⟨by simp [h1], fun i d' q => ?_⟩
    cases i with
    | zero => simpa using q
    | succ i => exact h2 i d' (by simpa using q)
  | [], _ :: _, h => h.elim
  | none :: _, [], h => h.elim
  | some _ :: _, [], h => h.elim
theorem Le.env {K : PySem.W.Frag} {H : Hp} {Γ Γ' : Gam} {σ : L2.St} (h : Le Γ' Γ) (en : EnvR K H Γ σ) : EnvR K H Γ' σ := en.drop h.spec.1 h.spec.2
theorem Le.refl : ∀ {Γ : Gam}, Le Γ Γ
  | [] => trivial
  | none :: a => Le.refl (Γ := a)
  | some d :: a => ⟨rfl, Le.refl (Γ := a)⟩
theorem as_le {Γ' : Gam} {s : List Stmt} (l : Le Γ' Γ) (h : aSs X s Γ' M k) : aSs X s Γ M k := fun Hi H σ ok en D q => h Hi H σ ok (l.env en) D q
theorem as1_le {Γ' : Gam} {s : Stmt} (l : Le Γ' Γ) (h : aS X s Γ' M k) : aS X s Γ M k := fun Hi H σ ok en D q => h Hi H σ ok (l.env en) D q
/-- cells forgotten -/
theorem as_sub {M' : Mem} {s : List Stmt} (l : M'.Sublist M) (h : aSs X s Γ M' k) : aSs X s Γ M k := fun Hi H σ ok en D q => h Hi H σ (ok.sub l) en D q
theorem as_wk {Γ' : Gam} {M' : Mem} {s : List Stmt} (l : Le Γ' Γ) (l2 : M'.Sublist M) (h : aSs X s Γ' M' k) : aSs X s Γ M k := as_le l (as_sub l2 h)
theorem ae_sub {M' : Mem} (l : M'.Sublist M) (h : aE X e Γ M' P) : aE X e Γ M P := fun Hi H σ ok en Q q => h Hi H σ (ok.sub l) en Q q
theorem Le.trans : ∀ {A B C : Gam}, Le A B → Le B C → Le A C
  | [], [], C, _, h => h
  | none :: a, x :: b, [], _, h => by cases x <;> exact h.elim
  | none :: a, none :: b, y :: c, h1, h2 => Le.trans (A := a) (B := b) (C := c) h1 h2
  | none :: a, some x :: b, y :: c, h1, h2 => Le.trans (A := a) (B := b) (C := c) h1 h2.2
  | some d :: a, e :: b, [], h1, h2 => by cases e <;> exact h2.elim
  | some d :: a, e :: b, y :: c, h1, h2 => by
    obtain ⟨rfl, h1⟩ := h1
    exact ⟨h2.1, Le.trans (A := a) (B := b) (C := c) h1 h2.2⟩
  | [], _ :: _, _, h, _ => h.elim
  | none :: _, [], _, h, _ => h.elim
  | some _ :: _, [], _, h, _ => h.elim
/-- a loop whose invariant forgets slots and cells -/
abbrev Wk (I : Gam → Mem → Prop) : Gam → Mem → Prop := fun Γ M => ∃ Γ' M', I Γ' M' ∧ Le Γ' Γ ∧ M'.Sublist M
theorem Wk.mono {I : Gam → Mem → Prop} {Γ Γ' : Gam} {M M' : Mem} (l : Le Γ' Γ) (l2 : M'.Sublist M) (h : Wk I Γ' M') : Wk I Γ M := by
  obtain ⟨Γ0, M0, h, a, b⟩ := h
  exact ⟨Γ0, M0, h, a.trans l, b.trans l2⟩
theorem le_nil : Le [] [] := trivial
theorem le_skip {a b : Gam} {x : Option Val} (h : Le a b) : Le (none :: a) (x :: b) := h
theorem le_keep {a b : Gam} {d d' : Val} (e : d' = d) (h : Le a b) : Le (some d :: a) (some d' :: b) := ⟨congrArg some e, h⟩
theorem as_forW {tg iter : Expr} {body : List Stmt} (hp : PassesOwn (model X.prog X.w) X.A X.env X.xe) (hc : X.calm = true)
    (hi : aJ X tg iter Γ M fun n it M1 => ∃ I : Nat → Gam → Mem → Prop, Wk (I 0) Γ M1 ∧ (∀ i Γ M, i < n → I i Γ M → aG X tg (it i) Γ M fun Γ2 M2 => aSs X body Γ2 M2 { k with nx := Wk (I (i + 1)), ct := Wk (I (i + 1)), bk := k.nx }) ∧ ∀ Γ M, I n Γ M → k.nx Γ M)
    (hk : ∀ Γ Γ' M M', Le Γ' Γ → M'.Sublist M → k.nx Γ' M' → k.nx Γ M := by intro _ _ _ _ l l2 h; first | exact as_wk l l2 h | exact Wk.mono l l2 h)
    (hf : ∀ x, foldedSetIterable iter X.env x = pure x := by intro _; rfl) : aS X (.For tg iter body [] pos) Γ M k :=
  as_forJ hp hc (fun Hi H σ ok en R' q => hi Hi H σ ok en R' fun J n it M1 Hi1 H1 ⟨I, h0, hs, hd⟩ => q J n it M1 Hi1 H1 ⟨fun i => Wk (I i), h0, fun i Γ' M' hi' ⟨Γ0, M0, h, l, l2⟩ => fun Hi H σ v ok en r Q q => hs i Γ0 M0 hi' h Hi H σ v (ok.sub l2) (l.env en) r Q q, fun Γ' M' ⟨Γ0, M0, h, l, l2⟩ => hk _ _ _ _ l l2 (hd Γ0 M0 h)⟩) hf
theorem as_whileW {body : List Stmt} (I : Nat → Gam → Mem → Prop) (n : Nat) (hp : PassesOwn (model X.prog X.w) X.A X.env X.xe) (h0 : Wk (I n) Γ M)
    (hs : ∀ n Γ M, I n Γ M → ∃ p, TP X c Γ M p ∧ (p → aSs X body Γ M { k with nx := Wk fun Γ' M' => ∃ m, m < n ∧ I m Γ' M', ct := Wk fun Γ' M' => ∃ m, m < n ∧ I m Γ' M', bk := k.nx }) ∧ (¬ p → k.nx Γ M))
    (hk : ∀ Γ Γ' M M', Le Γ' Γ → M'.Sublist M → k.nx Γ' M' → k.nx Γ M := by intro _ _ _ _ l l2 h; first | exact as_wk l l2 h | exact Wk.mono l l2 h) : aS X (.While c body [] pos) Γ M k :=
  as_while (fun n => Wk (I n)) n hp h0 fun n Γ' M' ⟨Γ0, M0, h, l, l2⟩ => by
    obtain ⟨p, ⟨b, hb, i⟩, h1, h2⟩ := hs n Γ0 M0 h
    intro Hi H σ ok en Q q
    refine hb Hi H σ (ok.sub l2) (l.env en) Q fun b' M1 Hi' H' hh => ?_
    obtain ⟨rfl, rfl⟩ := hh
    refine q _ _ Hi' H' ⟨fun z => ?_, fun z => hk _ _ _ _ l (List.Sublist.refl _) (h2 fun y => by rw [i.mpr y] at z; cases z)⟩
    refine as_le l ((h1 (i.mp z)).mono ?_ (fun _ _ h => h) (fun _ _ h => h) ?_)
    · rintro Γ5 M5 ⟨Γ6, M6, ⟨m, hm, h6⟩, l6, l7⟩
      exact ⟨m, hm, Γ6, M6, h6, l6, l7⟩
    · rintro Γ5 M5 ⟨Γ6, M6, ⟨m, hm, h6⟩, l6, l7⟩
      exact ⟨m, hm, Γ6, M6, h6, l6, l7⟩
/-! ### lengths, items -/
inductive LenIs (M : Mem) : Val → Nat → Prop
  | iT (xs : List Int) : LenIs M (iT xs) xs.length
  | iL (xs : List Int) : LenIs M (iL xs) xs.length
  | mT {α : Type} (xs : List α) (g : α → Val) : LenIs M (.tup (xs.map g)) xs.length
  | mL {α : Type} (xs : List α) (g : α → Val) : LenIs M (.lst (xs.map g)) xs.length
  | t (xs : List Val) : LenIs M (.tup xs) xs.length
  | l (xs : List Val) : LenIs M (.lst xs) xs.length
  | cm (n : Nat) {α : Type} {p : Addr} {xs : List α} {g : α → Val} : M[n]? = some (p, .lst (xs.map g)) → LenIs M (.ptr p) xs.length
  | c (n : Nat) {p : Addr} {xs : List Val} : M[n]? = some (p, .lst xs) → LenIs M (.ptr p) xs.length
theorem av_lenN {n : Nat} (hm : X.mg "len" = none) (ha : aV X a Γ M d) (hs : LenIs M d n) (hg : Gl X "len" := by rfl) (hst : starEach [a] X.env = [(false, eval a X.env)] := by rfl) : aV X (.Call (.Name "len" p1) [a] [] pos) Γ M (.int n) := by
  cases hs with
  | iT xs => have h := av_len hm ha .t hg hst (pos := pos) (p1 := p1); rw [List.length_map] at h; exact h
  | iL xs => have h := av_len hm ha (.l (.self _)) hg hst (pos := pos) (p1 := p1); rw [List.length_map] at h; exact h
  | mT xs g => have h := av_len hm ha .t hg hst (pos := pos) (p1 := p1); rw [List.length_map] at h; exact h
  | mL xs g => have h := av_len hm ha (.l (.self _)) hg hst (pos := pos) (p1 := p1); rw [List.length_map] at h; exact h
  | t xs => exact av_len hm ha .t hg hst
  | l xs => exact av_len hm ha (.l (.self _)) hg hst
  | cm n h0 => have h := av_len hm ha (.l (.lst n h0)) hg hst (pos := pos) (p1 := p1); rw [List.length_map] at h; exact h
  | c n h0 => exact av_len hm ha (.l (.lst n h0)) hg hst
/-- d[i] -/
inductive IxIs (M : Mem) : Val → Int → Val → Prop
  | iT {xs : List Int} {i : Int} : 0 ≤ i → i < xs.length → IxIs M (iT xs) i (.int (at0 xs i))
  | iL {xs : List Int} {i : Int} : 0 ≤ i → i < xs.length → IxIs M (iL xs) i (.int (at0 xs i))
  | ci (n : Nat) {p : Addr} {xs : List Int} {i : Int} : M[n]? = some (p, .lst (xs.map .int)) → 0 ≤ i → i < xs.length → IxIs M (.ptr p) i (.int (at0 xs i))
  | t {xs : List Val} {i : Int} {d : Val} : atI xs i = some d → IxIs M (.tup xs) i d
  | l {xs : List Val} {i : Int} {d : Val} : atI xs i = some d → IxIs M (.lst xs) i d
  | c (n : Nat) {p : Addr} {xs : List Val} {i : Int} {d : Val} : M[n]? = some (p, .lst xs) → atI xs i = some d → IxIs M (.ptr p) i d
theorem av_ix {i : Int} (ha : aV X a Γ M d1) (hb : aV X b Γ M (.int i)) (h : IxIs M d1 i d) (hs : PlainIx b := by exact fun _ _ => rfl) : aV X (.Subscript a b pos) Γ M d := by
  cases h with
  | iT h0 h1 => exact av_ixT ha hb (atI_int h0 h1) hs
  | iL h0 h1 => exact av_ixL ha hb (.self _) (atI_int h0 h1) hs
  | ci n hm h0 h1 => exact av_ixL ha hb (.lst n hm) (atI_int h0 h1) hs
  | t h => exact av_ixT ha hb h hs
  | l h => exact av_ixL ha hb (.self _) h hs
  | c n hm h => exact av_ixL ha hb (.lst n hm) h hs
theorem av_max2 (hm : X.mg "max" = none) (hc : X.calm = true) (ha : aV X a Γ M (.int i)) (hb : aV X b Γ M (.int j)) (hg : Gl X "max" := by rfl)
    (hs : starEach [a, b] X.env = (false, eval a X.env) :: starEach [b] X.env := by rfl) (hs2 : starEach [b] X.env = (false, eval b X.env) :: starEach [] X.env := by rfl) (hpl : (backTo pos (starEach [b] X.env)).any (·.1) = false := by rfl) : aV X (.Call (.Name "max" p1) [a, b] [] pos) Γ M (.int (max i j)) := by
  refine ae_max2 hm hc ha hb ⟨?_, rfl⟩ hg hs hs2 hpl
  congr 1
  split <;> omega
theorem av_min2 (hm : X.mg "min" = none) (hc : X.calm = true) (ha : aV X a Γ M (.int i)) (hb : aV X b Γ M (.int j)) (hg : Gl X "min" := by rfl)
    (hs : starEach [a, b] X.env = (false, eval a X.env) :: starEach [b] X.env := by rfl) (hs2 : starEach [b] X.env = (false, eval b X.env) :: starEach [] X.env := by rfl) (hpl : (backTo pos (starEach [b] X.env)).any (·.1) = false := by rfl) : aV X (.Call (.Name "min" p1) [a, b] [] pos) Γ M (.int (min i j)) := by
  refine ae_min2 hm hc ha hb ⟨?_, rfl⟩ hg hs hs2 hpl
  congr 1
  split <;> omega
theorem av_bl {bb : Bool} {j} : aV X (.Constant (.bool bb) j pos) Γ M (.bl bb) := ae_bl ⟨rfl, rfl⟩
theorem av_gi (hm : ∃ t, X.mg x = some (.int i t)) (hg : Gl X x := by rfl) (hd : (x == ("__debug__" : Str)) = false := by decide) : aV X (.Name x pos) Γ M (.int i) := by
  obtain ⟨t, h⟩ := hm
  exact av_gint h hg hd
theorem as_setv {ps : Pos} (n : Nat) (hN : X.N.Nodup) (he : aV X e Γ M d) (h : k.nx (Γ.set n (some d)) M) (hi : X.N[n]? = some x := by rfl) (hx : Loc X.env.scope x := by first | exact Or.inl rfl | exact Or.inr rfl)
    (hs : swapsWith e (some (.Name x ps)) pos.line X.env = pure false := by rfl) (hf : X.fn x = true ∨ X.env.scope.names.lookup x = some .local := by first | exact .inl rfl | exact .inr rfl | assumption) : aS X (.Assign [.Name x ps] e pos) Γ M k := as_set n hN (he.val h) hi hx hs hf
theorem as_retv (he : aV X e Γ M d) (h : k.rt d M) : aS X (.Return (some e) pos) Γ M k := as_ret (he.val h)
end
end Ab

namespace Ab
open PySem PySem.Spec PyProof.Rows L2
/-- what is still the built-in -/
structure Bt (mg : Str → Option Value) : Prop where
  isinstance : mg "isinstance" = none
  int : mg "int" = none
  bool : mg "bool" = none
  tuple : mg "tuple" = none
  len : mg "len" = none
  enumerate : mg "enumerate" = none
  range : mg "range" = none
  all : mg "all" = none
  list : mg "list" = none
  min : mg "min" = none
  max : mg "max" = none
  sum : mg "sum" = none
section
variable {X : Cx} {Γ : Gam} {M : Mem} {P : Val → Mem → Prop} {e a b c o : Expr} {es : List Expr} {pos p1 p2 apos kpos : Pos} {k : AK} {d d1 d2 d3 : Val} {i j l : Int} {x y m : Str} {n : Nat} {f C : Addr} {p q : Prop}
def CDivU (i j : Int) : Prop := CDiv i j ∨ CDivW i j
def CMulU (i j : Int) : Prop := CMul i j ∨ CMulX i j
theorem bv_mulU (hc : CMulU i j) (h : P (.int (i * j)) M) : BinV X .Mult M (.int i) (.int j) P := by
  rcases hc with hc | hc
  · exact ⟨_, op_mul, rv_I (f := fun i j => .int (i * j)) hc (fun _ _ => .int _) h⟩
  · exact ⟨_, op_mulX, rv_I (f := fun i j => .int (i * j)) hc (fun _ _ => .int _) h⟩
theorem bv_fdivU (hc : CDivU i j) (h : P (.int (i / j)) M) : BinV X .FloorDiv M (.int i) (.int j) P := by
  rcases hc with hc | hc
  · exact ⟨_, op_fdiv, rv_I (f := fun i j => .int (i / j)) hc (fun _ _ => .int _) h⟩
  · exact ⟨_, op_fdivW, rv_I (f := fun i j => .int (i / j)) hc (fun _ _ => .int _) h⟩
theorem bv_mod (hc : 0 < j) (h : P (.int (i % j)) M) : BinV X .Mod M (.int i) (.int j) P := ⟨_, op_mod, rv_I (f := fun i j => .int (i % j)) hc (fun _ _ => .int _) h⟩
theorem av_mulU (ha : aV X a Γ M (.int i)) (hb : aV X b Γ M (.int j)) (hc : CMulU i j) : aV X (.BinOp a .Mult b pos) Γ M (.int (i * j)) := ae_bin (ha.val (hb.val (bv_mulU hc ⟨rfl, rfl⟩)))
theorem av_fdivU (ha : aV X a Γ M (.int i)) (hb : aV X b Γ M (.int j)) (hc : CDivU i j) : aV X (.BinOp a .FloorDiv b pos) Γ M (.int (i / j)) := ae_bin (ha.val (hb.val (bv_fdivU hc ⟨rfl, rfl⟩)))
theorem cdw {i j : Int} (h : 0 < j) (hb : j.natAbs < 2 ^ 8000) : CDivU i j := .inr (wide_div h hb (by decide) (by decide))
theorem cp_eqL0 {ns : List Int} (v1 : Vw M d1 (.lst (ns.map .int))) (hu : X.A.units + 64 < cLine) : CP X .Eq M d1 (.lst []) (ns = []) := cp_eqL (ms := []) v1 (.self _) hu
theorem cp_neL0 {ns : List Int} (v1 : Vw M d1 (.lst (ns.map .int))) (hu : X.A.units + 64 < cLine) : CP X .NotEq M d1 (.lst []) (ns ≠ []) := cp_neL (ms := []) v1 (.self _) hu
theorem cp_eqT0 {ns : List Int} (hu : X.A.units + 64 < cLine) : CP X .Eq M (.tup (ns.map .int)) (.tup []) (ns = []) := cp_eqT (ms := []) hu
theorem cp_neT0 {ns : List Int} (hu : X.A.units + 64 < cLine) : CP X .NotEq M (.tup (ns.map .int)) (.tup []) (ns ≠ []) := cp_neT (ms := []) hu
/-- xs.pop() -/
theorem ae_pop {n : Nat} {p : Addr} {xs : List Val} (ha : aV X a Γ M (.ptr p)) (hm : M[n]? = some (p, .lst xs)) (hx : xs[xs.length - 1]? = some d) (h : P d (M.set n (p, .lst xs.dropLast)))
    (hbase : attributeBase a "pop" X.env (eval a X.env) = eval a X.env := by rfl) (hline : (apos.endLine == pos.line) = true := by rfl) : aE X (.Call (.Attribute a "pop" apos) [] [] pos) Γ M P := fun Hi H σ ok en Q q => by
  refine ⟨_, pe_bm0 PySem.F.plainAttrs_list PySem.F.slot_list_pop PySem.F.type_list_pop mt_pop pe_we hbase hline, ?_⟩
  refine ha Hi H σ ok en _ fun d M1 v Hi1 H1 h1 s1 ok1 r1 => ?_
  obtain ⟨rfl, rfl⟩ := h1
  cases r1
  obtain ⟨_, o, ho, ys, rfl, ra⟩ := ok1.get hm
  obtain ⟨z, hz, rz⟩ := ra.get hx
  refine ⟨.inl ⟨rfl, _, SqL.of ho⟩, p, ys, z, rfl, rfl, ho, by rw [← ra.length]; exact hz, q _ _ _ Hi1 _ h s1 (ok1.set hm ⟨_, rfl, ?_⟩) rz⟩
  have e1 : ∀ {α : Type} (l : List α), l.dropLast = l.take (l.length - 1) := fun l => List.dropLast_eq_take
  rw [e1, e1, ra.length]
  exact ra.take _
end
end Ab

namespace K09
open PySem L2 Ab Sm
/-! ### the law's draws -/
def stC (x t y : Int) : Cell := .lst [.int x, .int t, .int y]
/-- the state's cell stands at place i; its count is at most N -/
def St (M : Mem) (i : Nat) (a : Addr) (N : Nat) : Prop := ∃ x t y, M[i]? = some (a, stC x t y) ∧ 0 ≤ t ∧ t ≤ (N : Int)
/-- nothing but the state has changed, by c draws at most -/
def Dw (i : Nat) (a : Addr) (c : Nat) (M M' : Mem) : Prop := ∃ x t y x' t' y', M[i]? = some (a, stC x t y) ∧ M' = M.set i (a, stC x' t' y') ∧ (0 ≤ t → 0 ≤ t') ∧ t' ≤ t + (c : Int)
theorem stC_inj {x t y x' t' y' : Int} (h : stC x t y = stC x' t' y') : x = x' ∧ t = t' ∧ y = y' := by
  unfold stC at h
  injection h with h
  injection h with h
  injection h with h1 h
  injection h with h2 h
  injection h with h3 _
  injection h1 with h1
  injection h2 with h2
  injection h3 with h3
  exact ⟨h1, h2, h3⟩
theorem St.dw {M M' : Mem} {i : Nat} {a : Addr} {N c : Nat} (h : St M i a N) (d : Dw i a c M M') : St M' i a (N + c) := by
  obtain ⟨x, t, y, hm, h0, h1⟩ := h
  obtain ⟨x1, t1, y1, x2, t2, y2, hm1, rfl, g0, g1⟩ := d
  rw [hm] at hm1
  obtain ⟨_, rfl, _⟩ := stC_inj (Prod.mk.inj (Option.some.inj hm1)).2
  exact ⟨x2, t2, y2, List.getElem?_set_self (List.getElem?_eq_some_iff.mp hm).1, g0 h0, by omega⟩
theorem Dw.trans {M M' M'' : Mem} {i : Nat} {a : Addr} {c e : Nat} (d : Dw i a c M M') (d' : Dw i a e M' M'') : Dw i a (c + e) M M'' := by
  obtain ⟨x1, t1, y1, x2, t2, y2, hm1, rfl, g0, g1⟩ := d
  obtain ⟨x3, t3, y3, x4, t4, y4, hm3, rfl, g2, g3⟩ := d'
  rw [List.getElem?_set_self (List.getElem?_eq_some_iff.mp hm1).1] at hm3
  obtain ⟨_, rfl, _⟩ := stC_inj (Prod.mk.inj (Option.some.inj hm3)).2
  exact ⟨x1, t1, y1, x4, t4, y4, hm1, by rw [List.set_set], fun h => g2 (g0 h), by omega⟩
theorem Dw.mono {M M' : Mem} {i : Nat} {a : Addr} {c e : Nat} (d : Dw i a c M M') (h : c ≤ e) : Dw i a e M M' := by
  obtain ⟨x1, t1, y1, x2, t2, y2, hm1, e1, g0, g1⟩ := d
  exact ⟨x1, t1, y1, x2, t2, y2, hm1, e1, g0, by omega⟩
theorem St.refl {M : Mem} {i : Nat} {a : Addr} {N : Nat} (h : St M i a N) : Dw i a 0 M M := by
  obtain ⟨x, t, y, h, h0, h1⟩ := h
  refine ⟨x, t, y, x, t, y, h, ?_, fun h => h, by omega⟩
  apply List.ext_getElem?
  intro j
  by_cases hij : i = j
  · subst hij
    rw [List.getElem?_set_self (List.getElem?_eq_some_iff.mp h).1, h]
  · rw [List.getElem?_set_ne hij]
theorem St.cons {M : Mem} {i : Nat} {a : Addr} {N : Nat} {c : Addr × Cell} (h : St M i a N) : St (c :: M) (i + 1) a N := h
theorem Dw.cons {M M' : Mem} {i : Nat} {a : Addr} {e : Nat} {c : Addr × Cell} (h : Dw (i + 1) a e (c :: M) M') : ∃ M'', M' = c :: M'' ∧ Dw i a e M M'' := by
  obtain ⟨x1, t1, y1, x2, t2, y2, hm1, rfl, g⟩ := h
  exact ⟨_, rfl, x1, t1, y1, x2, t2, y2, hm1, rfl, g⟩
section
variable {P : Program} {w : World} {K : PySem.W.Frag} {mg : Str → Option Value} {base : Heap} {k : Nat} {f C : Addr}
def aMix : ASp := fun ds M R => ∃ (a j : Int), ds = [.int a, .int j] ∧ 0 ≤ j ∧ j ≤ 100000000 ∧ ∀ v : Int, 0 ≤ v → v < 2147483629 → R (.int v) M
abbrev GMix (P : Program) (w : World) (K : PySem.W.Frag) (mg : Str → Option Value) (base : Heap) : Prop := Gd P w K mg base 1 "_law_mixed" [] fun ds _ => aMix ds
def aState : ASp := fun ds M R => ∃ (a j : Int), ds = [.int a, .int j] ∧ 0 ≤ j ∧ j ≤ 1000 ∧ ∀ p x y, R (.ptr p) ((p, stC x 0 y) :: M)
def aDraw : ASp := fun ds M R => ∃ (a : Addr) (i N : Nat) (n : Int), ds = [.ptr a, .int n] ∧ St M i a N ∧ N ≤ 10000000 ∧ 0 < n ∧ n.natAbs < 2 ^ 8000 ∧ ∀ v M', 0 ≤ v → v < n → Dw i a 1 M M' → R (.int v) M'
abbrev GDr (P : Program) (w : World) (K : PySem.W.Frag) (mg : Str → Option Value) (base : Heap) : Prop := Gd P w K mg base 2 "_law_draw" [] fun ds _ => aDraw ds
theorem ae_draw {X : Cx} {Γ : Gam} {M : Mem} {R : Val → Mem → Prop} {a b : Expr} {p1 pos : Pos} {n : Int} {p : Addr} {i m N : Nat} (D : GDr X.prog X.w X.K X.mg X.base) (hr : Rm m X.A) (hm : 2 ≤ m) (ha : aV X a Γ M (.ptr p)) (hb : aV X b Γ M (.int n)) (hs : St M i p N) (hN : N ≤ 10000000) (h0 : 0 < n) (h1 : n.natAbs < 2 ^ 8000)
    (h : ∀ v M', 0 ≤ v → v < n → Dw i p 1 M M' → R (.int v) M') (hg : Gl X "_law_draw" := by rfl)
    (he : starEach [a, b] X.env = [(false, eval a X.env), (false, eval b X.env)] := by rfl) (he2 : starEach [b] X.env = [(false, eval b X.env)] := by rfl) : aE X (.Call (.Name "_law_draw" p1) [a, b] [] pos) Γ M R :=
  ae_g D hr hm (aa_cons (ha.val (aa_cons (hb.val (aa_nil (ak_nil ⟨rfl, p, i, N, n, rfl, hs, hN, h0, h1, h⟩))) (by rw [he2]; rfl))) (by rw [he, he2])) hg rfl rfl (he := by rw [he, he2]) (hpl := by rw [he]; rfl)
end
end K09

namespace K09
open PySem L2 Ab Sm
def sm (v : Int) : Prop := 0 ≤ v ∧ v < 100000
section
variable {P : Program} {w : World} {K : PySem.W.Frag} {mg : Str → Option Value} {base : Heap} {k : Nat} {f C : Addr}
def aCounts : ASp := fun ds M R => ∃ (p : Addr) (i N n : Nat), ds = [.ptr p, .int (n : Int)] ∧ St M i p N ∧ N + 2 * n ≤ 1000000 ∧ n ≤ 1000 ∧ ∀ (q : Addr) (xs : List Int) M', xs.length = n → (∀ v ∈ xs, sm v) → Dw i p (2 * n) M M' → R (.ptr q) ((q, .lst (xs.map .int)) :: M')
abbrev GCo (P : Program) (w : World) (K : PySem.W.Frag) (mg : Str → Option Value) (base : Heap) : Prop := Gd P w K mg base 3 "_law_counts" [] fun ds _ => aCounts ds
/-! ### _law_sequence -/
structure Seq (lo : Int) (s : Stm) : Prop where
  l1 : s.1.length ≤ 5
  l2 : s.2.length ∣ 6
  ne : s.2 ≠ []
  a1 : ∀ v ∈ s.1, sm v
  a2 : ∀ v ∈ s.2, sm v
  lo : lo ≤ item s 0
def aSeq : ASp := fun ds M R => ∃ (p : Addr) (i N : Nat) (lo : Int), ds = [.ptr p, .int lo] ∧ St M i p N ∧ N ≤ 900000 ∧ 0 ≤ lo ∧ lo ≤ 1 ∧ ∀ s M', Seq lo s → Dw i p 30 M M' → R (stV s) M'
theorem map_set0 {xs : List Int} {v : Int} : (xs.map Val.int).set 0 (.int v) = (xs.set 0 v).map Val.int := by rw [List.map_set]
theorem set0_mem {xs : List Int} {v u : Int} (h : u ∈ xs.set 0 v) : u = v ∨ u ∈ xs := by
  rcases List.mem_or_eq_of_mem_set h with h | h
  · exact .inr h
  · exact .inl h
theorem max_sm {lo v : Int} (h0 : 0 ≤ lo) (h1 : lo ≤ 1) (hv : sm v) : sm (if v > lo then v else lo) ∧ lo ≤ (if v > lo then v else lo) := by
  unfold sm at *
  split <;> omega
abbrev GSeq (P : Program) (w : World) (K : PySem.W.Frag) (mg : Str → Option Value) (base : Heap) : Prop := Gd P w K mg base 4 "_law_sequence" [] fun ds _ => aSeq ds
/-! ### _law_indices -/
def aIdx : ASp := fun ds M R => ∃ (p : Addr) (i N : Nat), ds = [.ptr p] ∧ St M i p N ∧ N ≤ 900000 ∧ ∀ (js : List Int) M', js.length ≤ 100 → (∀ j ∈ js, 0 ≤ j) → Dw i p 2 M M' → R (.lst (js.map .int)) M'
abbrev GIdx (P : Program) (w : World) (K : PySem.W.Frag) (mg : Str → Option Value) (base : Heap) : Prop := Gd P w K mg base 3 "_law_indices" [] fun ds _ => aIdx ds
end
end K09

namespace K09
open PySem L2 Ab Sm
/-! ### what combinations keep -/
structure Bs (b : Int) (S : Sc) : Prop where
  g : GoodS S
  p1 : P6 S.sp
  p2 : P6 S.lv
  b1 : ∀ i, item S.sp i ≤ b
  b2 : ∀ i, item S.lv i ≤ b
theorem Bs.n1 {b : Int} {S : Sc} (h : Bs b S) (i : Nat) : 0 ≤ item S.sp i := (h.g.ls.item i).1
theorem Bs.n2 {b : Int} {S : Sc} (h : Bs b S) (i : Nat) : 0 ≤ item S.lv i := (h.g.ll.item i).1
theorem Bs.mono {b c : Int} {S : Sc} (h : Bs b S) (hc : b ≤ c) : Bs c S := ⟨h.g, h.p1, h.p2, fun i => Int.le_trans (h.b1 i) hc, fun i => Int.le_trans (h.b2 i) hc⟩
def cap (wd : Wd) (n : Nat) (b : Int) : Int := match wd with
  | .sum => n * b
  | _ => b
theorem sum_bd {xs : List Int} {b : Int} (h : ∀ v ∈ xs, 0 ≤ v ∧ v ≤ b) : 0 ≤ xs.sum ∧ xs.sum ≤ xs.length * b := by
  induction xs with
  | nil => simp
  | cons x xs ih =>
    have h1 := h x List.mem_cons_self
    have h2 := ih fun v hv => h v (List.mem_cons_of_mem _ hv)
    rw [List.sum_cons, List.length_cons]
    have : ((xs.length + 1 : Nat) : Int) * b = (xs.length : Int) * b + b := by
      rw [Int.natCast_add, Int.add_mul]
      simp
    rw [this]
    omega
theorem op_bd {wd : Wd} {xs : List Int} {b : Int} (hne : xs ≠ []) (h : ∀ v ∈ xs, 0 ≤ v ∧ v ≤ b) : 0 ≤ opV wd xs ∧ opV wd xs ≤ cap wd xs.length b := by
  cases xs with
  | nil => exact absurd rfl hne
  | cons x xs =>
    cases wd with
    | sum => exact sum_bd h
    | least => exact h _ (minL_spec xs x).1
    | greatest => exact h _ (maxL_spec xs x).1
theorem sum_pos {xs : List Int} (hne : xs ≠ []) (h : ∀ v ∈ xs, 0 < v) : 0 < xs.sum := by
  cases xs with
  | nil => exact absurd rfl hne
  | cons x xs =>
    rw [List.sum_cons]
    have h1 := h x List.mem_cons_self
    have h2 : 0 ≤ xs.sum := by
      clear h1 hne
      induction xs with
      | nil => simp
      | cons y ys ih =>
        rw [List.sum_cons]
        have := h y (List.mem_cons_of_mem _ List.mem_cons_self)
        have := ih fun v hv => by
          rcases List.mem_cons.mp hv with z | z
          · exact h v (z ▸ List.mem_cons_self)
          · exact h v (List.mem_cons_of_mem _ (List.mem_cons_of_mem _ z))
        omega
    omega
theorem op_pos {wd : Wd} {xs : List Int} (hne : xs ≠ []) (h : ∀ v ∈ xs, 0 < v) : 0 < opV wd xs := by
  cases xs with
  | nil => exact absurd rfl hne
  | cons x xs =>
    cases wd with
    | sum => exact sum_pos (List.cons_ne_nil _ _) h
    | least => exact h _ (minL_spec xs x).1
    | greatest => exact h _ (maxL_spec xs x).1
theorem col_bd {wd : Wd} {Ss : List Sc} {b : Int} (hne : Ss ≠ []) (h : ∀ S ∈ Ss, Bs b S) (i : Nat) : (0 ≤ colF wd (Ss.map Sc.sp) i ∧ colF wd (Ss.map Sc.sp) i ≤ cap wd Ss.length b) ∧ 0 ≤ colF wd (Ss.map Sc.lv) i ∧ colF wd (Ss.map Sc.lv) i ≤ cap wd Ss.length b := by
  unfold colF
  rw [List.map_map, List.map_map]
  have e1 := op_bd (wd := wd) (xs := Ss.map ((fun s => item s i) ∘ Sc.sp)) (b := b) (by simpa using hne) fun v hv => by
    obtain ⟨S, hS, rfl⟩ := List.mem_map.mp hv
    exact ⟨(h S hS).n1 i, (h S hS).b1 i⟩
  have e2 := op_bd (wd := wd) (xs := Ss.map ((fun s => item s i) ∘ Sc.lv)) (b := b) (by simpa using hne) fun v hv => by
    obtain ⟨S, hS, rfl⟩ := List.mem_map.mp hv
    exact ⟨(h S hS).n2 i, (h S hS).b2 i⟩
  rw [List.length_map] at e1 e2
  exact ⟨e1, e2⟩
theorem cb_of {wd : Wd} {Ss : List Sc} {b : Int} (hne : Ss ≠ []) (hln : Ss.length ≤ 100) (h : ∀ S ∈ Ss, Bs b S) (ha : ∀ S ∈ Ss, ∀ S' ∈ Ss, S.a = S'.a) (hb : cap wd Ss.length b ≤ 1000000) : Cb wd Ss := by
  refine ⟨hne, hln, fun S hS => (h S hS).g, ha, ⟨⟨6, by decide, by decide, fun S hS => (h S hS).p1.dvd (h S hS).g.ns⟩, 6, by decide, by decide, fun S hS => (h S hS).p2.dvd (h S hS).g.nl⟩, fun i => ?_, fun i => ?_, ?_⟩
  · have := (col_bd (wd := wd) hne h i).1
    exact ⟨this.1, by omega⟩
  · have := (col_bd (wd := wd) hne h i).2
    exact ⟨this.1, by omega⟩
  · have : 0 < colF wd (Ss.map Sc.lv) 0 := by
      unfold colF
      rw [List.map_map]
      refine op_pos (by simpa using hne) fun v hv => ?_
      obtain ⟨S, hS, rfl⟩ := List.mem_map.mp hv
      have h1 := (h S hS).n2 0
      have h2 := (h S hS).g.lf
      show 0 < item S.lv 0
      omega
    omega
theorem col_p6 {wd : Wd} {ss : List Stm} (h : ∀ s ∈ ss, P6 s) {i : Nat} (hi : 12 ≤ i) : colF wd ss (i + 6) = colF wd ss i := by
  unfold colF
  congr 1
  exact List.map_congr_left fun s hs => h s hs i hi
theorem cb_out {wd : Wd} {Ss : List Sc} {b : Int} {S' : Sc} (hne : Ss ≠ []) (h : ∀ S ∈ Ss, Bs b S) (g : GoodS S') (h1 : ∀ i, item S'.sp i = colF wd (Ss.map Sc.sp) i) (h2 : ∀ i, item S'.lv i = colF wd (Ss.map Sc.lv) i) : Bs (cap wd Ss.length b) S' := by
  refine ⟨g, fun i hi => ?_, fun i hi => ?_, fun i => ?_, fun i => ?_⟩
  · rw [h1, h1]
    exact col_p6 (fun s hs => by
      obtain ⟨S, hS, rfl⟩ := List.mem_map.mp hs
      exact (h S hS).p1) hi
  · rw [h2, h2]
    exact col_p6 (fun s hs => by
      obtain ⟨S, hS, rfl⟩ := List.mem_map.mp hs
      exact (h S hS).p2) hi
  · rw [h1]
    exact (col_bd hne h i).1.2
  · rw [h2]
    exact (col_bd hne h i).2.2
/-! ### the methods, as the law calls them -/
structure Ms (P : Program) (w : World) (K : PySem.W.Frag) (mg : Str → Option Value) (base : Heap) (C : Addr) : Prop where
  sat : ∃ f, Meth K C "spine_at" f ∧ FX P w K mg base 3 f fun ds _ => aSat C ds
  lat : ∃ f, Meth K C "level_at" f ∧ FX P w K mg base 3 f fun ds _ => aLat C ds
  del : ∃ f, Meth K C "delayed" f ∧ (FX P w K mg base 7 f fun ds _ => aDel C ds) ∧ FnX P w K mg base 7 f ["labels"] (spX K fun ds es M R => ds.length = 1 ∧ aDel C (ds ++ es) M R)
  tim : ∃ f, Meth K C "times" f ∧ (FX P w K mg base 7 f fun ds _ => aTim C ds) ∧ FnX P w K mg base 7 f ["factor"] (spX K fun ds es M R => ds.length = 1 ∧ aTim C (ds ++ es) M R)
section
variable {X : Cx} {Γ : Gam} {M : Mem} {R : Val → Mem → Prop} {o e : Expr} {apos pos kp : Pos} {m : Nat} {C : Addr} {S : Sc} {i : Int}
theorem av_sat {pl : Sem Bool} (T : Rs X.K X.mg C) (Q : Ms X.prog X.w X.K X.mg X.base C) (hr : Rm m X.A) (hm : 3 ≤ m) (hS : GoodS S) (h0 : 0 ≤ i) (ho : aV X o Γ M (scV C S)) (he : aV X e Γ M (.int i)) (hst : starEach [e] X.env = (false, eval e X.env) :: starEach [] X.env := by rfl)
    (ht : eval (.Call (.Attribute o "spine_at" apos) [e] [] pos) X.env = (do
      let ov ← eval o X.env
      standAt apos.atName
      let (f, first) ← holding [ov] (getMethod ov "spine_at" pl)
      callWith pos f first (backTo pos (starEach [e] X.env)) (backToKw pos (keywordEach [] X.env))) := by rfl) : aV X (.Call (.Attribute o "spine_at" apos) [e] [] pos) Γ M (.int (item S.sp i.toNat)) := by
  obtain ⟨f, mt, F⟩ := Q.sat
  exact ae_meth T.cl mt F (hr.mono hm) ho (.im _) rfl (aa_cons (he.val (aa_nil (ak_nil ⟨rfl, S, i, rfl, hS, h0, rfl, rfl⟩))) hst) rfl rfl hst (by rw [hst]; rfl) ht
theorem av_lat {pl : Sem Bool} (T : Rs X.K X.mg C) (Q : Ms X.prog X.w X.K X.mg X.base C) (hr : Rm m X.A) (hm : 3 ≤ m) (hS : GoodS S) (h0 : 0 ≤ i) (ho : aV X o Γ M (scV C S)) (he : aV X e Γ M (.int i)) (hst : starEach [e] X.env = (false, eval e X.env) :: starEach [] X.env := by rfl)
    (ht : eval (.Call (.Attribute o "level_at" apos) [e] [] pos) X.env = (do
      let ov ← eval o X.env
      standAt apos.atName
      let (f, first) ← holding [ov] (getMethod ov "level_at" pl)
      callWith pos f first (backTo pos (starEach [e] X.env)) (backToKw pos (keywordEach [] X.env))) := by rfl) : aV X (.Call (.Attribute o "level_at" apos) [e] [] pos) Γ M (.int (item S.lv i.toNat)) := by
  obtain ⟨f, mt, F⟩ := Q.lat
  exact ae_meth T.cl mt F (hr.mono hm) ho (.im _) rfl (aa_cons (he.val (aa_nil (ak_nil ⟨rfl, S, i, rfl, hS, h0, rfl, rfl⟩))) hst) rfl rfl hst (by rw [hst]; rfl) ht
theorem av_sum {ns : List Int} {p1 : Pos} {d : Val} (hm : X.mg "sum" = none) (hc : X.calm = true) (ha : aV X e Γ M d) (hv : Vw M d (.lst (ns.map .int))) (hg : Gl X "sum" := by rfl) (hst : starEach [e] X.env = [(false, eval e X.env)] := by rfl) : aV X (.Call (.Name "sum" p1) [e] [] pos) Γ M (.int ns.sum) := ae_sum hm hc (ha.val ⟨ns, hv, rfl, rfl⟩) hg hst
theorem av_minL {ns : List Int} {p1 : Pos} {d : Val} (hm : X.mg "min" = none) (hc : X.calm = true) (ha : aV X e Γ M d) (hv : Vw M d (.lst (ns.map .int))) (hl : ns ≠ []) (hg : Gl X "min" := by rfl) (hst : starEach [e] X.env = [(false, eval e X.env)] := by rfl) : aV X (.Call (.Name "min" p1) [e] [] pos) Γ M (.int (minL ns)) := ae_minL hm hc (ha.val ⟨ns, hv, List.length_pos_iff.mpr hl, fun m h1 h2 => ⟨by rw [← min_is h1 h2], rfl⟩⟩) hg hst
theorem av_maxL {ns : List Int} {p1 : Pos} {d : Val} (hm : X.mg "max" = none) (hc : X.calm = true) (ha : aV X e Γ M d) (hv : Vw M d (.lst (ns.map .int))) (hl : ns ≠ []) (hg : Gl X "max" := by rfl) (hst : starEach [e] X.env = [(false, eval e X.env)] := by rfl) : aV X (.Call (.Name "max" p1) [e] [] pos) Γ M (.int (maxL ns)) := ae_maxL hm hc (ha.val ⟨ns, hv, List.length_pos_iff.mpr hl, fun m h1 h2 => ⟨by rw [← max_is h1 h2], rfl⟩⟩) hg hst
end
section
variable {P : Program} {w : World} {K : PySem.W.Frag} {mg : Str → Option Value} {base : Heap} {k : Nat} {f C : Addr}
/-! ### _law_columns, _law_items_right -/
def aCol (C : Addr) : ASp := fun ds M R => ∃ (Ss : List Sc) (i : Int), ds = [.lst (Ss.map (scV C)), .int i] ∧ Ss.length ≤ 100 ∧ (∀ S ∈ Ss, GoodS S) ∧ 0 ≤ i ∧ R (.tup [iL (Ss.map fun S => item S.sp i.toNat), iL (Ss.map fun S => item S.lv i.toNat)]) M
abbrev GCol (P : Program) (w : World) (K : PySem.W.Frag) (mg : Str → Option Value) (base : Heap) (C : Addr) : Prop := Gd P w K mg base 4 "_law_columns" [] fun ds _ => aCol C ds
/-- the three combinations of Ss -/
structure Three (Ss : List Sc) (A L H : Sc) : Prop where
  ne : Ss ≠ []
  ln : Ss.length ≤ 4
  bs : ∀ S ∈ Ss, Bs 99999 S
  ar : ∀ S ∈ Ss, ∀ S' ∈ Ss, S.a = S'.a
  gA : GoodS A
  gL : GoodS L
  gH : GoodS H
  aA : ∀ S ∈ Ss, A.a = S.a
  aL : ∀ S ∈ Ss, L.a = S.a
  aH : ∀ S ∈ Ss, H.a = S.a
  sA : ∀ i, item A.sp i = (Ss.map fun S => item S.sp i).sum
  lA : ∀ i, item A.lv i = (Ss.map fun S => item S.lv i).sum
  sL : ∀ i, item L.sp i = minL (Ss.map fun S => item S.sp i)
  lL : ∀ i, item L.lv i = minL (Ss.map fun S => item S.lv i)
  sH : ∀ i, item H.sp i = maxL (Ss.map fun S => item S.sp i)
  lH : ∀ i, item H.lv i = maxL (Ss.map fun S => item S.lv i)
def aItr (C : Addr) : ASp := fun ds M R => ∃ (p : Addr) (i N : Nat) (Ss : List Sc) (A L H : Sc), ds = [.ptr p, .lst (Ss.map (scV C)), .tup [scV C A, scV C L, scV C H]] ∧ St M i p N ∧ N ≤ 800000 ∧ Three Ss A L H ∧ ∀ M', Dw i p 2 M M' → R (.bl true) M'
abbrev GItr (P : Program) (w : World) (K : PySem.W.Frag) (mg : Str → Option Value) (base : Heap) (C : Addr) : Prop := Gd P w K mg base 5 "_law_items_right" [] fun ds _ => aItr C ds
end
end K09

namespace K09
open PySem L2 Ab Sm
theorem col_sp {wd : Wd} {Ss : List Sc} {i : Nat} : colF wd (Ss.map Sc.sp) i = opV wd (Ss.map fun S => item S.sp i) := by
  unfold colF
  rw [List.map_map]
  rfl
theorem col_lv {wd : Wd} {Ss : List Sc} {i : Nat} : colF wd (Ss.map Sc.lv) i = opV wd (Ss.map fun S => item S.lv i) := by
  unfold colF
  rw [List.map_map]
  rfl
theorem op_one {wd : Wd} {x : Int} : opV wd [x] = x := by
  cases wd
  · simp [opV]
  · rfl
  · rfl
theorem sum_app {xs : List Int} {x : Int} : (xs ++ [x]).sum = xs.sum + x := by simp
theorem min_app {xs : List Int} {x : Int} (h : xs ≠ []) : minL (xs ++ [x]) = minL [x, minL xs] := by
  cases xs with
  | nil => exact absurd rfl h
  | cons y ys =>
    obtain ⟨a1, a2⟩ := minL_spec ys y
    obtain ⟨b1, b2⟩ := minL_spec [minL (y :: ys)] x
    refine (min_is (ns := y :: ys ++ [x]) ?_ fun z hz => ?_).symm
    · rcases List.mem_cons.mp b1 with q | q
      · rw [q]
        exact List.mem_append_right _ List.mem_cons_self
      · rw [List.mem_singleton.mp q]
        exact List.mem_append_left _ a1
    · rcases List.mem_append.mp hz with q | q
      · exact Int.le_trans (b2 _ (List.mem_cons_of_mem _ List.mem_cons_self)) (a2 z q)
      · rw [List.mem_singleton.mp q]
        exact b2 x List.mem_cons_self
theorem max_app {xs : List Int} {x : Int} (h : xs ≠ []) : maxL (xs ++ [x]) = maxL [maxL xs, x] := by
  cases xs with
  | nil => exact absurd rfl h
  | cons y ys =>
    obtain ⟨a1, a2⟩ := maxL_spec ys y
    obtain ⟨b1, b2⟩ := maxL_spec [x] (maxL (y :: ys))
    refine (max_is (ns := y :: ys ++ [x]) ?_ fun z hz => ?_).symm
    · rcases List.mem_cons.mp b1 with q | q
      · rw [q]
        exact List.mem_append_left _ a1
      · rw [List.mem_singleton.mp q]
        exact List.mem_append_right _ List.mem_cons_self
    · rcases List.mem_append.mp hz with q | q
      · exact Int.le_trans (a2 z q) (b2 _ List.mem_cons_self)
      · rw [List.mem_singleton.mp q]
        exact b2 x (List.mem_cons_of_mem _ List.mem_cons_self)
theorem op_rot {wd : Wd} {x : Int} {xs : List Int} : opV wd (x :: xs) = opV wd (xs ++ [x]) := by
  cases wd with
  | sum =>
    show (x :: xs).sum = (xs ++ [x]).sum
    rw [sum_app, List.sum_cons]
    omega
  | least =>
    obtain ⟨a1, a2⟩ := minL_spec xs x
    refine min_is (ns := xs ++ [x]) ?_ fun z hz => a2 z ?_
    · rcases List.mem_cons.mp a1 with q | q
      · exact List.mem_append_right _ (List.mem_singleton.mpr q)
      · exact List.mem_append_left _ q
    · rcases List.mem_append.mp hz with q | q
      · exact List.mem_cons_of_mem _ q
      · rw [List.mem_singleton.mp q]
        exact List.mem_cons_self
  | greatest =>
    obtain ⟨a1, a2⟩ := maxL_spec xs x
    refine max_is (ns := xs ++ [x]) ?_ fun z hz => a2 z ?_
    · rcases List.mem_cons.mp a1 with q | q
      · exact List.mem_append_right _ (List.mem_singleton.mpr q)
      · exact List.mem_append_left _ q
    · rcases List.mem_append.mp hz with q | q
      · exact List.mem_cons_of_mem _ q
      · rw [List.mem_singleton.mp q]
        exact List.mem_cons_self
theorem Three.bA {Ss : List Sc} {A L H : Sc} (h : Three Ss A L H) : Bs 399996 A := by
  have := cb_out (wd := .sum) (S' := A) h.ne h.bs h.gA (fun i => by rw [h.sA, col_sp]; rfl) (fun i => by rw [h.lA, col_lv]; rfl)
  refine this.mono ?_
  have := h.ln
  show (Ss.length : Int) * 99999 ≤ 399996
  omega
theorem Three.bL {Ss : List Sc} {A L H : Sc} (h : Three Ss A L H) : Bs 99999 L :=
  cb_out (wd := .least) (S' := L) h.ne h.bs h.gL (fun i => by rw [h.sL, col_sp]; rfl) (fun i => by rw [h.lL, col_lv]; rfl)
theorem Three.bH {Ss : List Sc} {A L H : Sc} (h : Three Ss A L H) : Bs 99999 H :=
  cb_out (wd := .greatest) (S' := H) h.ne h.bs h.gH (fun i => by rw [h.sH, col_sp]; rfl) (fun i => by rw [h.lH, col_lv]; rfl)
/-- two combinations of the same schedules, in another order -/
theorem Three.same {Ss : List Sc} {T : Sc} {A L H A' L' H' : Sc} (h : Three (Ss ++ [T]) A L H) (h' : Three (T :: Ss) A' L' H') : A = A' ∧ L = L' ∧ H = H' := by
  have m1 : T ∈ Ss ++ [T] := List.mem_append_right _ List.mem_cons_self
  have m2 : T ∈ T :: Ss := List.mem_cons_self
  refine ⟨h.gA.ext h'.gA ((h.aA T m1).trans (h'.aA T m2).symm) (fun i => ?_) fun i => ?_, h.gL.ext h'.gL ((h.aL T m1).trans (h'.aL T m2).symm) (fun i => ?_) fun i => ?_, h.gH.ext h'.gH ((h.aH T m1).trans (h'.aH T m2).symm) (fun i => ?_) fun i => ?_⟩
  · rw [h.sA, h'.sA, List.map_append]
    exact (op_rot (wd := .sum)).symm
  · rw [h.lA, h'.lA, List.map_append]
    exact (op_rot (wd := .sum)).symm
  · rw [h.sL, h'.sL, List.map_append]
    exact (op_rot (wd := .least)).symm
  · rw [h.lL, h'.lL, List.map_append]
    exact (op_rot (wd := .least)).symm
  · rw [h.sH, h'.sH, List.map_append]
    exact (op_rot (wd := .greatest)).symm
  · rw [h.lH, h'.lH, List.map_append]
    exact (op_rot (wd := .greatest)).symm
theorem Three.one {S : Sc} (h : Bs 99999 S) : Three [S] S S S := by
  have ar : ∀ T ∈ [S], ∀ T' ∈ [S], T.a = T'.a := fun T hT T' hT' => by rw [List.mem_singleton.mp hT, List.mem_singleton.mp hT']
  have a1 : ∀ T ∈ [S], S.a = T.a := fun T hT => by rw [List.mem_singleton.mp hT]
  exact ⟨List.cons_ne_nil _ _, by simp, fun T hT => by rw [List.mem_singleton.mp hT]; exact h, ar, h.g, h.g, h.g, a1, a1, a1, fun i => by simp, fun i => by simp, fun i => rfl, fun i => rfl, fun i => rfl, fun i => rfl⟩
theorem Three.more {Ss : List Sc} {T A L H A' L' H' : Sc} (h : Three Ss A L H) (hT : Bs 99999 T) (ha : ∀ S ∈ Ss, S.a = T.a) (hl : Ss.length ≤ 3) (gA : GoodS A') (gL : GoodS L') (gH : GoodS H') (aA : A'.a = T.a) (aL : L'.a = T.a) (aH : H'.a = T.a)
    (s1 : ∀ i, item A'.sp i = colF .sum ([A, T].map Sc.sp) i) (s2 : ∀ i, item A'.lv i = colF .sum ([A, T].map Sc.lv) i) (s3 : ∀ i, item L'.sp i = colF .least ([T, L].map Sc.sp) i) (s4 : ∀ i, item L'.lv i = colF .least ([T, L].map Sc.lv) i)
    (s5 : ∀ i, item H'.sp i = colF .greatest ([H, T].map Sc.sp) i) (s6 : ∀ i, item H'.lv i = colF .greatest ([H, T].map Sc.lv) i) : Three (Ss ++ [T]) A' L' H' := by
  have up : ∀ {p : Sc → Prop}, (∀ S ∈ Ss, p S) → p T → ∀ S ∈ Ss ++ [T], p S := fun h1 h2 S hS => by
    rcases List.mem_append.mp hS with z | z
    · exact h1 S z
    · rw [List.mem_singleton.mp z]
      exact h2
  have ar : ∀ S ∈ Ss ++ [T], S.a = T.a := up ha rfl
  have nn : ∀ (g : Sc → Int), Ss.map g ≠ [] := fun g => by simpa using h.ne
  refine ⟨by simp, by rw [List.length_append]; show Ss.length + 1 ≤ 4; omega, up h.bs hT, fun S hS S' hS' => (ar S hS).trans (ar S' hS').symm, gA, gL, gH, fun S hS => aA.trans (ar S hS).symm, fun S hS => aL.trans (ar S hS).symm, fun S hS => aH.trans (ar S hS).symm, fun i => ?_, fun i => ?_, fun i => ?_, fun i => ?_, fun i => ?_, fun i => ?_⟩
  · rw [s1, List.map_append]
    show [item A.sp i, item T.sp i].sum = (_ ++ [item T.sp i]).sum
    rw [sum_app, h.sA]
    simp
  · rw [s2, List.map_append]
    show [item A.lv i, item T.lv i].sum = (_ ++ [item T.lv i]).sum
    rw [sum_app, h.lA]
    simp
  · rw [s3, List.map_append]
    show minL [item T.sp i, item L.sp i] = minL (_ ++ [item T.sp i])
    rw [min_app (nn _), h.sL]
  · rw [s4, List.map_append]
    show minL [item T.lv i, item L.lv i] = minL (_ ++ [item T.lv i])
    rw [min_app (nn _), h.lL]
  · rw [s5, List.map_append]
    show maxL [item H.sp i, item T.sp i] = maxL (_ ++ [item T.sp i])
    rw [max_app (nn _), h.sH]
  · rw [s6, List.map_append]
    show maxL [item H.lv i, item T.lv i] = maxL (_ ++ [item T.lv i])
    rw [max_app (nn _), h.lH]
section
variable {P : Program} {w : World} {K : PySem.W.Frag} {mg : Str → Option Value} {base : Heap} {k : Nat} {f C : Addr}
abbrev GWd (P : Program) (w : World) (K : PySem.W.Frag) (mg : Str → Option Value) (base : Heap) (C : Addr) (x : Str) (wd : Wd) : Prop := Gd P w K mg base 8 x [] fun ds _ M R => ds.length ≤ sizeLine ∧ aWd C wd [.tup ds] M R
abbrev OwnS (P : Program) (w : World) (K : PySem.W.Frag) (mg : Str → Option Value) (base : Heap) (C fq : Addr) : Prop := OwnE P w K mg base 1 C fq goodF relS
theorem eqs_self {ds : List Val} (h : ∀ d ∈ ds, ∃ S, d = scV C S ∧ GoodS S) (i : Nat) (d e : Val) (h1 : ds[i]? = some d) (h2 : ds[i]? = some e) : eqO C goodF relS d e := by
  rw [h1] at h2
  cases h2
  obtain ⟨S, rfl, hS⟩ := h d (List.mem_of_getElem? h1)
  exact ⟨_, _, rfl, rfl, ⟨S, rfl, hS⟩, ⟨S, rfl, hS⟩, rel_eq rfl⟩
theorem all3 {A L H : Sc} (g1 : GoodS A) (g2 : GoodS L) (g3 : GoodS H) : ∀ d ∈ [scV C A, scV C L, scV C H], ∃ S, d = scV C S ∧ GoodS S := fun d hd => by
  rcases List.mem_cons.mp hd with rfl | hd
  · exact ⟨_, rfl, g1⟩
  · rcases List.mem_cons.mp hd with rfl | hd
    · exact ⟨_, rfl, g2⟩
    · rw [List.mem_singleton.mp hd]
      exact ⟨_, rfl, g3⟩
theorem one_is {wd : Wd} {S S' : Sc} (g : GoodS S) (g' : GoodS S') (ha : ∀ T ∈ [S], S'.a = T.a) (h1 : ∀ i, item S'.sp i = colF wd ([S].map Sc.sp) i) (h2 : ∀ i, item S'.lv i = colF wd ([S].map Sc.lv) i) : S' = S :=
  g'.ext g (ha S List.mem_cons_self) (fun i => by rw [h1, col_sp]; exact op_one) fun i => by rw [h2, col_lv]; exact op_one
theorem cb1 {wd : Wd} {S : Sc} (h : Bs 99999 S) : Cb wd [S] := cb_of (b := 99999) (List.cons_ne_nil _ _) (by simp) (fun T hT => by rw [List.mem_singleton.mp hT]; exact h) (fun T hT T' hT' => by rw [List.mem_singleton.mp hT, List.mem_singleton.mp hT']) (by show cap wd 1 99999 ≤ 1000000; cases wd <;> decide)
theorem cb2 {wd : Wd} {b : Int} {S T : Sc} (h1 : Bs b S) (h2 : Bs b T) (ha : S.a = T.a) (hb : 2 * b ≤ 1000000) : Cb wd [S, T] := by
  have m : ∀ {p : Sc → Prop}, p S → p T → ∀ U ∈ [S, T], p U := fun a b U hU => by
    rcases List.mem_cons.mp hU with rfl | hU
    · exact a
    · rw [List.mem_singleton.mp hU]
      exact b
  have ar : ∀ U ∈ [S, T], U.a = T.a := m ha rfl
  have h0 := h1.n1 0
  have h3 := h1.b1 0
  refine cb_of (b := b) (List.cons_ne_nil _ _) (by simp) (m h1 h2) (fun U hU V hV => (ar U hU).trans (ar V hV).symm) ?_
  cases wd
  · show ((2 : Nat) : Int) * b ≤ _
    omega
  · show b ≤ _
    omega
  · show b ≤ _
    omega
theorem at_first {Ss : List Sc} (h : 0 < Ss.length) : atI (Ss.map (scV C)) 0 = some (scV C Ss[0]) := by
  refine atI_nat (j := 0) ?_
  rw [List.getElem?_map, List.getElem?_eq_getElem h]
  rfl
theorem at_last {Ss : List Sc} {T : Sc} : atI ((Ss ++ [T]).map (scV C)) (-1) = some (scV C T) := by
  unfold atI ixN
  rw [List.length_map, List.length_append, if_neg (by decide), if_pos (by show -(((Ss.length + 1 : Nat)) : Int) ≤ -1; omega), Option.bind_some]
  rw [show ((-1 : Int) + ((Ss.length + [T].length : Nat) : Int)).toNat = Ss.length by show ((-1 : Int) + ((Ss.length + 1 : Nat) : Int)).toNat = _; omega, List.map_append, List.getElem?_append_right (by simp), List.length_map, Nat.sub_self]
  rfl
theorem cut_front {Ss : List Sc} {T : Sc} : cutA ((Ss ++ [T]).map (scV C)) none (some (-1)) = Ss.map (scV C) := by
  unfold cutA
  have e : HT.sIx ((Ss ++ [T]).map (scV C)).length ((Ss ++ [T]).map (scV C)).length (some (-1)) = Ss.length := by
    show (if (-1 : Int) < 0 then ((-1 : Int) + (((Ss ++ [T]).map (scV C)).length : Int)).toNat else min (-1 : Int).toNat ((Ss ++ [T]).map (scV C)).length) = _
    rw [if_pos (by decide), List.length_map, List.length_append]
    show ((-1 : Int) + ((Ss.length + 1 : Nat) : Int)).toNat = _
    omega
  rw [e, HT.sIx_none, List.drop_zero, Nat.sub_zero, List.map_append, List.take_append_of_le_length (by simp), List.take_of_length_le (by simp)]
end
end K09

namespace Sm
/-! ### the place of a leaf: b leaves stand before it -/
def smN (f : Nat → Int) : Nat → Int
  | 0 => 0
  | n + 1 => smN f n + f n
theorem smN_congr {f g : Nat → Int} {n : Nat} (h : ∀ j, j < n → f j = g j) : smN f n = smN g n := by
  induction n with
  | zero => rfl
  | succ n ih => rw [smN, smN, ih fun j hj => h j (by omega), h n (by omega)]
theorem smN_add {f g : Nat → Int} {n : Nat} : smN (fun j => f j + g j) n = smN f n + smN g n := by
  induction n with
  | zero => rfl
  | succ n ih => rw [smN, smN, smN, ih]; omega
theorem smN_mul {f : Nat → Int} {m : Int} {n : Nat} : smN (fun j => m * f j) n = m * smN f n := by
  induction n with
  | zero => simp [smN]
  | succ n ih => rw [smN, smN, ih, Int.mul_add]
theorem smN_le {f g : Nat → Int} {n : Nat} (h : ∀ j, j < n → f j ≤ g j) : smN f n ≤ smN g n := by
  induction n with
  | zero => exact Int.le_refl _
  | succ n ih =>
    have h1 := ih fun j hj => h j (by omega)
    have h2 := h n (by omega)
    rw [smN, smN]
    omega
theorem smN_ext {f : Nat → Int} {n m : Nat} (hm : n ≤ m) (h : ∀ j, n ≤ j → f j = 0) : smN f m = smN f n := by
  induction m with
  | zero =>
    have : n = 0 := by omega
    rw [this]
  | succ m ih =>
    rcases Nat.lt_or_ge m n with z | z
    · have : n = m + 1 := by omega
      rw [this]
    · rw [smN, ih z, h m z, Int.add_zero]
theorem smN_head {f : Nat → Int} {n : Nat} : smN f (n + 1) = f 0 + smN (fun j => f (j + 1)) n := by
  induction n with
  | zero => simp [smN]
  | succ n ih => rw [smN, ih, smN]; omega
def plT (k : Nat) (s l : Nat → Int) (b h : Nat) : Int := (if k ^ h ≤ b then s (h + 1) else 0) + l (h + 1) * ((b / k ^ (h + 1) : Nat) : Int)
def place (k : Nat) (s l : Nat → Int) (b : Nat) : Int := s 0 + (b : Int) * l 0 + smN (plT k s l b) b
theorem lt_pow {k : Nat} (hk : 2 ≤ k) (b : Nat) : b < k ^ b := Nat.lt_of_lt_of_le Nat.lt_two_pow_self (Nat.pow_le_pow_left hk b)
theorem plT_zero {k : Nat} {s l : Nat → Int} {b h : Nat} (hb : b < k ^ h) (hk : 2 ≤ k) : plT k s l b h = 0 := by
  have h2 : b < k ^ (h + 1) := Nat.lt_of_lt_of_le hb (Nat.pow_le_pow_right (by omega) (by omega))
  rw [plT, if_neg (by omega), Nat.div_eq_of_lt h2]
  simp
theorem place_N {k : Nat} {s l : Nat → Int} {b N : Nat} (hk : 2 ≤ k) (hN : b < k ^ N) : place k s l b = s 0 + (b : Int) * l 0 + smN (plT k s l b) N := by
  have key : ∀ m, b < k ^ m → ∀ j, m ≤ j → plT k s l b j = 0 := fun m hm j hj => plT_zero (Nat.lt_of_lt_of_le hm (Nat.pow_le_pow_right (by omega) hj)) hk
  rw [place]
  congr 1
  rcases Nat.le_total N b with z | z
  · exact smN_ext z (key N hN)
  · exact (smN_ext z (key b (lt_pow hk b))).symm
theorem place_add {k : Nat} {s l s1 l1 s2 l2 : Nat → Int} {b : Nat} (hs : ∀ i, s i = s1 i + s2 i) (hl : ∀ i, l i = l1 i + l2 i) : place k s l b = place k s1 l1 b + place k s2 l2 b := by
  rw [place, place, place]
  have e : smN (plT k s l b) b = smN (plT k s1 l1 b) b + smN (plT k s2 l2 b) b := by
    rw [← smN_add]
    refine smN_congr fun j _ => ?_
    rw [plT, plT, plT, hs, hl, Int.add_mul]
    split <;> omega
  rw [e, hs, hl, Int.mul_add]
  omega
theorem place_mul {k : Nat} {s l s1 l1 : Nat → Int} {b : Nat} {m : Int} (hs : ∀ i, s i = m * s1 i) (hl : ∀ i, l i = m * l1 i) : place k s l b = m * place k s1 l1 b := by
  rw [place, place]
  have e : smN (plT k s l b) b = m * smN (plT k s1 l1 b) b := by
    rw [← smN_mul]
    refine smN_congr fun j _ => ?_
    rw [plT, plT, hs, hl, Int.mul_add, Int.mul_assoc]
    split
    · rfl
    · simp
  rw [e, hs, hl, Int.mul_add, Int.mul_add, Int.mul_left_comm]
theorem place_delay {k : Nat} {s l s1 : Nat → Int} {b : Nat} {m : Int} (hs : ∀ i, s i = if i = 0 then s1 0 + m else s1 i) : place k s l b = place k s1 l b + m := by
  rw [place, place]
  have e : smN (plT k s l b) b = smN (plT k s1 l b) b := smN_congr fun j _ => by
    rw [plT, plT, hs (j + 1), if_neg (show ¬ j + 1 = 0 by omega)]
  rw [e, hs 0, if_pos rfl]
  omega
theorem place_mono {k : Nat} {s l s1 l1 : Nat → Int} {b : Nat} (hs : ∀ i, s i ≤ s1 i) (hl : ∀ i, l i ≤ l1 i) : place k s l b ≤ place k s1 l1 b := by
  rw [place, place]
  have e : smN (plT k s l b) b ≤ smN (plT k s1 l1 b) b := smN_le fun j _ => by
    rw [plT, plT]
    have h1 := Int.mul_le_mul_of_nonneg_right (hl (j + 1)) (show (0 : Int) ≤ ((b / k ^ (j + 1) : Nat) : Int) from Int.natCast_nonneg _)
    have h2 := hs (j + 1)
    split <;> omega
  have h1 := Int.mul_le_mul_of_nonneg_left (hl 0) (show (0 : Int) ≤ (b : Int) by omega)
  have h2 := hs 0
  omega
theorem place_grow {k : Nat} {s l : Nat → Int} {b : Nat} (hk : 2 ≤ k) (hs : ∀ i, 0 ≤ s i) (hl : ∀ i, 0 ≤ l i) (h0 : 0 < l 0) : place k s l b < place k s l (b + 1) := by
  have hN := lt_pow hk (b + 1)
  rw [place_N (b := b) hk (by omega : b < k ^ (b + 1)), place_N hk hN]
  have e : smN (plT k s l b) (b + 1) ≤ smN (plT k s l (b + 1)) (b + 1) := smN_le fun j _ => by
    rw [plT, plT]
    have h1 := Int.mul_le_mul_of_nonneg_left (show ((b / k ^ (j + 1) : Nat) : Int) ≤ (((b + 1) / k ^ (j + 1) : Nat) : Int) from Int.ofNat_le.mpr (Nat.div_le_div_right (by omega))) (hl (j + 1))
    have h2 := hs (j + 1)
    split <;> split <;> omega
  have : ((b + 1 : Nat) : Int) * l 0 = (b : Int) * l 0 + l 0 := by rw [Int.natCast_add, Int.add_mul]; simp
  omega
theorem place_zero {k : Nat} {s l : Nat → Int} : place k s l 0 = s 0 := by simp [place, smN]
/-! ### leaf by leaf -/
/-- the spine up to a stage, the branch nodes by the quotients q -/
def labS (s l : Nat → Int) (st N : Nat) (q : Nat → Nat) : Int := smN s (st + 1) + smN (fun j => l j * (q j : Int)) N
theorem ifsum {k : Nat} {s : Nat → Int} {b st : Nat} (hk : 2 ≤ k) (hb : b < k ^ st) (h1 : st = 0 ∨ k ^ (st - 1) ≤ b) : ∀ N, st ≤ N → smN (fun h => if k ^ h ≤ b then s (h + 1) else 0) N = smN (fun h => s (h + 1)) st := by
  intro N hN
  have e1 : smN (fun h => if k ^ h ≤ b then s (h + 1) else 0) N = smN (fun h => if k ^ h ≤ b then s (h + 1) else 0) st := smN_ext hN fun j hj => if_neg (by
    have := Nat.pow_le_pow_right (n := k) (by omega) hj
    omega)
  rw [e1]
  refine smN_congr fun j hj => if_pos ?_
  rcases h1 with rfl | h1
  · omega
  · exact Nat.le_trans (Nat.pow_le_pow_right (by omega) (by omega)) h1
theorem place_lab {k : Nat} {s l : Nat → Int} {b st N : Nat} (hk : 2 ≤ k) (hb : b < k ^ st) (h1 : st = 0 ∨ k ^ (st - 1) ≤ b) (hN : st < N) : place k s l b = labS s l st N fun j => b / k ^ j := by
  obtain ⟨N, rfl⟩ : ∃ m, N = m + 1 := ⟨N - 1, by omega⟩
  rw [place_N (N := N) hk (Nat.lt_of_lt_of_le hb (Nat.pow_le_pow_right (by omega) (by omega))), labS, smN_head, smN_head]
  have e : smN (plT k s l b) N = smN (fun h => if k ^ h ≤ b then s (h + 1) else 0) N + smN (fun j => l (j + 1) * ((b / k ^ (j + 1) : Nat) : Int)) N := by
    rw [← smN_add]
    rfl
  rw [e, ifsum hk hb h1 N (by omega), Nat.pow_zero, Nat.div_one, Int.mul_comm (l 0)]
  omega
/-- before the node of height h above the leaf b -/
def labB (k : Nat) (s l : Nat → Int) (st N b h : Nat) : Int := labS s l st N fun j => (if h < j then b else b - 1) / k ^ j
theorem dvd_div {m b : Nat} (hm : 0 < m) (hb : 0 < b) (h : m ∣ b) : b / m = (b - 1) / m + 1 := by
  obtain ⟨c, rfl⟩ := h
  have hc : 0 < c := by
    rcases Nat.eq_zero_or_pos c with z | z
    · rw [z] at hb; simp at hb
    · exact z
  obtain ⟨c, rfl⟩ : ∃ d, c = d + 1 := ⟨c - 1, by omega⟩
  rw [Nat.mul_div_cancel_left _ hm]
  have : m * (c + 1) - 1 = m * c + (m - 1) := by rw [Nat.mul_add, Nat.mul_one]; omega
  rw [this, Nat.mul_add_div hm, Nat.div_eq_of_lt (by omega)]
theorem ndvd_div {m b : Nat} (hm : 0 < m) (h : ¬ m ∣ b + 1) : (b + 1) / m = b / m := by
  rw [Nat.succ_div, if_neg h, Nat.add_zero]
theorem smN_one {f g : Nat → Int} {N h : Nat} {d : Int} (hN : h < N) (he : ∀ j, j ≠ h → f j = g j) (hh : f h = g h + d) : smN f N = smN g N + d := by
  induction N with
  | zero => omega
  | succ N ih =>
    rw [smN, smN]
    rcases Nat.lt_or_ge h N with z | z
    · rw [ih z, he N (by omega)]
      omega
    · have : h = N := by omega
      subst this
      rw [smN_congr fun j hj => he j (by omega), hh]
      omega
/-- a node of height h > 0 is visited -/
theorem lab_node {k : Nat} {s l : Nat → Int} {st N b h : Nat} (hk : 2 ≤ k) (hb : 0 < b) (hd : k ^ (h + 1) ∣ b) (hN : h + 1 < N) : labB k s l st N b (h + 1) + l (h + 1) = labB k s l st N b h := by
  have hp : 0 < k ^ (h + 1) := Nat.pow_pos (by omega)
  unfold labB labS
  rw [smN_one (f := fun j => l j * (((if h < j then b else b - 1) / k ^ j : Nat) : Int)) (g := fun j => l j * (((if h + 1 < j then b else b - 1) / k ^ j : Nat) : Int)) (d := l (h + 1)) hN]
  · show smN s (st + 1) + smN (fun j => l j * (((if h + 1 < j then b else b - 1) / k ^ j : Nat) : Int)) N + l (h + 1) = _
    omega
  · intro j hj
    by_cases hlt : h + 1 < j
    · simp only [if_pos hlt, if_pos (show h < j by omega)]
    · simp only [if_neg hlt, if_neg (show ¬ h < j by omega)]
  · simp only [if_pos (show h < h + 1 by omega), if_neg (show ¬ h + 1 < h + 1 by omega)]
    rw [dvd_div hp hb hd, Int.natCast_add, Int.mul_add]
    simp
/-- a leaf is visited -/
theorem lab_leaf {k : Nat} {s l : Nat → Int} {st N b : Nat} (hk : 2 ≤ k) (hb : 0 < b) (hN : 0 < N) : labB k s l st N b 0 + l 0 = labS s l st N fun j => b / k ^ j := by
  unfold labB labS
  rw [smN_one (f := fun j => l j * ((b / k ^ j : Nat) : Int)) (g := fun j => l j * (((if 0 < j then b else b - 1) / k ^ j : Nat) : Int)) (h := 0) (d := l 0) hN]
  · show smN s (st + 1) + smN (fun j => l j * (((if 0 < j then b else b - 1) / k ^ j : Nat) : Int)) N + l 0 = _
    omega
  · intro j hj
    simp only [if_pos (show 0 < j by omega)]
  · rw [if_neg (Nat.lt_irrefl _), Nat.pow_zero, Nat.div_one, Nat.div_one]
    have : (b : Int) = ((b - 1 : Nat) : Int) + 1 := by omega
    rw [this, Int.mul_add]
    omega
/-- behind a leaf, before the next node -/
theorem lab_next {k : Nat} {s l : Nat → Int} {st N b h : Nat} (hk : 2 ≤ k) (hd : ¬ k ^ (h + 1) ∣ b + 1) : (labS s l st N fun j => b / k ^ j) = labB k s l st N (b + 1) h := by
  unfold labB labS
  congr 1
  refine smN_congr fun j _ => ?_
  show l j * ((b / k ^ j : Nat) : Int) = l j * (((if h < j then b + 1 else b + 1 - 1) / k ^ j : Nat) : Int)
  by_cases hlt : h < j
  · rw [if_pos hlt]
    have : ¬ k ^ j ∣ b + 1 := fun z => hd (Nat.dvd_trans (Nat.pow_dvd_pow k (by omega)) z)
    rw [ndvd_div (Nat.pow_pos (by omega)) this]
  · rw [if_neg hlt, Nat.add_sub_cancel]
/-- the first node of a stage -/
theorem lab_stage {k : Nat} {s l : Nat → Int} {st N : Nat} (hk : 2 ≤ k) : place k s l (k ^ st - 1) + s (st + 1) = labB k s l (st + 1) (st + 2) (k ^ st) st := by
  have hp : 0 < k ^ st := Nat.pow_pos (by omega)
  have h1 : st = 0 ∨ k ^ (st - 1) ≤ k ^ st - 1 := by
    rcases Nat.eq_zero_or_pos st with z | z
    · exact .inl z
    · right
      have : k ^ (st - 1) < k ^ st := Nat.pow_lt_pow_right (by omega) (by omega)
      omega
  rw [place_lab (N := st + 2) hk (by omega) h1 (by omega)]
  unfold labB labS
  rw [show smN s (st + 1 + 1) = smN s (st + 1) + s (st + 1) from rfl]
  have e : smN (fun j => l j * (((k ^ st - 1) / k ^ j : Nat) : Int)) (st + 2) = smN (fun j => l j * (((if st < j then k ^ st else k ^ st - 1) / k ^ j : Nat) : Int)) (st + 2) := smN_congr fun j _ => by
    by_cases hlt : st < j
    · have hq : k ^ st < k ^ j := Nat.pow_lt_pow_right (by omega) hlt
      rw [if_pos hlt, Nat.div_eq_of_lt hq, Nat.div_eq_of_lt (by omega)]
    · rw [if_neg hlt]
  rw [e]
  show _ = smN s (st + 1) + s (st + 1) + smN (fun j => l j * (((if st < j then k ^ st else k ^ st - 1) / k ^ j : Nat) : Int)) (st + 2)
  omega
/-- what stands on the pile: the leaves from b up to e; behind the first no node is a first child -/
def Tile (k : Nat) : Nat → Nat → List Nat → Prop
  | b, e, [] => b = e
  | b, e, h :: t => k ^ h ∣ b ∧ Tile k (b + k ^ h) e t ∧ ∀ g ∈ t.head?, ¬ k ^ (g + 1) ∣ b + k ^ h
def pileW (k : Nat) : List Nat → Nat
  | [] => 0
  | h :: t => (k + 1) ^ (h + 1) + pileW k t
theorem pile_rep (k c h : Nat) (t : List Nat) : pileW k (List.replicate c h ++ t) = c * (k + 1) ^ (h + 1) + pileW k t := by
  induction c with
  | zero => simp
  | succ c ih =>
    rw [List.replicate_succ, List.cons_append, pileW, ih, Nat.succ_mul]
    omega
theorem pile_push (k h : Nat) (t : List Nat) : pileW k (List.replicate k h ++ t) < pileW k ((h + 1) :: t) := by
  rw [pile_rep, pileW, Nat.pow_succ (k + 1) (h + 1), Nat.mul_add, Nat.mul_one, Nat.mul_comm]
  have : 0 < (k + 1) ^ (h + 1) := Nat.pow_pos (by omega)
  omega
/-- c nodes of height h on a pile, from b = (a + 1) * k ^ h on, a + c < k where a multiple of k ^ (h + 1) is not reached -/
theorem tile_rep {k : Nat} (hk : 2 ≤ k) {h e : Nat} {t : List Nat} : ∀ (c b : Nat), k ^ h ∣ b → (∀ i, 0 < i → i < c → ¬ k ^ (h + 1) ∣ b + i * k ^ h) → Tile k (b + c * k ^ h) e t → (∀ g ∈ t.head?, 0 < c → ¬ k ^ (g + 1) ∣ b + c * k ^ h) → Tile k b e (List.replicate c h ++ t)
  | 0, b, _, _, ht, _ => by simpa using ht
  | c + 1, b, hd, hn, ht, hh => by
    rw [List.replicate_succ, List.cons_append]
    have e1 : ∀ i, b + k ^ h + i * k ^ h = b + (i + 1) * k ^ h := fun i => by rw [Nat.succ_mul]; omega
    refine ⟨hd, tile_rep hk c (b + k ^ h) (Nat.dvd_add hd (Nat.dvd_refl _)) (fun i h0 h1 => ?_) (by rw [e1]; exact ht) (fun g hg h0 => by rw [e1]; exact hh g hg (by omega)), fun g hg => ?_⟩
    · rw [e1]
      exact hn (i + 1) (by omega) (by omega)
    · cases c with
      | zero =>
        have := hh g (by simpa using hg) (by omega)
        simpa using this
      | succ c =>
        rw [List.replicate_succ] at hg
        simp at hg
        subst hg
        have := hn 1 (by omega) (by omega)
        rwa [Nat.one_mul] at this
theorem not_mul {k h m i : Nat} (hk : 2 ≤ k) (hd : k ^ (h + 1) ∣ m) (h0 : 0 < i) (h1 : i < k) : ¬ k ^ (h + 1) ∣ m + i * k ^ h := fun z => by
  have z2 := (Nat.dvd_add_right hd).mp z
  have hp : 0 < k ^ h := Nat.pow_pos (by omega)
  rw [Nat.pow_succ, Nat.mul_comm i] at z2
  have z3 := Nat.dvd_of_mul_dvd_mul_left hp z2
  have := Nat.le_of_dvd h0 z3
  omega
/-- a node gives way to its children -/
theorem tile_push {k h b e : Nat} {t : List Nat} (hk : 2 ≤ k) (ht : Tile k b e ((h + 1) :: t)) : Tile k b e (List.replicate k h ++ t) := by
  obtain ⟨hd, h2, h3⟩ := ht
  have ek : k * k ^ h = k ^ (h + 1) := by rw [Nat.pow_succ, Nat.mul_comm]
  refine tile_rep hk k b (Nat.dvd_trans (Nat.pow_dvd_pow k (by omega)) hd) (fun i h0 h1 => not_mul hk hd h0 h1) (by rw [ek]; exact h2) (fun g hg _ => by rw [ek]; exact h3 g hg)
/-- the pile of a stage -/
theorem tile_stage {k st : Nat} (hk : 2 ≤ k) : Tile k (k ^ st) (k ^ (st + 1)) (List.replicate (k - 1) st) := by
  have h := tile_rep (k := k) hk (h := st) (e := k ^ (st + 1)) (t := []) (k - 1) (k ^ st) (Nat.dvd_refl _) (fun i h0 h1 z => ?_) ?_ (fun g hg => by simp at hg)
  · rwa [List.append_nil] at h
  · have e : k ^ st + i * k ^ st = (i + 1) * k ^ st := by rw [Nat.succ_mul]; omega
    rw [e, Nat.pow_succ, Nat.mul_comm (i + 1)] at z
    have z3 := Nat.dvd_of_mul_dvd_mul_left (Nat.pow_pos (by omega)) z
    have := Nat.le_of_dvd (by omega) z3
    omega
  · show k ^ st + (k - 1) * k ^ st = k ^ (st + 1)
    have e : k ^ st + (k - 1) * k ^ st = (k - 1 + 1) * k ^ st := by rw [Nat.succ_mul]; omega
    rw [e, Nat.sub_add_cancel (by omega), Nat.pow_succ, Nat.mul_comm]
theorem tile_le {k : Nat} : ∀ {t : List Nat} {b e : Nat}, Tile k b e t → b ≤ e
  | [], b, e, h => Nat.le_of_eq h
  | h :: t, b, e, ⟨_, h2, _⟩ => Nat.le_trans (Nat.le_add_right _ _) (tile_le h2)
end Sm

namespace K09
open PySem L2 Ab Sm
section
variable {P : Program} {w : World} {K : PySem.W.Frag} {mg : Str → Option Value} {base : Heap} {k : Nat} {f C : Addr}
/-! ### properties -/
def aSpi (C : Addr) : ASp := fun ds M R => ∃ (S : Sc), ds = [scV C S] ∧ R (stV S.sp) M
def aLev (C : Addr) : ASp := fun ds M R => ∃ (S : Sc), ds = [scV C S] ∧ R (stV S.lv) M
theorem b_spine (T : Rs K mg C) : BodyOk P w K mg base k f n_Schedule_spine "Schedule.spine" (defScope c_Schedule_spine) (defBody c_Schedule_spine) (aSpi C) := by
  rintro cdv A outer s0 H E hr ds M R ⟨S, rfl, hp⟩
  exact as_one (as_ret ((av_s T (v_ 0)).val (.ok hp)))
theorem b_levels (T : Rs K mg C) : BodyOk P w K mg base k f n_Schedule_levels "Schedule.levels" (defScope c_Schedule_levels) (defBody c_Schedule_levels) (aLev C) := by
  rintro cdv A outer s0 H E hr ds M R ⟨S, rfl, hp⟩
  exact as_one (as_ret ((av_l T (v_ 0)).val (.ok hp)))
structure PrA (P : Program) (w : World) (K : PySem.W.Frag) (mg : Str → Option Value) (base : Heap) (C : Addr) : Prop where
  ex : ∃ p g, PropOf K C "arity" p g ∧ FX P w K mg base 1 g fun ds _ => aAri C ds
structure PrS (P : Program) (w : World) (K : PySem.W.Frag) (mg : Str → Option Value) (base : Heap) (C : Addr) : Prop where
  ex : ∃ p g, PropOf K C "spine" p g ∧ FX P w K mg base 1 g fun ds _ => aSpi C ds
structure PrL (P : Program) (w : World) (K : PySem.W.Frag) (mg : Str → Option Value) (base : Heap) (C : Addr) : Prop where
  ex : ∃ p g, PropOf K C "levels" p g ∧ FX P w K mg base 1 g fun ds _ => aLev C ds
theorem av_arity {X : Cx} {Γ : Gam} {M : Mem} {o : Expr} {pos : Pos} {m : Nat} {S : Sc} (T : Rs X.K X.mg C) (Q : PrA X.prog X.w X.K X.mg X.base C) (hr : Rm m X.A) (hm : 2 ≤ m) (ho : aV X o Γ M (scV C S)) (hb : attributeBase o "arity" X.env (eval o X.env) = eval o X.env := by rfl) : aV X (.Attribute o "arity" pos) Γ M (.int S.a) := by
  obtain ⟨p, g, hp, F⟩ := Q.ex
  exact ae_prop T.cl hp F (hr.mono hm) ho (.im _) ⟨S, rfl, rfl, rfl⟩ hb
theorem av_spine {X : Cx} {Γ : Gam} {M : Mem} {o : Expr} {pos : Pos} {m : Nat} {S : Sc} (T : Rs X.K X.mg C) (Q : PrS X.prog X.w X.K X.mg X.base C) (hr : Rm m X.A) (hm : 2 ≤ m) (ho : aV X o Γ M (scV C S)) (hb : attributeBase o "spine" X.env (eval o X.env) = eval o X.env := by rfl) : aV X (.Attribute o "spine" pos) Γ M (stV S.sp) := by
  obtain ⟨p, g, hp, F⟩ := Q.ex
  exact ae_prop T.cl hp F (hr.mono hm) ho (.im _) ⟨S, rfl, rfl, rfl⟩ hb
theorem av_levels {X : Cx} {Γ : Gam} {M : Mem} {o : Expr} {pos : Pos} {m : Nat} {S : Sc} (T : Rs X.K X.mg C) (Q : PrL X.prog X.w X.K X.mg X.base C) (hr : Rm m X.A) (hm : 2 ≤ m) (ho : aV X o Γ M (scV C S)) (hb : attributeBase o "levels" X.env (eval o X.env) = eval o X.env := by rfl) : aV X (.Attribute o "levels" pos) Γ M (stV S.lv) := by
  obtain ⟨p, g, hp, F⟩ := Q.ex
  exact ae_prop T.cl hp F (hr.mono hm) ho (.im _) ⟨S, rfl, rfl, rfl⟩ hb
theorem av_satp {X : Cx} {Γ : Gam} {M : Mem} {o e : Expr} {pos apos : Pos} {m : Nat} {S : Sc} {i : Int} {pl : Sem Bool} (T : Rs X.K X.mg C) (Q : Ms X.prog X.w X.K X.mg X.base C) (hr : Rm m X.A) (hm : 3 ≤ m) (ho : aV X o Γ M (scV C S)) (he : aV X e Γ M (.int i)) (hS : GoodS S) (h0 : 0 ≤ i) (hst : starEach [e] X.env = (false, eval e X.env) :: starEach [] X.env := by rfl)
    (ht : eval (.Call (.Attribute o "spine_at" apos) [e] [] pos) X.env = (do
      let ov ← eval o X.env
      standAt apos.atName
      let (f, first) ← holding [ov] (getMethod ov "spine_at" pl)
      callWith pos f first (backTo pos (starEach [e] X.env)) (backToKw pos (keywordEach [] X.env))) := by rfl) : aV X (.Call (.Attribute o "spine_at" apos) [e] [] pos) Γ M (.int (item S.sp i.toNat)) := av_sat T Q hr hm hS h0 ho he hst ht
theorem av_latp {X : Cx} {Γ : Gam} {M : Mem} {o e : Expr} {pos apos : Pos} {m : Nat} {S : Sc} {i : Int} {pl : Sem Bool} (T : Rs X.K X.mg C) (Q : Ms X.prog X.w X.K X.mg X.base C) (hr : Rm m X.A) (hm : 3 ≤ m) (ho : aV X o Γ M (scV C S)) (he : aV X e Γ M (.int i)) (hS : GoodS S) (h0 : 0 ≤ i) (hst : starEach [e] X.env = (false, eval e X.env) :: starEach [] X.env := by rfl)
    (ht : eval (.Call (.Attribute o "level_at" apos) [e] [] pos) X.env = (do
      let ov ← eval o X.env
      standAt apos.atName
      let (f, first) ← holding [ov] (getMethod ov "level_at" pl)
      callWith pos f first (backTo pos (starEach [e] X.env)) (backToKw pos (keywordEach [] X.env))) := by rfl) : aV X (.Call (.Attribute o "level_at" apos) [e] [] pos) Γ M (.int (item S.lv i.toNat)) := av_lat T Q hr hm hS h0 ho he hst ht
/-! ### is_prunable, pruned -/
def aIpr (C : Addr) : ASp := fun ds M R => ∃ (S : Sc), ds = [scV C S] ∧ GoodS S ∧ R (.bl (decide (0 < item S.lv 1))) M
structure PrI (P : Program) (w : World) (K : PySem.W.Frag) (mg : Str → Option Value) (base : Heap) (C : Addr) : Prop where
  ex : ∃ p g, PropOf K C "is_prunable" p g ∧ FX P w K mg base 2 g fun ds _ => aIpr C ds
theorem av_prunable {X : Cx} {Γ : Gam} {M : Mem} {o : Expr} {pos : Pos} {m : Nat} {S : Sc} (T : Rs X.K X.mg C) (Q : PrI X.prog X.w X.K X.mg X.base C) (hr : Rm m X.A) (hm : 3 ≤ m) (hS : GoodS S) (ho : aV X o Γ M (scV C S)) (hb : attributeBase o "is_prunable" X.env (eval o X.env) = eval o X.env := by rfl) : aV X (.Attribute o "is_prunable" pos) Γ M (.bl (decide (0 < item S.lv 1))) := by
  obtain ⟨p, g, hp, F⟩ := Q.ex
  exact ae_prop T.cl hp F (hr.mono hm) ho (.im _) ⟨S, rfl, hS, rfl, rfl⟩ hb
theorem swo_lim {s : Stm} (h : Lim s) (c : Nat) : Lim (nf (swo s c)) := by
  obtain ⟨h1, h2, h3⟩ := swo_ne h.ne c
  refine lim_nf h1 ?_ (by rw [h2]; exact h.l2) (fun v hv => ?_) (fun v hv => h.a2 v (h3 v hv))
  · unfold swo
    split
    · show (s.1.drop c).length ≤ 12
      rw [List.length_drop]
      have := h.l1
      omega
    · exact Nat.zero_le _
  · unfold swo at hv
    split at hv
    · exact h.a1 v (List.mem_of_mem_drop hv)
    · exact absurd hv (List.not_mem_nil)
theorem swo_l1 {s : Stm} (h : s.1.length ≤ 12) (c : Nat) : (swo s c).1.length ≤ 1000 := by
  unfold swo
  split
  · show (s.1.drop c).length ≤ 1000
    rw [List.length_drop]
    omega
  · exact Nat.zero_le _
def aPru (C : Addr) : ASp := fun ds M R => ∃ (S : Sc) (c : Nat), ds = [scV C S, .int (c : Int)] ∧ GoodS S ∧ (∀ j, 1 ≤ j → j ≤ c → item S.lv j ≠ 0) ∧ ∀ S' : Sc, GoodS S' → S'.a = S.a → (∀ i, item S'.sp i = item S.sp (i + c)) → (∀ i, item S'.lv i = item S.lv (i + c)) → R (scV C S') M
structure LmE (mg : Str → Option Value) : Prop where
  FRONT_LIMIT : ∃ t, mg "FRONT_LIMIT" = some (.int 12 t)
  LOOP_LIMIT : ∃ t, mg "LOOP_LIMIT" = some (.int 6 t)
  LABEL_LIMIT : ∃ t, mg "LABEL_LIMIT" = some (.int 1000000 t)
  ARITY_LIMIT : ∃ t, mg "ARITY_LIMIT" = some (.int 9 t)
end
end K09

namespace K09
open PySem L2 Ab Sm
theorem tim_ok {S : Sc} {m b : Int} (h : Bs b S) (h1 : 1 ≤ m) (hb : m * b ≤ 1000000) (i : Nat) : m * item S.sp i ≤ 1000000 ∧ m * item S.lv i ≤ 1000000 :=
  ⟨Int.le_trans (Int.mul_le_mul_of_nonneg_left (h.b1 i) (by omega)) hb, Int.le_trans (Int.mul_le_mul_of_nonneg_left (h.b2 i) (by omega)) hb⟩
theorem tim_bs {S S' : Sc} {m b : Int} (h : Bs b S) (h1 : 1 ≤ m) (g : GoodS S') (s1 : ∀ i, item S'.sp i = m * item S.sp i) (s2 : ∀ i, item S'.lv i = m * item S.lv i) : Bs (m * b) S' :=
  ⟨g, fun i hi => by rw [s1, s1, h.p1 i hi], fun i hi => by rw [s2, s2, h.p2 i hi], fun i => by rw [s1]; exact Int.mul_le_mul_of_nonneg_left (h.b1 i) (by omega), fun i => by rw [s2]; exact Int.mul_le_mul_of_nonneg_left (h.b2 i) (by omega)⟩
section
variable {X : Cx} {Γ : Gam} {M : Mem} {R : Val → Mem → Prop} {o e : Expr} {apos pos kp : Pos} {q : Nat} {C : Addr}
/-- o.times(e) -/
theorem ae_times {pl : Sem Bool} (T : Rs X.K X.mg C) (Q : Ms X.prog X.w X.K X.mg X.base C) (hr : Rm q X.A) (hq : 7 ≤ q) (b : Int) (h : aE X o Γ M fun d M0 => ∃ S m, d = scV C S ∧ aV X e Γ M0 (.int m) ∧ Bs b S ∧ 1 ≤ m ∧ m ≤ 1000 ∧ m * b ≤ 1000000 ∧
      ∀ S', Bs (m * b) S' → S'.a = S.a → (∀ i, item S'.sp i = m * item S.sp i) → (∀ i, item S'.lv i = m * item S.lv i) → R (scV C S') M0)
    (hst : starEach [e] X.env = (false, eval e X.env) :: starEach [] X.env := by rfl)
    (ht : eval (.Call (.Attribute o "times" apos) [e] [] pos) X.env = (do
      let ov ← eval o X.env
      standAt apos.atName
      let (f, first) ← holding [ov] (getMethod ov "times" pl)
      callWith pos f first (backTo pos (starEach [e] X.env)) (backToKw pos (keywordEach [] X.env))) := by rfl) : aE X (.Call (.Attribute o "times" apos) [e] [] pos) Γ M R := by
  obtain ⟨f, mt, F, _⟩ := Q.tim
  refine ae_methM T.cl mt F (hr.mono hq) (h.mono fun d M0 h0 => ?_) rfl rfl hst (by rw [hst]; rfl) ht
  obtain ⟨S, m, rfl, he, hS, h1, h2, h3, hR⟩ := h0
  exact ⟨_, .im _, rfl, aa_cons (he.val (aa_nil (ak_nil ⟨rfl, S, m, rfl, hS.g, h1, h2, tim_ok hS h1 h3, fun S' g a s1 s2 => hR S' (tim_bs hS h1 g s1 s2) a s1 s2⟩))) hst⟩
/-- o.times(factor=e) -/
theorem ae_timesK {pl : Sem Bool} {S : Sc} {m : Int} (T : Rs X.K X.mg C) (Q : Ms X.prog X.w X.K X.mg X.base C) (hr : Rm q X.A) (hq : 7 ≤ q) (b : Int) (ho : aV X o Γ M (scV C S)) (he : aV X e Γ M (.int m)) (hS : Bs b S) (h1 : 1 ≤ m) (h2 : m ≤ 1000) (h3 : m * b ≤ 1000000)
    (hR : ∀ S', Bs (m * b) S' → S'.a = S.a → (∀ i, item S'.sp i = m * item S.sp i) → (∀ i, item S'.lv i = m * item S.lv i) → R (scV C S') M)
    (ht : eval (.Call (.Attribute o "times" apos) [] [⟨some "factor", e, kp⟩] pos) X.env = (do
      let ov ← eval o X.env
      standAt apos.atName
      let (f, first) ← holding [ov] (getMethod ov "times" pl)
      callWith pos f first (backTo pos (starEach [] X.env)) (backToKw pos (keywordEach [⟨some "factor", e, kp⟩] X.env))) := by rfl) : aE X (.Call (.Attribute o "times" apos) [] [⟨some "factor", e, kp⟩] pos) Γ M R := by
  obtain ⟨f, mt, _, F⟩ := Q.tim
  exact ae_meth0 T.cl mt F (hr.mono hq) ho (.im _) rfl (ak_cons (he.val (ak_nil ⟨rfl, rfl, S, m, rfl, hS.g, h1, h2, tim_ok hS h1 h3, fun S' g a s1 s2 => hR S' (tim_bs hS h1 g s1 s2) a s1 s2⟩))) rfl rfl rfl ht
/-- o.delayed(e) -/
theorem ae_delayed {pl : Sem Bool} {S : Sc} {n : Int} (T : Rs X.K X.mg C) (Q : Ms X.prog X.w X.K X.mg X.base C) (hr : Rm q X.A) (hq : 7 ≤ q) (ho : aV X o Γ M (scV C S)) (he : aV X e Γ M (.int n)) (hS : GoodS S) (h0 : 0 ≤ n) (h1 : item S.sp 0 + n ≤ 1000000)
    (hR : ∀ S' : Sc, GoodS S' → S'.a = S.a → (∀ i, item S'.sp i = if i = 0 then item S.sp 0 + n else item S.sp i) → S'.lv = S.lv → R (scV C S') M)
    (hst : starEach [e] X.env = (false, eval e X.env) :: starEach [] X.env := by rfl)
    (ht : eval (.Call (.Attribute o "delayed" apos) [e] [] pos) X.env = (do
      let ov ← eval o X.env
      standAt apos.atName
      let (f, first) ← holding [ov] (getMethod ov "delayed" pl)
      callWith pos f first (backTo pos (starEach [e] X.env)) (backToKw pos (keywordEach [] X.env))) := by rfl) : aE X (.Call (.Attribute o "delayed" apos) [e] [] pos) Γ M R := by
  obtain ⟨f, mt, F, _⟩ := Q.del
  exact ae_meth T.cl mt F (hr.mono hq) ho (.im _) rfl (aa_cons (he.val (aa_nil (ak_nil ⟨rfl, S, n, rfl, hS, h0, h1, hR⟩))) hst) rfl rfl hst (by rw [hst]; rfl) ht
/-- o.delayed(labels=e) -/
theorem ae_delayedK {pl : Sem Bool} {S : Sc} {n : Int} (T : Rs X.K X.mg C) (Q : Ms X.prog X.w X.K X.mg X.base C) (hr : Rm q X.A) (hq : 7 ≤ q) (ho : aV X o Γ M (scV C S)) (he : aV X e Γ M (.int n)) (hS : GoodS S) (h0 : 0 ≤ n) (h1 : item S.sp 0 + n ≤ 1000000)
    (hR : ∀ S' : Sc, GoodS S' → S'.a = S.a → (∀ i, item S'.sp i = if i = 0 then item S.sp 0 + n else item S.sp i) → S'.lv = S.lv → R (scV C S') M)
    (ht : eval (.Call (.Attribute o "delayed" apos) [] [⟨some "labels", e, kp⟩] pos) X.env = (do
      let ov ← eval o X.env
      standAt apos.atName
      let (f, first) ← holding [ov] (getMethod ov "delayed" pl)
      callWith pos f first (backTo pos (starEach [] X.env)) (backToKw pos (keywordEach [⟨some "labels", e, kp⟩] X.env))) := by rfl) : aE X (.Call (.Attribute o "delayed" apos) [] [⟨some "labels", e, kp⟩] pos) Γ M R := by
  obtain ⟨f, mt, _, F⟩ := Q.del
  exact ae_meth0 T.cl mt F (hr.mono hq) ho (.im _) rfl (ak_cons (he.val (ak_nil ⟨rfl, rfl, S, n, rfl, hS, h0, h1, hR⟩))) rfl rfl rfl ht
/-- an object's item, the object any expression -/
theorem ae_sat {pl : Sem Bool} (T : Rs X.K X.mg C) (Q : Ms X.prog X.w X.K X.mg X.base C) (hr : Rm q X.A) (hq : 3 ≤ q) (h : aE X o Γ M fun d M0 => ∃ S i, d = scV C S ∧ aV X e Γ M0 (.int i) ∧ GoodS S ∧ 0 ≤ i ∧ R (.int (item S.sp i.toNat)) M0)
    (hst : starEach [e] X.env = (false, eval e X.env) :: starEach [] X.env := by rfl)
    (ht : eval (.Call (.Attribute o "spine_at" apos) [e] [] pos) X.env = (do
      let ov ← eval o X.env
      standAt apos.atName
      let (f, first) ← holding [ov] (getMethod ov "spine_at" pl)
      callWith pos f first (backTo pos (starEach [e] X.env)) (backToKw pos (keywordEach [] X.env))) := by rfl) : aE X (.Call (.Attribute o "spine_at" apos) [e] [] pos) Γ M R := by
  obtain ⟨f, mt, F⟩ := Q.sat
  refine ae_methM T.cl mt F (hr.mono hq) (h.mono fun d M0 h0 => ?_) rfl rfl hst (by rw [hst]; rfl) ht
  obtain ⟨S, i, rfl, he, hS, h0, hR⟩ := h0
  exact ⟨_, .im _, rfl, aa_cons (he.val (aa_nil (ak_nil ⟨rfl, S, i, rfl, hS, h0, hR⟩))) hst⟩
end
end K09

namespace K09
open PySem L2 Ab Sm
theorem Seq.lim {lo : Int} {s : Stm} (h : Seq lo s) : Lim s := ⟨by have := h.l1; omega, Nat.le_of_dvd (by decide) h.l2, h.ne, fun v hv => ⟨(h.a1 v hv).1, by have := (h.a1 v hv).2; omega⟩, fun v hv => ⟨(h.a2 v hv).1, by have := (h.a2 v hv).2; omega⟩⟩
theorem Seq.bd {lo : Int} {s : Stm} (h : Seq lo s) (i : Nat) : item s i ≤ 99999 := by
  rcases item_mem h.ne i with z | z
  · have := (h.a1 _ z).2
    omega
  · have := (h.a2 _ z).2
    omega
theorem seq_bs {a : Int} {s l : Stm} (a2 : 2 ≤ a) (a9 : a ≤ 9) (hs : Seq 0 s) (hl : Seq 1 l) : Bs 99999 ⟨a, nf s, nf l⟩ := by
  have n1 := nf_spec hs.ne
  have n2 := nf_spec hl.ne
  have hs1 := hs.l1
  have hl1 := hl.l1
  have q1 : Lim (nf s) := lim_nf hs.ne hs.lim.l1 hs.lim.l2 hs.lim.a1 hs.lim.a2
  have q2 : Lim (nf l) := lim_nf hl.ne hl.lim.l1 hl.lim.l2 hl.lim.a1 hl.lim.a2
  have h0 := hl.lo
  refine ⟨good_nf a2 a9 hs.ne hl.ne q1 q2 (by omega), fun i hi => ?_, fun i hi => ?_, fun i => ?_, fun i => ?_⟩
  · show item (nf s) (i + 6) = item (nf s) i
    rw [n1.it, n1.it]
    exact item_per hs.l2 (by omega)
  · show item (nf l) (i + 6) = item (nf l) i
    rw [n2.it, n2.it]
    exact item_per hl.l2 (by omega)
  · show item (nf s) i ≤ 99999
    rw [n1.it]
    exact hs.bd i
  · show item (nf l) i ≤ 99999
    rw [n2.it]
    exact hl.bd i
/-- the three, as the program makes them -/
theorem three_of {Ss : List Sc} {A L H : Sc} (hne : Ss ≠ []) (hln : Ss.length ≤ 4) (hb : ∀ S ∈ Ss, Bs 99999 S) (har : ∀ S ∈ Ss, ∀ S' ∈ Ss, S.a = S'.a) (gA : GoodS A) (gL : GoodS L) (gH : GoodS H) (aA : ∀ S ∈ Ss, A.a = S.a) (aL : ∀ S ∈ Ss, L.a = S.a) (aH : ∀ S ∈ Ss, H.a = S.a)
    (s1 : ∀ i, item A.sp i = colF .sum (Ss.map Sc.sp) i) (s2 : ∀ i, item A.lv i = colF .sum (Ss.map Sc.lv) i) (s3 : ∀ i, item L.sp i = colF .least (Ss.map Sc.sp) i) (s4 : ∀ i, item L.lv i = colF .least (Ss.map Sc.lv) i) (s5 : ∀ i, item H.sp i = colF .greatest (Ss.map Sc.sp) i) (s6 : ∀ i, item H.lv i = colF .greatest (Ss.map Sc.lv) i) : Three Ss A L H :=
  ⟨hne, hln, hb, har, gA, gL, gH, aA, aL, aH, fun i => by rw [s1, col_sp]; rfl, fun i => by rw [s2, col_lv]; rfl, fun i => by rw [s3, col_sp]; rfl, fun i => by rw [s4, col_lv]; rfl, fun i => by rw [s5, col_sp]; rfl, fun i => by rw [s6, col_lv]; rfl⟩
theorem cb4 {wd : Wd} {Ss : List Sc} (hne : Ss ≠ []) (hln : Ss.length ≤ 4) (hb : ∀ S ∈ Ss, Bs 99999 S) (har : ∀ S ∈ Ss, ∀ S' ∈ Ss, S.a = S'.a) : Cb wd Ss := by
  refine cb_of (b := 99999) hne (by omega) hb har ?_
  cases wd
  · show (Ss.length : Int) * 99999 ≤ 1000000
    omega
  · show (99999 : Int) ≤ 1000000
    decide
  · show (99999 : Int) ≤ 1000000
    decide
end K09

namespace Ab
open PySem PySem.Spec PyProof.Rows L2
section
variable {X : Cx} {Γ : Gam} {M : Mem} {P : Val → Mem → Prop} {e a b c o : Expr} {es : List Expr} {pos p1 p2 apos kpos : Pos} {k : AK} {d d1 d2 d3 : Val} {i j l : Int} {x y m f : Str} {n : Nat} {C : Addr} {p q : Prop}
/-- loops at a def's end: slots are forgotten, cells are not -/
abbrev Wl (I : Gam → Mem → Prop) : Gam → Mem → Prop := fun Γ M => ∃ Γ', I Γ' M ∧ Le Γ' Γ
theorem as_forL {tg iter : Expr} {body : List Stmt} (hp : PassesOwn (model X.prog X.w) X.A X.env X.xe) (hc : X.calm = true)
    (hi : aJ X tg iter Γ M fun n it M1 => ∃ I : Nat → Gam → Mem → Prop, Wl (I 0) Γ M1 ∧ (∀ i Γ M, i < n → I i Γ M → aG X tg (it i) Γ M fun Γ2 M2 => aSs X body Γ2 M2 { k with nx := Wl (I (i + 1)), ct := Wl (I (i + 1)), bk := k.nx }) ∧ ∀ Γ M, I n Γ M → k.nx Γ M)
    (hk : ∀ Γ Γ' M, Le Γ' Γ → k.nx Γ' M → k.nx Γ M := by intro _ _ _ l h; first | exact h | exact as_le l h)
    (hf : ∀ x, foldedSetIterable iter X.env x = pure x := by intro _; rfl) : aS X (.For tg iter body [] pos) Γ M k :=
  as_forJ hp hc (fun Hi H σ ok en R' q => hi Hi H σ ok en R' fun J n it M1 Hi1 H1 ⟨I, h0, hs, hd⟩ => q J n it M1 Hi1 H1 ⟨fun i => Wl (I i), h0, fun i Γ' M' hi' ⟨Γ0, h, l⟩ => fun Hi H σ v ok en r Q q => hs i Γ0 M' hi' h Hi H σ v ok (l.env en) r Q q, fun Γ' M' ⟨Γ0, h, l⟩ => hk _ _ _ l (hd Γ0 M' h)⟩) hf
theorem as_whileL {body : List Stmt} (I : Nat → Gam → Mem → Prop) (n : Nat) (hp : PassesOwn (model X.prog X.w) X.A X.env X.xe) (h0 : Wl (I n) Γ M)
    (hs : ∀ n Γ M, I n Γ M → ∃ p, TP X c Γ M p ∧ (p → aSs X body Γ M { k with nx := Wl fun Γ' M' => ∃ m, m < n ∧ I m Γ' M', ct := Wl fun Γ' M' => ∃ m, m < n ∧ I m Γ' M', bk := k.nx }) ∧ (¬ p → k.nx Γ M))
    (hk : ∀ Γ Γ' M, Le Γ' Γ → k.nx Γ' M → k.nx Γ M := by intro _ _ _ l h; first | exact h | exact as_le l h) : aS X (.While c body [] pos) Γ M k :=
  as_while (fun n => Wl (I n)) n hp h0 fun n Γ' M' ⟨Γ0, h, l⟩ => by
    obtain ⟨p, ⟨b, hb, i⟩, h1, h2⟩ := hs n Γ0 M' h
    intro Hi H σ ok en Q q
    refine hb Hi H σ ok (l.env en) Q fun b' M1 Hi' H' hh => ?_
    obtain ⟨rfl, rfl⟩ := hh
    refine q _ _ Hi' H' ⟨fun z => ?_, fun z => hk _ _ _ l (h2 fun y => by rw [i.mpr y] at z; cases z)⟩
    refine as_le l ((h1 (i.mp z)).mono ?_ (fun _ _ h => h) (fun _ _ h => h) ?_)
    · rintro Γ5 M5 ⟨Γ6, ⟨m, hm, h6⟩, l6⟩
      exact ⟨m, hm, Γ6, h6, l6⟩
    · rintro Γ5 M5 ⟨Γ6, ⟨m, hm, h6⟩, l6⟩
      exact ⟨m, hm, Γ6, h6, l6⟩
/-- o.m(), o.m(e), o.m(e, e2) by a promise that hides the address -/
theorem ae_mt0 {n q : Nat} {C : Addr} {m : Str} {s : ASp} {fs : List (Str × Val)} {pl : Sem Bool} (c : Cls X.K C) (F : ∃ f, Meth X.K C m f ∧ FX X.prog X.w X.K X.mg X.base n f fun ds _ => s ds) (hr : Rm q X.A) (hq : n ≤ q) (ho : aV X o Γ M d) (hob : Ob M C d fs) (h : s [d] M P) (hl : fs.lookup m = none := by rfl)
    (ht : eval (.Call (.Attribute o m apos) [] [] pos) X.env = (do
      let ov ← eval o X.env
      standAt apos.atName
      let (f, first) ← holding [ov] (getMethod ov m pl)
      callWith pos f first (backTo pos (starEach [] X.env)) (backToKw pos (keywordEach [] X.env))) := by rfl) : aE X (.Call (.Attribute o m apos) [] [] pos) Γ M P := by
  obtain ⟨f, mt, F⟩ := F
  exact ae_meth0 c mt F (hr.mono hq) ho hob hl (ak_nil ⟨rfl, h⟩) rfl rfl rfl ht
theorem ae_mt1 {n q : Nat} {C : Addr} {m : Str} {s : ASp} {fs : List (Str × Val)} {pl : Sem Bool} (c : Cls X.K C) (F : ∃ f, Meth X.K C m f ∧ FX X.prog X.w X.K X.mg X.base n f fun ds _ => s ds) (hr : Rm q X.A) (hq : n ≤ q) (ho : aV X o Γ M d) (hob : Ob M C d fs) (h : aE X e Γ M fun x M1 => s [d, x] M1 P) (hl : fs.lookup m = none := by rfl)
    (hst : starEach [e] X.env = (false, eval e X.env) :: starEach [] X.env := by rfl)
    (ht : eval (.Call (.Attribute o m apos) [e] [] pos) X.env = (do
      let ov ← eval o X.env
      standAt apos.atName
      let (f, first) ← holding [ov] (getMethod ov m pl)
      callWith pos f first (backTo pos (starEach [e] X.env)) (backToKw pos (keywordEach [] X.env))) := by rfl) : aE X (.Call (.Attribute o m apos) [e] [] pos) Γ M P := by
  obtain ⟨f, mt, F⟩ := F
  exact ae_meth c mt F (hr.mono hq) ho hob hl (aa_cons (h.mono fun x M1 hx => aa_nil (ak_nil ⟨rfl, hx⟩)) hst) rfl rfl hst (by rw [hst]; rfl) ht
theorem ae_mt2 {n q : Nat} {C : Addr} {m : Str} {s : ASp} {fs : List (Str × Val)} {pl : Sem Bool} (c : Cls X.K C) (F : ∃ f, Meth X.K C m f ∧ FX X.prog X.w X.K X.mg X.base n f fun ds _ => s ds) (hr : Rm q X.A) (hq : n ≤ q) (ho : aV X o Γ M d) (hob : Ob M C d fs) (h : aE X e Γ M fun x M1 => aE X b Γ M1 fun y M2 => s [d, x, y] M2 P) (hl : fs.lookup m = none := by rfl)
    (hst : starEach [e, b] X.env = (false, eval e X.env) :: starEach [b] X.env := by rfl) (hst2 : starEach [b] X.env = (false, eval b X.env) :: starEach [] X.env := by rfl)
    (ht : eval (.Call (.Attribute o m apos) [e, b] [] pos) X.env = (do
      let ov ← eval o X.env
      standAt apos.atName
      let (f, first) ← holding [ov] (getMethod ov m pl)
      callWith pos f first (backTo pos (starEach [e, b] X.env)) (backToKw pos (keywordEach [] X.env))) := by rfl) : aE X (.Call (.Attribute o m apos) [e, b] [] pos) Γ M P := by
  obtain ⟨f, mt, F⟩ := F
  exact ae_meth c mt F (hr.mono hq) ho hob hl (aa_cons (h.mono fun x M1 hx => aa_cons (hx.mono fun y M2 hy => aa_nil (ak_nil ⟨rfl, hy⟩)) hst2) hst) rfl rfl hst (by rw [hst, hst2]; rfl) ht
/-- x = y = e -/
theorem as_asg2 {t1 t2 : Expr} (he : aV X e Γ M d) (h : aG X t1 d Γ M fun Γ1 M1 => aG X t2 d Γ1 M1 k.nx) (ha : (assignEach [t1, t2] X.env).map (·.2) = [assign t1 X.env, assign t2 X.env] := by rfl) (hw : swappedStores [t1, t2] e X.env = pure none := by rfl) : aS X (.Assign [t1, t2] e pos) Γ M k := fun Hi H σ ok en D q => by
  refine ⟨_, ps_asg2 pe_we pg_wg pg_wg ha hw, ?_⟩
  refine he Hi H σ ok en _ fun x M1 v Hi1 H1 h1 s1 ok1 r1 => ?_
  obtain ⟨rfl, rfl⟩ := h1
  refine h Hi1 H1 σ v ok1 (en.mono s1) r1 _ fun Γ2 M2 σ2 Hi2 H2 h2 s2 ok2 en2 => ?_
  exact h2 Hi2 H2 σ2 v ok2 en2 (r1.mono s2) _ fun Γ3 M3 σ3 Hi3 H3 h3 s3 ok3 en3 => q.nx _ _ _ Hi3 H3 h3 ((s1.trans s2).trans s3) ok3 en3
/-- cells in another order -/
theorem as_perm {M' : Mem} {s : List Stmt} (l : M'.Perm M) (h : aSs X s Γ M' k) : aSs X s Γ M k := fun Hi H σ ok en D q => h Hi H σ (ok.perm l) en D q
theorem ae_perm (h : aE X e Γ M fun d M1 => ∃ M2, M2.Perm M1 ∧ P d M2) : aE X e Γ M P := fun Hi H σ ok en Q q => h Hi H σ ok en Q fun d M1 v Hi' H' ⟨M2, hp, hP⟩ s ok' r => q d M2 v Hi' H' hP s (ok'.perm hp) r
theorem ae_subP (h : aE X e Γ M fun d M1 => ∃ M2, M2.Sublist M1 ∧ P d M2) : aE X e Γ M P := fun Hi H σ ok en Q q => h Hi H σ ok en Q fun d M1 v Hi' H' ⟨M2, hp, hP⟩ s ok' r => q d M2 v Hi' H' hP s (ok'.sub hp) r
theorem aj_tup {tg : Expr} {P : Nat → (Nat → Val) → Mem → Prop} (ha : aE X a Γ M fun d M' => ∃ xs, d = .tup xs ∧ P xs.length (fun i => xs.getD i .non) M') : aJ X tg a Γ M P := fun Hi H σ ok en R' q => by
  refine ⟨_, pi_tup pe_we, ?_⟩
  refine ha Hi H σ ok en _ fun d M1 v Hi1 H1 h1 s1 ok1 r1 => ?_
  obtain ⟨xs, rfl, hp⟩ := h1
  cases r1 with
  | @tup p ys _ hq ra =>
    refine ⟨p, rfl, ⟨ys, sameT ok1.im hq⟩, q _ xs.length _ M1 Hi1 H1 hp s1 ok1 ?_⟩
    rw [ra.length]
    refine walk_tup.mono (fun H' hG => ?_) fun i H' v H'' hi hG hy Hi' M' s2 ok2 => ?_
    · obtain ⟨Hi', M', s2, ok2⟩ := hG
      exact sameT ok2.im (sameT s2 hq)
    · obtain ⟨rfl, hv⟩ := hy
      exact ⟨Hi', Same.refl _, ok2, (Sq.at ra hv).mono s2⟩
/-- o.NAME, a constant of o's class -/
theorem av_con {u : Value} {v : V} {fs : List (Str × Val)} (c : Cls X.K C) (hc : Con X.K C f v u) (ha : aV X a Γ M d) (ho : Ob M C d fs) (hl : fs.lookup f = none) (rep : ∀ H, Rep X.K H d1 v) (hb : attributeBase a f X.env (eval a X.env) = eval a X.env := by rfl) : aV X (.Attribute a f pos) Γ M d1 := fun Hi H σ ok en Q q => by
  refine ⟨_, pe_con pe_we hb, ?_⟩
  refine ha Hi H σ ok en _ fun x M1 w Hi1 H1 h1 s1 ok1 r1 => ?_
  obtain ⟨rfl, rfl⟩ := h1
  obtain ⟨p, dx, gs, rfl, hq, ra⟩ := ho.rep ok1 r1
  exact ⟨p, C, dx, gs, v, u, rfl, hq, c, hc, ra.none hl, q _ _ v Hi1 H1 ⟨rfl, rfl⟩ s1 ok1 (rep _)⟩
end
/-- the last of a list of ints -/
theorem atI_lastE {g : List Int} {n : Nat} {v : Int} (h : g.length = n + 1) (hv : g.getD n 0 = v) : atI (g.map Val.int) (-1) = some (.int v) := by
  have hne : g ≠ [] := fun z => by rw [z] at h; simp at h
  rw [atI_last hne, h, Nat.add_sub_cancel, hv]

section
open PySem
variable {K : PySem.W.Frag} {x qual : Str} {st : Stmt} {f : Addr} {oc : Value} {od an : Option Addr} {doc pm cdv ct : Value} {osl : Array (Option Value)}
theorem fd_kw1 {D : Addr} {k1 : Str} {v1 : V} {u1 : Value} (l : K.lookup f = some ⟨oc, od, .func (PySem.W.fnOf x qual (defArgs st) (defBody st) (defScope st) .none (.ref D) doc pm an cdv ct), osl⟩)
    (c : PySem.W.codeIn K cdv qual = true) (k : PySem.W.keepIn K (.ref f) = true) (n1 : PySem.W.nsIn K D k1 = some (some u1)) (r1 : RelV v1 u1) :
    FunD K x qual (defArgs st) (defBody st) (defScope st) [] [(k1, v1)] f (PySem.W.fnOf x qual (defArgs st) (defBody st) (defScope st) .none (.ref D) doc pm an cdv ct) :=
  ⟨⟨oc, od, .none, .ref D, doc, pm, an, cdv, ct, osl, rfl, l, c, .inl ⟨rfl, rfl⟩, .inr ⟨D, rfl, fun q hq => by
    rcases List.mem_cons.mp hq with e | hq
    · subst e
      exact ⟨u1, n1, r1⟩
    · cases hq⟩⟩, k⟩
end
end Ab

namespace Sm
/-! ### counting nodes of one height: la 0 is the size of the whole subtree below such a node, la j (j > 0) the labels of a node j higher; sp j the spine items above; own the node's own labels; a0 the first place; eh the end of the stage of the spine node -/
structure Ct where
  k : Nat
  la : Nat → Int
  sp : Nat → Int
  own : Int
  a0 : Int
  eh : Int
structure CtOk (c : Ct) : Prop where
  k2 : 2 ≤ c.k
  la : ∀ j, 0 ≤ c.la j
  l0 : 0 < c.la 0
  sp : ∀ j, 0 ≤ c.sp j
  o0 : 0 ≤ c.own
  o1 : c.own ≤ c.la 0
  a0 : 0 ≤ c.a0
  ae : c.a0 ≤ c.eh
def zz (c : Ct) : Nat → Int
  | 0 => c.la 0
  | t + 1 => c.la (t + 1) + c.k * zz c t
def en (c : Ct) : Nat → Int
  | 0 => c.eh
  | t + 1 => en c t + c.sp t + (c.k - 1) * zz c t
/-- quotients up to t -/
def fq (c : Ct) (t i : Nat) : Int := smN (fun j => c.la j * ((i / c.k ^ j : Nat) : Int)) (t + 1)
def qq (c : Ct) (t i : Nat) : Int := c.own + smN (fun j => c.la (j + 1)) t + fq c t i
/-- the place of the node with b nodes before it -/
def pp (c : Ct) (b : Nat) : Int := if b = 0 then c.a0 else c.eh - c.la 0 + c.own + smN (fun j => if c.k ^ j ≤ b then c.sp j else 0) b + fq c b b
section
variable {c : Ct}
theorem zz_pos (h : CtOk c) : ∀ t, 0 < zz c t
  | 0 => h.l0
  | t + 1 => by
    have h1 := zz_pos h t
    have h2 := h.la (t + 1)
    have h3 : (0 : Int) < c.k * zz c t := Int.mul_pos (by have := h.k2; omega) h1
    rw [zz]
    omega
theorem fq_digit (h : CtOk c) {t d i : Nat} (hi : i < c.k ^ t) : fq c t (d * c.k ^ t + i) = d * zz c t + fq c t i := by
  have hk := h.k2
  have key : ∀ s, s ≤ t → smN (fun j => c.la j * (((d * c.k ^ t + i) / c.k ^ j : Nat) : Int)) (s + 1) = d * (c.k : Int) ^ (t - s) * zz c s + smN (fun j => c.la j * ((i / c.k ^ j : Nat) : Int)) (s + 1) := by
    intro s
    induction s with
    | zero =>
      intro _
      simp only [smN, zz, Nat.pow_zero, Nat.div_one, Nat.sub_zero]
      rw [Int.natCast_add, Int.natCast_mul, Int.natCast_pow, Int.mul_add, Int.mul_comm (c.la 0) ((d : Int) * _)]
      omega
    | succ s ih =>
      intro hs
      rw [smN, ih (by omega), smN.eq_def _ (s + 1 + 1)]
      simp only
      have e1 : (d * c.k ^ t + i) / c.k ^ (s + 1) = d * c.k ^ (t - (s + 1)) + i / c.k ^ (s + 1) := by
        have : d * c.k ^ t = c.k ^ (s + 1) * (d * c.k ^ (t - (s + 1))) := by
          rw [Nat.mul_left_comm, ← Nat.pow_add, show s + 1 + (t - (s + 1)) = t by omega]
        rw [this, Nat.mul_add_div (Nat.pow_pos (by omega))]
      have e2 : (c.k : Int) ^ (t - s) = c.k ^ (t - (s + 1)) * c.k := by
        rw [show t - s = t - (s + 1) + 1 by omega, Int.pow_succ]
      rw [e1, zz, e2, Int.natCast_add, Int.natCast_mul, Int.natCast_pow]
      generalize (c.k : Int) ^ (t - (s + 1)) = K
      generalize ((i / c.k ^ (s + 1) : Nat) : Int) = I
      generalize smN (fun j => c.la j * ((i / c.k ^ j : Nat) : Int)) (s + 1) = Z
      rw [Int.mul_add, Int.mul_add, ← Int.mul_assoc (d : Int) K (c.k : Int), Int.mul_assoc ((d : Int) * K) (c.k : Int) (zz c s), Int.mul_comm (c.la (s + 1)) ((d : Int) * K)]
      omega
  have := key t (Nat.le_refl _)
  rw [Nat.sub_self, Int.pow_zero, Int.mul_one] at this
  exact this
theorem fq_succ {t i : Nat} (hi : i < c.k ^ (t + 1)) : fq c (t + 1) i = fq c t i := by
  unfold fq
  rw [smN, Nat.div_eq_of_lt hi]
  simp
theorem qq_digit (h : CtOk c) {t d i : Nat} (hd : d < c.k) (hi : i < c.k ^ t) : qq c (t + 1) (d * c.k ^ t + i) = c.la (t + 1) + d * zz c t + qq c t i := by
  have hlt : d * c.k ^ t + i < c.k ^ (t + 1) := by
    rw [Nat.pow_succ, Nat.mul_comm (c.k ^ t)]
    have : (d + 1) * c.k ^ t ≤ c.k * c.k ^ t := Nat.mul_le_mul_right _ hd
    rw [Nat.succ_mul] at this
    omega
  unfold qq
  rw [fq_succ hlt, fq_digit h hi, smN]
  omega
theorem fq_nn (h : CtOk c) (t i : Nat) : 0 ≤ fq c t i := by
  have : smN (fun _ => 0) (t + 1) ≤ fq c t i := smN_le fun j _ => Int.mul_nonneg (h.la j) (Int.natCast_nonneg _)
  have e : ∀ n, smN (fun _ => 0) n = 0 := fun n => by
    induction n with
    | zero => rfl
    | succ n ih => rw [smN, ih]; rfl
  rw [e] at this
  exact this
theorem sm_nn {f : Nat → Int} (h : ∀ j, 0 ≤ f j) : ∀ n, 0 ≤ smN f n
  | 0 => Int.le_refl _
  | n + 1 => by
    have := sm_nn h n
    have := h n
    rw [smN]
    omega
theorem qq_nn (h : CtOk c) (t i : Nat) : 0 ≤ qq c t i := by
  have h1 := h.o0
  have h2 := fq_nn h t i
  have h3 := sm_nn (f := fun j => c.la (j + 1)) (fun j => h.la _) t
  unfold qq
  omega
theorem qq_le (h : CtOk c) : ∀ (t i : Nat), i < c.k ^ t → qq c t i ≤ zz c t
  | 0, i, hi => by
    have : i = 0 := by simpa using hi
    subst this
    have := h.o1
    simp [qq, fq, smN, zz]
    omega
  | t + 1, i, hi => by
    have hp : 0 < c.k ^ t := Nat.pow_pos (by have := h.k2; omega)
    have e : i = (i / c.k ^ t) * c.k ^ t + i % c.k ^ t := by rw [Nat.mul_comm]; exact (Nat.div_add_mod i _).symm
    have hd : i / c.k ^ t < c.k := Nat.div_lt_of_lt_mul (by rw [← Nat.pow_succ]; exact hi)
    have hm : i % c.k ^ t < c.k ^ t := Nat.mod_lt _ hp
    have ih := qq_le h t _ hm
    rw [e, qq_digit h hd hm, zz]
    have hz := zz_pos h t
    have : ((i / c.k ^ t : Nat) : Int) * zz c t ≤ (c.k - 1) * zz c t := Int.mul_le_mul_of_nonneg_right (by omega) (by omega)
    have e2 : ((c.k : Int) - 1) * zz c t = c.k * zz c t - zz c t := by rw [Int.sub_mul]; omega
    omega
/-- the search inside a whole tree of t steps -/
def ins (c : Ct) : Nat → Int → Int
  | 0, off => if c.own ≤ off then 1 else 0
  | t + 1, off => if off < c.la (t + 1) then 0 else (off - c.la (t + 1)) / zz c t * ((c.k ^ t : Nat) : Int) + ins c t ((off - c.la (t + 1)) % zz c t)
/-- q whole parts and one with v -/
theorem digit_count {k q i d N : Nat} {Z r Q : Int} {v : Int} (hN : 0 < N) (hi : i < N) (hZ : 0 < Z) (r0 : 0 ≤ r) (r1 : r < Z) (Q0 : 0 ≤ Q) (Q1 : Q ≤ Z) (v0 : 0 ≤ v) (v1 : v ≤ N) (hv : (i : Int) < v ↔ Q ≤ r) :
    (((d * N + i : Nat) : Int) < (q : Int) * (N : Int) + v ↔ (d : Int) * Z + Q ≤ (q : Int) * Z + r) := by
  rw [Int.natCast_add, Int.natCast_mul]
  rcases Nat.lt_trichotomy d q with hlt | heq | hgt
  · have e1 : ((d : Int) + 1) * (N : Int) ≤ (q : Int) * (N : Int) := Int.mul_le_mul_of_nonneg_right (by omega) (by omega)
    have e2 : ((d : Int) + 1) * Z ≤ (q : Int) * Z := Int.mul_le_mul_of_nonneg_right (by omega) (by omega)
    rw [Int.add_mul] at e1 e2
    constructor
    · intro _; omega
    · intro _; omega
  · subst heq
    constructor
    · intro h1
      have := hv.mp (by omega)
      omega
    · intro h1
      have := hv.mpr (by omega)
      omega
  · have e1 : ((q : Int) + 1) * (N : Int) ≤ (d : Int) * (N : Int) := Int.mul_le_mul_of_nonneg_right (by omega) (by omega)
    have e2 : ((q : Int) + 1) * Z ≤ (d : Int) * Z := Int.mul_le_mul_of_nonneg_right (by omega) (by omega)
    rw [Int.add_mul] at e1 e2
    constructor
    · intro _; omega
    · intro _; omega
theorem ins_spec (h : CtOk c) : ∀ (t : Nat) (off : Int), 0 ≤ off → off < zz c t → 0 ≤ ins c t off ∧ ins c t off ≤ ((c.k ^ t : Nat) : Int) ∧ ∀ i, i < c.k ^ t → ((i : Int) < ins c t off ↔ qq c t i ≤ off)
  | 0, off, h0, h1 => by
    unfold ins
    refine ⟨by split <;> omega, by rw [Nat.pow_zero]; split <;> omega, fun i hi => ?_⟩
    have : i = 0 := by simpa using hi
    subst this
    have e : qq c 0 0 = c.own := by simp [qq, fq, smN]
    rw [e]
    split <;> omega
  | t + 1, off, h0, h1 => by
    have hk := h.k2
    have hz := zz_pos h t
    have hp : 0 < c.k ^ t := Nat.pow_pos (by omega)
    unfold ins
    by_cases hc : off < c.la (t + 1)
    · rw [if_pos hc]
      refine ⟨by omega, by omega, fun i hi => ?_⟩
      have e : i = (i / c.k ^ t) * c.k ^ t + i % c.k ^ t := by rw [Nat.mul_comm]; exact (Nat.div_add_mod i _).symm
      have hd : i / c.k ^ t < c.k := Nat.div_lt_of_lt_mul (by rw [← Nat.pow_succ]; exact hi)
      have hm : i % c.k ^ t < c.k ^ t := Nat.mod_lt _ hp
      have q0 := qq_nn h t (i % c.k ^ t)
      have : 0 ≤ ((i / c.k ^ t : Nat) : Int) * zz c t := Int.mul_nonneg (Int.natCast_nonneg _) (by omega)
      constructor
      · intro z; omega
      · intro z
        rw [e, qq_digit h hd hm] at z
        omega
    · rw [if_neg hc]
      have o0 : 0 ≤ off - c.la (t + 1) := by omega
      rw [zz] at h1
      have ho : off - c.la (t + 1) < c.k * zz c t := by omega
      have hoff : off = off - c.la (t + 1) + c.la (t + 1) := by omega
      generalize off - c.la (t + 1) = o at *
      have r0 := Int.emod_nonneg o (show zz c t ≠ 0 by omega)
      have r1 := Int.emod_lt_of_pos o hz
      have eo := Int.mul_ediv_add_emod o (zz c t)
      have q0 : 0 ≤ o / zz c t := Int.ediv_nonneg o0 (by omega)
      have q1 : o / zz c t < c.k := Int.ediv_lt_of_lt_mul hz ho
      obtain ⟨q, hq⟩ := Int.eq_ofNat_of_zero_le q0
      rw [hq] at eo q1 ⊢
      obtain ⟨i0, i1, i2⟩ := ins_spec h t (o % zz c t) r0 r1
      refine ⟨?_, ?_, fun i hi => ?_⟩
      · have : 0 ≤ (q : Int) * ((c.k ^ t : Nat) : Int) := Int.mul_nonneg (by omega) (by omega)
        omega
      · have e1 : ((q : Int) + 1) * ((c.k ^ t : Nat) : Int) ≤ (c.k : Int) * ((c.k ^ t : Nat) : Int) := Int.mul_le_mul_of_nonneg_right (by omega) (by omega)
        rw [Int.add_mul] at e1
        rw [Nat.pow_succ, Nat.mul_comm, Int.natCast_mul]
        omega
      · have e : i = (i / c.k ^ t) * c.k ^ t + i % c.k ^ t := by rw [Nat.mul_comm]; exact (Nat.div_add_mod i _).symm
        have hd : i / c.k ^ t < c.k := Nat.div_lt_of_lt_mul (by rw [← Nat.pow_succ]; exact hi)
        have hm : i % c.k ^ t < c.k ^ t := Nat.mod_lt _ hp
        have dc := digit_count (k := c.k) (q := q) (i := i % c.k ^ t) (d := i / c.k ^ t) hp hm hz r0 r1 (qq_nn h t _) (qq_le h t _ hm) i0 i1 (i2 _ hm)
        rw [← e] at dc
        rw [dc]
        have e3 := qq_digit h hd hm
        rw [← e] at e3
        rw [e3, Int.mul_comm (zz c t)] at *
        omega
/-- ends against sizes -/
theorem en_zz (h : CtOk c) : ∀ t, c.eh - c.la 0 + smN c.sp t + zz c t = en c t + smN (fun j => c.la (j + 1)) t
  | 0 => by simp [smN, zz, en]
  | t + 1 => by
    have ih := en_zz h t
    rw [smN, smN, zz, en]
    have : ((c.k : Int) - 1) * zz c t = c.k * zz c t - zz c t := by rw [Int.sub_mul]; omega
    omega
/-- a place by its stage -/
theorem pp_stage (h : CtOk c) {t d i : Nat} (d1 : 1 ≤ d) (hd : d < c.k) (hi : i < c.k ^ t) : pp c (d * c.k ^ t + i) = en c t + c.sp t + ((d : Int) - 1) * zz c t + qq c t i := by
  have hk := h.k2
  have hp : 0 < c.k ^ t := Nat.pow_pos (by omega)
  have hge : c.k ^ t ≤ d * c.k ^ t := Nat.le_mul_of_pos_left _ d1
  have hlt : d * c.k ^ t + i < c.k ^ (t + 1) := by
    rw [Nat.pow_succ, Nat.mul_comm (c.k ^ t)]
    have : (d + 1) * c.k ^ t ≤ c.k * c.k ^ t := Nat.mul_le_mul_right _ hd
    rw [Nat.succ_mul] at this
    omega
  have hb := lt_pow hk (d * c.k ^ t + i)
  unfold pp
  rw [if_neg (by omega)]
  have ht : t < d * c.k ^ t + i := Nat.lt_of_lt_of_le (lt_pow hk t) (by omega)
  have e1 : smN (fun j => if c.k ^ j ≤ d * c.k ^ t + i then c.sp j else 0) (d * c.k ^ t + i) = smN c.sp (t + 1) := by
    rw [smN_ext (n := t + 1) (by omega) fun j hj => if_neg (by
      have := Nat.pow_le_pow_right (n := c.k) (by omega) hj
      omega)]
    exact smN_congr fun j hj => if_pos (Nat.le_trans (Nat.pow_le_pow_right (by omega) (by omega)) (Nat.le_trans hge (by omega)))
  have e2 : fq c (d * c.k ^ t + i) (d * c.k ^ t + i) = fq c t (d * c.k ^ t + i) := by
    unfold fq
    refine smN_ext (by omega) fun j hj => ?_
    have := Nat.pow_le_pow_right (n := c.k) (by omega) hj
    rw [Nat.div_eq_of_lt (by omega)]
    simp
  rw [e1, e2, fq_digit h hi]
  have e3 := en_zz h t
  have e4 : ((d : Int) - 1) * zz c t = d * zz c t - zz c t := by rw [Int.sub_mul]; omega
  rw [smN]
  unfold qq
  omega
theorem en_mono (h : CtOk c) {t u : Nat} (hu : t ≤ u) : en c t ≤ en c u := by
  induction u with
  | zero =>
    have : t = 0 := by omega
    rw [this]
    exact Int.le_refl _
  | succ u ih =>
    rcases Nat.lt_or_ge u t with z | z
    · have : t = u + 1 := by omega
      rw [this]
      exact Int.le_refl _
    · have := ih z
      have h1 := h.sp u
      have h2 : 0 ≤ ((c.k : Int) - 1) * zz c u := Int.mul_nonneg (by have := h.k2; omega) (by have := zz_pos h u; omega)
      rw [en]
      omega
/-- the stage of a node -/
theorem stage_of {k : Nat} (hk : 2 ≤ k) : ∀ {b : Nat}, 0 < b → ∃ t d i, b = d * k ^ t + i ∧ 1 ≤ d ∧ d < k ∧ i < k ^ t := by
  intro b hb
  have : ∃ t, b < k ^ (t + 1) := ⟨b, Nat.lt_of_lt_of_le (lt_pow hk b) (Nat.pow_le_pow_right (by omega) (by omega))⟩
  have key : ∀ N, (b < k ^ (N + 1)) → ∃ t, k ^ t ≤ b ∧ b < k ^ (t + 1) := by
    intro N
    induction N with
    | zero => exact fun h => ⟨0, by rw [Nat.pow_zero]; exact hb, h⟩
    | succ N ih =>
      intro h
      rcases Nat.lt_or_ge b (k ^ (N + 1)) with z | z
      · exact ih z
      · exact ⟨N + 1, z, h⟩
  obtain ⟨N, hN⟩ := this
  obtain ⟨t, h1, h2⟩ := key N hN
  have hp : 0 < k ^ t := Nat.pow_pos (by omega)
  refine ⟨t, b / k ^ t, b % k ^ t, by rw [Nat.mul_comm]; exact (Nat.div_add_mod b _).symm, Nat.div_pos h1 hp, Nat.div_lt_of_lt_mul (by rw [← Nat.pow_succ]; exact h2), Nat.mod_lt _ hp⟩
theorem pp_ge (h : CtOk c) {t d i : Nat} (d1 : 1 ≤ d) (hd : d < c.k) (hi : i < c.k ^ t) : en c t ≤ pp c (d * c.k ^ t + i) ∧ pp c (d * c.k ^ t + i) ≤ en c (t + 1) := by
  rw [pp_stage h d1 hd hi, en]
  have h1 := h.sp t
  have hz := zz_pos h t
  have q0 := qq_nn h t i
  have q1 := qq_le h t i hi
  have e1 : 0 ≤ ((d : Int) - 1) * zz c t := Int.mul_nonneg (by omega) (by omega)
  have e2 : (d : Int) * zz c t ≤ ((c.k : Int) - 1) * zz c t := Int.mul_le_mul_of_nonneg_right (by omega) (by omega)
  have e4 : ((d : Int) - 1) * zz c t = d * zz c t - zz c t := by rw [Int.sub_mul]; omega
  omega
/-- the search as the program does it: t is the least stage with n < en t -/
def cnt (c : Ct) (n : Int) (t : Nat) : Int :=
  if n < c.a0 then 0 else if t = 0 then 1 else if n - en c (t - 1) - c.sp (t - 1) < 0 then ((c.k ^ (t - 1) : Nat) : Int)
  else ((c.k ^ (t - 1) : Nat) : Int) * (1 + (n - en c (t - 1) - c.sp (t - 1)) / zz c (t - 1)) + ins c (t - 1) ((n - en c (t - 1) - c.sp (t - 1)) % zz c (t - 1))
theorem cnt_spec (h : CtOk c) {n : Int} {t : Nat} (h1 : n < en c t) (h0 : t = 0 ∨ en c (t - 1) ≤ n) (b : Nat) : ((b : Int) < cnt c n t ↔ pp c b ≤ n) := by
  have hk := h.k2
  unfold cnt
  have hmin : ∀ b, c.a0 ≤ pp c b := fun b => by
    rcases Nat.eq_zero_or_pos b with z | z
    · rw [z]
      exact Int.le_refl _
    · obtain ⟨u, d, i, rfl, d1, hd, hi⟩ := stage_of hk z
      have := (pp_ge h d1 hd hi).1
      have h2 := en_mono h (Nat.zero_le u)
      have h3 := h.ae
      have : en c 0 = c.eh := rfl
      omega
  by_cases hn : n < c.a0
  · rw [if_pos hn]
    have := hmin b
    constructor
    · intro z; omega
    · intro z; omega
  rw [if_neg hn]
  by_cases ht : t = 0
  · subst ht
    rw [if_pos rfl]
    rcases Nat.eq_zero_or_pos b with z | z
    · subst z
      have : pp c 0 = c.a0 := rfl
      constructor
      · intro _; omega
      · intro _; omega
    · obtain ⟨u, d, i, rfl, d1, hd, hi⟩ := stage_of hk z
      have h2 := (pp_ge h d1 hd hi).1
      have h3 := en_mono h (Nat.zero_le u)
      constructor
      · intro z; omega
      · intro z; omega
  rw [if_neg ht]
  obtain ⟨s, rfl⟩ : ∃ s, t = s + 1 := ⟨t - 1, by omega⟩
  rw [Nat.add_sub_cancel] at *
  have hes : en c s ≤ n := by
    rcases h0 with z | z
    · omega
    · exact z
  have hp : 0 < c.k ^ s := Nat.pow_pos (by omega)
  have hz := zz_pos h s
  -- the answer lies in the stage
  have main : ∀ (v : Int), ((c.k ^ s : Nat) : Int) ≤ v → v ≤ ((c.k ^ (s + 1) : Nat) : Int) → (∀ d i, 1 ≤ d → d < c.k → i < c.k ^ s → (((d * c.k ^ s + i : Nat) : Int) < v ↔ pp c (d * c.k ^ s + i) ≤ n)) → ((b : Int) < v ↔ pp c b ≤ n) := by
    intro v v0 v1 hv
    rcases Nat.eq_zero_or_pos b with z | z
    · subst z
      have : pp c 0 = c.a0 := rfl
      constructor
      · intro _; omega
      · intro _; omega
    · obtain ⟨u, d, i, rfl, d1, hd, hi⟩ := stage_of hk z
      obtain ⟨p1, p2⟩ := pp_ge h d1 hd hi
      have hge : c.k ^ u ≤ d * c.k ^ u := Nat.le_mul_of_pos_left _ d1
      have hlt : d * c.k ^ u + i < c.k ^ (u + 1) := by
        rw [Nat.pow_succ, Nat.mul_comm (c.k ^ u)]
        have : (d + 1) * c.k ^ u ≤ c.k * c.k ^ u := Nat.mul_le_mul_right _ hd
        rw [Nat.succ_mul] at this
        omega
      rcases Nat.lt_trichotomy u s with hlt2 | heq | hgt
      · have e1 := en_mono h (show u + 1 ≤ s by omega)
        have e2 : c.k ^ (u + 1) ≤ c.k ^ s := Nat.pow_le_pow_right (by omega) (by omega)
        constructor
        · intro _; omega
        · intro _; omega
      · subst heq
        exact hv d i d1 hd hi
      · have e1 := en_mono h (show s + 1 ≤ u by omega)
        have e2 : c.k ^ (s + 1) ≤ c.k ^ u := Nat.pow_le_pow_right (by omega) (by omega)
        constructor
        · intro _; omega
        · intro _; omega
  by_cases ho : n - en c s - c.sp s < 0
  · rw [if_pos ho]
    refine main _ (Int.le_refl _) (Int.ofNat_le.mpr (Nat.pow_le_pow_right (by omega) (by omega))) fun d i d1 hd hi => ?_
    have hge : c.k ^ s ≤ d * c.k ^ s := Nat.le_mul_of_pos_left _ d1
    rw [pp_stage h d1 hd hi]
    have q0 := qq_nn h s i
    have e1 : 0 ≤ ((d : Int) - 1) * zz c s := Int.mul_nonneg (by omega) (by omega)
    constructor
    · intro _; omega
    · intro _; omega
  · rw [if_neg ho]
    have eoff : n - en c s - c.sp s < ((c.k : Int) - 1) * zz c s := by
      rw [en] at h1
      omega
    have hoe : n = n - en c s - c.sp s + en c s + c.sp s := by omega
    generalize n - en c s - c.sp s = o at *
    have o0 : 0 ≤ o := by omega
    have r0 := Int.emod_nonneg o (show zz c s ≠ 0 by omega)
    have r1 := Int.emod_lt_of_pos o hz
    have eo := Int.mul_ediv_add_emod o (zz c s)
    have q0 : 0 ≤ o / zz c s := Int.ediv_nonneg o0 (by omega)
    have q1 : o / zz c s < (c.k : Int) - 1 := Int.ediv_lt_of_lt_mul hz eoff
    obtain ⟨q, hq⟩ := Int.eq_ofNat_of_zero_le q0
    rw [hq] at eo q1 ⊢
    obtain ⟨i0, i1, i2⟩ := ins_spec h s (o % zz c s) r0 r1
    have ev : ((c.k ^ s : Nat) : Int) * (1 + (q : Int)) + ins c s (o % zz c s) = ((q + 1 : Nat) : Int) * ((c.k ^ s : Nat) : Int) + ins c s (o % zz c s) := by
      rw [Int.mul_comm, Int.natCast_add]
      congr 1
      rw [Int.add_comm]
      rfl
    rw [ev]
    refine main _ ?_ ?_ fun d i d1 hd hi => ?_
    · have : 0 ≤ (q : Int) * ((c.k ^ s : Nat) : Int) := Int.mul_nonneg (by omega) (by omega)
      rw [Int.natCast_add, Int.add_mul]
      omega
    · have e1 : ((q : Int) + 2) * ((c.k ^ s : Nat) : Int) ≤ (c.k : Int) * ((c.k ^ s : Nat) : Int) := Int.mul_le_mul_of_nonneg_right (by omega) (by omega)
      rw [Int.add_mul] at e1
      rw [Nat.pow_succ, Nat.mul_comm, Int.natCast_mul, Int.natCast_add, Int.add_mul]
      omega
    · have dc := digit_count (k := c.k) (q := q + 1) (i := i) (d := d) hp hi hz r0 r1 (qq_nn h s _) (qq_le h s _ hi) i0 i1 (i2 _ hi)
      rw [dc, pp_stage h d1 hd hi]
      rw [Int.natCast_add, Int.add_mul, Int.sub_mul, Int.mul_comm (zz c s)] at *
      omega
/-- what is counted is one number -/
theorem cnt_uniq {v u : Int} (v0 : 0 ≤ v) (u0 : 0 ≤ u) (h : ∀ b : Nat, (b : Int) < v ↔ (b : Int) < u) : v = u := by
  obtain ⟨a, rfl⟩ := Int.eq_ofNat_of_zero_le v0
  obtain ⟨b, rfl⟩ := Int.eq_ofNat_of_zero_le u0
  have h1 := h a
  have h2 := h b
  omega
end
end Sm

namespace Sm
/-! ### sizes and ends of a tree; the counter of a height -/
def siz (k : Nat) (l : Nat → Int) : Nat → Int
  | 0 => l 0
  | j + 1 => l (j + 1) + k * siz k l j
def ed (k : Nat) (s l : Nat → Int) : Nat → Int
  | 0 => s 0
  | j + 1 => ed k s l j + s (j + 1) + (k - 1) * siz k l j
def fp (k : Nat) (s l : Nat → Int) (h : Nat) : Int := (if h = 0 then 0 else ed k s l (h - 1)) + s h
def ctO (k : Nat) (s l : Nat → Int) (h : Nat) : Ct := ⟨k, fun j => if j = 0 then siz k l h else l (h + j), fun j => s (h + 1 + j), l h, fp k s l h, ed k s l h⟩
/-- the place of a node of height h with b such nodes before it -/
def pl (k : Nat) (s l : Nat → Int) (h b : Nat) : Int := pp (ctO k s l h) b
section
variable {k : Nat} {s l : Nat → Int}
theorem sz_pos (hk : 2 ≤ k) (hl : ∀ j, 0 ≤ l j) (h0 : 0 < l 0) : ∀ j, 0 < siz k l j
  | 0 => h0
  | j + 1 => by
    have h1 := sz_pos hk hl h0 j
    have h2 := hl (j + 1)
    have h3 : (0 : Int) < k * siz k l j := Int.mul_pos (by omega) h1
    rw [siz]
    omega
theorem sz_ge (hk : 2 ≤ k) (hl : ∀ j, 0 ≤ l j) (h0 : 0 < l 0) (j : Nat) : l j ≤ siz k l j := by
  cases j with
  | zero => exact Int.le_refl _
  | succ j =>
    have := sz_pos hk hl h0 j
    have h3 : (0 : Int) < k * siz k l j := Int.mul_pos (by omega) this
    rw [siz]
    omega
theorem ed_nn (hk : 2 ≤ k) (hs : ∀ j, 0 ≤ s j) (hl : ∀ j, 0 ≤ l j) (h0 : 0 < l 0) : ∀ j, 0 ≤ ed k s l j
  | 0 => hs 0
  | j + 1 => by
    have h1 := ed_nn hk hs hl h0 j
    have h2 := hs (j + 1)
    have h3 : 0 ≤ ((k : Int) - 1) * siz k l j := Int.mul_nonneg (by omega) (by have := sz_pos hk hl h0 j; omega)
    rw [ed]
    omega
theorem ct_ok (hk : 2 ≤ k) (hs : ∀ j, 0 ≤ s j) (hl : ∀ j, 0 ≤ l j) (h0 : 0 < l 0) (h : Nat) : CtOk (ctO k s l h) where
  k2 := hk
  la := fun j => by
    show 0 ≤ if j = 0 then siz k l h else l (h + j)
    split
    · have := sz_pos hk hl h0 h
      omega
    · exact hl _
  l0 := sz_pos hk hl h0 h
  sp := fun j => hs _
  o0 := hl h
  o1 := sz_ge hk hl h0 h
  a0 := by
    show 0 ≤ fp k s l h
    unfold fp
    have h1 := hs h
    split
    · omega
    · have := ed_nn hk hs hl h0 (h - 1)
      omega
  ae := by
    show fp k s l h ≤ ed k s l h
    unfold fp
    cases h with
    | zero =>
      show 0 + s 0 ≤ s 0
      omega
    | succ h =>
      rw [if_neg (by omega), Nat.add_sub_cancel, ed]
      have h3 : 0 ≤ ((k : Int) - 1) * siz k l h := Int.mul_nonneg (by omega) (by have := sz_pos hk hl h0 h; omega)
      omega
theorem zz_sz (h : Nat) : ∀ t, zz (ctO k s l h) t = siz k l (h + t)
  | 0 => rfl
  | t + 1 => by
    rw [zz, zz_sz h t]
    show (if t + 1 = 0 then siz k l h else l (h + (t + 1))) + (k : Int) * siz k l (h + t) = siz k l (h + t + 1)
    rw [if_neg (by omega), siz]
    rfl
theorem en_ed (h : Nat) : ∀ t, en (ctO k s l h) t = ed k s l (h + t)
  | 0 => rfl
  | t + 1 => by
    rw [en, en_ed h t, zz_sz]
    show ed k s l (h + t) + s (h + 1 + t) + ((k : Int) - 1) * siz k l (h + t) = ed k s l (h + t + 1)
    rw [ed, show h + 1 + t = h + t + 1 by omega]
/-- as finishing reckons it -/
theorem pl_form {h b : Nat} (hb : 0 < b) {N N' : Nat} (hN : b < k ^ N) (hN' : b < k ^ (N' + 1)) (hk : 2 ≤ k) : pl k s l h b = ed k s l h + ((b : Int) - 1) * siz k l h + l h + smN (fun j => if k ^ j ≤ b then s (h + 1 + j) else 0) N + smN (fun j => ((b / k ^ (j + 1) : Nat) : Int) * l (h + (j + 1))) N' := by
  unfold pl pp
  rw [if_neg (by omega)]
  have e1 : smN (fun j => if (ctO k s l h).k ^ j ≤ b then (ctO k s l h).sp j else 0) b = smN (fun j => if k ^ j ≤ b then s (h + 1 + j) else 0) N := by
    show smN (fun j => if k ^ j ≤ b then s (h + 1 + j) else 0) b = _
    have key : ∀ m, b < k ^ m → ∀ j, m ≤ j → (if k ^ j ≤ b then s (h + 1 + j) else 0) = 0 := fun m hm j hj => if_neg (by
      have := Nat.pow_le_pow_right (n := k) (by omega) hj
      omega)
    rcases Nat.le_total N b with z | z
    · exact smN_ext z (key N hN)
    · exact (smN_ext z (key b (lt_pow hk b))).symm
  have e2 : fq (ctO k s l h) b b = (b : Int) * siz k l h + smN (fun j => ((b / k ^ (j + 1) : Nat) : Int) * l (h + (j + 1))) N' := by
    unfold fq
    rw [smN_head]
    show (if (0 : Nat) = 0 then siz k l h else l (h + 0)) * ((b / k ^ 0 : Nat) : Int) + smN (fun j => (if j + 1 = 0 then siz k l h else l (h + (j + 1))) * ((b / k ^ (j + 1) : Nat) : Int)) b = _
    rw [if_pos rfl, Nat.pow_zero, Nat.div_one, Int.mul_comm]
    congr 1
    have e3 : smN (fun j => (if j + 1 = 0 then siz k l h else l (h + (j + 1))) * ((b / k ^ (j + 1) : Nat) : Int)) b = smN (fun j => ((b / k ^ (j + 1) : Nat) : Int) * l (h + (j + 1))) b := smN_congr fun j _ => by rw [if_neg (by omega), Int.mul_comm]
    rw [e3]
    have key : ∀ m, b < k ^ (m + 1) → ∀ j, m ≤ j → ((b / k ^ (j + 1) : Nat) : Int) * l (h + (j + 1)) = 0 := fun m hm j hj => by
      have := Nat.pow_le_pow_right (n := k) (by omega) (show m + 1 ≤ j + 1 by omega)
      rw [Nat.div_eq_of_lt (by omega)]
      simp
    rcases Nat.le_total N' b with z | z
    · exact smN_ext z (key N' hN')
    · exact (smN_ext z (key b (Nat.lt_of_lt_of_le (lt_pow hk b) (Nat.pow_le_pow_right (by omega) (by omega))))).symm
  rw [e1, e2]
  show ed k s l h - siz k l h + l h + _ + _ = _
  rw [Int.sub_mul]
  omega
theorem pl_zero {h : Nat} : pl k s l h 0 = fp k s l h := rfl
/-! ### linear -/
variable {s1 l1 s2 l2 : Nat → Int}
theorem sz_add (hl : ∀ i, l i = l1 i + l2 i) : ∀ j, siz k l j = siz k l1 j + siz k l2 j
  | 0 => hl 0
  | j + 1 => by
    rw [siz, siz, siz, sz_add hl j, hl, Int.mul_add]
    omega
theorem ed_add (hs : ∀ i, s i = s1 i + s2 i) (hl : ∀ i, l i = l1 i + l2 i) : ∀ j, ed k s l j = ed k s1 l1 j + ed k s2 l2 j
  | 0 => hs 0
  | j + 1 => by
    rw [ed, ed, ed, ed_add hs hl j, sz_add hl, hs, Int.mul_add]
    omega
theorem fp_add (hs : ∀ i, s i = s1 i + s2 i) (hl : ∀ i, l i = l1 i + l2 i) (h : Nat) : fp k s l h = fp k s1 l1 h + fp k s2 l2 h := by
  unfold fp
  rw [hs, ed_add hs hl]
  split <;> omega
theorem pl_add (hk : 2 ≤ k) (hs : ∀ i, s i = s1 i + s2 i) (hl : ∀ i, l i = l1 i + l2 i) {h b : Nat} : pl k s l h b = pl k s1 l1 h b + pl k s2 l2 h b := by
  rcases Nat.eq_zero_or_pos b with z | z
  · subst z
    exact fp_add hs hl h
  · have hN := lt_pow hk b
    have hN' : b < k ^ (b + 1) := Nat.lt_of_lt_of_le hN (Nat.pow_le_pow_right (by omega) (by omega))
    rw [pl_form z hN hN' hk, pl_form z hN hN' hk, pl_form z hN hN' hk, ed_add hs hl, sz_add hl, hl, Int.mul_add]
    have e1 : smN (fun j => if k ^ j ≤ b then s (h + 1 + j) else 0) b = smN (fun j => if k ^ j ≤ b then s1 (h + 1 + j) else 0) b + smN (fun j => if k ^ j ≤ b then s2 (h + 1 + j) else 0) b := by
      rw [← smN_add]
      refine smN_congr fun j _ => ?_
      rw [hs]
      split <;> omega
    have e2 : smN (fun j => ((b / k ^ (j + 1) : Nat) : Int) * l (h + (j + 1))) b = smN (fun j => ((b / k ^ (j + 1) : Nat) : Int) * l1 (h + (j + 1))) b + smN (fun j => ((b / k ^ (j + 1) : Nat) : Int) * l2 (h + (j + 1))) b := by
      rw [← smN_add]
      refine smN_congr fun j _ => ?_
      rw [hl, Int.mul_add]
    rw [e1, e2]
    omega
variable {m : Int}
theorem sz_mul (hl : ∀ i, l i = m * l1 i) : ∀ j, siz k l j = m * siz k l1 j
  | 0 => hl 0
  | j + 1 => by
    rw [siz, siz, sz_mul hl j, hl, Int.mul_add, Int.mul_left_comm]
theorem ed_mul (hs : ∀ i, s i = m * s1 i) (hl : ∀ i, l i = m * l1 i) : ∀ j, ed k s l j = m * ed k s1 l1 j
  | 0 => hs 0
  | j + 1 => by
    rw [ed, ed, ed_mul hs hl j, sz_mul hl, hs, Int.mul_add, Int.mul_add, Int.mul_left_comm]
theorem fp_mul (hs : ∀ i, s i = m * s1 i) (hl : ∀ i, l i = m * l1 i) (h : Nat) : fp k s l h = m * fp k s1 l1 h := by
  unfold fp
  rw [hs, ed_mul hs hl]
  split
  · rw [Int.mul_add]; simp
  · rw [Int.mul_add]
theorem pl_mul (hk : 2 ≤ k) (hs : ∀ i, s i = m * s1 i) (hl : ∀ i, l i = m * l1 i) {h b : Nat} : pl k s l h b = m * pl k s1 l1 h b := by
  rcases Nat.eq_zero_or_pos b with z | z
  · subst z
    exact fp_mul hs hl h
  · have hN := lt_pow hk b
    have hN' : b < k ^ (b + 1) := Nat.lt_of_lt_of_le hN (Nat.pow_le_pow_right (by omega) (by omega))
    rw [pl_form z hN hN' hk, pl_form z hN hN' hk, ed_mul hs hl, sz_mul hl, hl]
    have e1 : smN (fun j => if k ^ j ≤ b then s (h + 1 + j) else 0) b = m * smN (fun j => if k ^ j ≤ b then s1 (h + 1 + j) else 0) b := by
      rw [← smN_mul]
      refine smN_congr fun j _ => ?_
      rw [hs]
      split
      · rfl
      · simp
    have e2 : smN (fun j => ((b / k ^ (j + 1) : Nat) : Int) * l (h + (j + 1))) b = m * smN (fun j => ((b / k ^ (j + 1) : Nat) : Int) * l1 (h + (j + 1))) b := by
      rw [← smN_mul]
      refine smN_congr fun j _ => ?_
      rw [hl, Int.mul_left_comm]
    rw [e1, e2, Int.mul_left_comm, ← Int.mul_add, ← Int.mul_add, ← Int.mul_add, ← Int.mul_add]
theorem ed_delay (hs : ∀ i, s i = if i = 0 then s1 0 + m else s1 i) : ∀ j, ed k s l j = ed k s1 l j + m
  | 0 => by
    show s 0 = s1 0 + m
    rw [hs, if_pos rfl]
  | j + 1 => by
    rw [ed, ed, ed_delay hs j, hs, if_neg (by omega)]
    omega
theorem fp_delay (hs : ∀ i, s i = if i = 0 then s1 0 + m else s1 i) (h : Nat) : fp k s l h = fp k s1 l h + m := by
  unfold fp
  rcases Nat.eq_zero_or_pos h with z | z
  · subst z
    rw [if_pos rfl, hs, if_pos rfl]
    omega
  · rw [if_neg (by omega), if_neg (by omega), ed_delay hs, hs, if_neg (by omega)]
    omega
theorem pl_delay (hk : 2 ≤ k) (hs : ∀ i, s i = if i = 0 then s1 0 + m else s1 i) {h b : Nat} : pl k s l h b = pl k s1 l h b + m := by
  rcases Nat.eq_zero_or_pos b with z | z
  · subst z
    exact fp_delay hs h
  · have hN := lt_pow hk b
    have hN' : b < k ^ (b + 1) := Nat.lt_of_lt_of_le hN (Nat.pow_le_pow_right (by omega) (by omega))
    rw [pl_form z hN hN' hk, pl_form z hN hN' hk, ed_delay hs]
    have e1 : smN (fun j => if k ^ j ≤ b then s (h + 1 + j) else 0) b = smN (fun j => if k ^ j ≤ b then s1 (h + 1 + j) else 0) b := smN_congr fun j _ => by rw [hs (h + 1 + j), if_neg (show ¬ h + 1 + j = 0 by omega)]
    rw [e1]
    omega
theorem pl_nn (hk : 2 ≤ k) (hs : ∀ j, 0 ≤ s j) (hl : ∀ j, 0 ≤ l j) (h0 : 0 < l 0) (h b : Nat) : 0 ≤ pl k s l h b := by
  have ok := ct_ok hk hs hl h0 h
  rcases Nat.eq_zero_or_pos b with z | z
  · subst z
    exact ok.a0
  · obtain ⟨u, d, i, rfl, d1, hd, hi⟩ := stage_of hk z
    have h1 : en (ctO k s l h) u ≤ pp (ctO k s l h) (d * k ^ u + i) := (pp_ge ok d1 hd hi).1
    have h2 := en_mono ok (Nat.zero_le u)
    have h3 := ok.ae
    have h4 := ok.a0
    have : en (ctO k s l h) 0 = (ctO k s l h).eh := rfl
    show 0 ≤ pp (ctO k s l h) _
    omega
/-- how many nodes of height h are finished by n -/
def Cnt (k : Nat) (s l : Nat → Int) (h : Nat) (n v : Int) : Prop := 0 ≤ v ∧ ∀ b : Nat, (b : Int) < v ↔ pl k s l h b ≤ n
theorem cnt_zero (hk : 2 ≤ k) (hs : ∀ j, 0 ≤ s j) (hl : ∀ j, 0 ≤ l j) (h0 : 0 < l 0) {h : Nat} {n : Int} (hn : n < (ctO k s l h).a0) : Cnt k s l h n 0 := by
  have ok := ct_ok hk hs hl h0 h
  refine ⟨Int.le_refl _, fun b => ?_⟩
  have : (ctO k s l h).a0 ≤ pl k s l h b := by
    rcases Nat.eq_zero_or_pos b with z | z
    · subst z
      exact Int.le_refl _
    · obtain ⟨u, d, i, rfl, d1, hd, hi⟩ := stage_of hk z
      have h1 : en (ctO k s l h) u ≤ pp (ctO k s l h) (d * k ^ u + i) := (pp_ge ok d1 hd hi).1
      have h2 := en_mono ok (Nat.zero_le u)
      have h3 := ok.ae
      have : en (ctO k s l h) 0 = (ctO k s l h).eh := rfl
      show _ ≤ pp (ctO k s l h) _
      omega
  constructor
  · intro z; omega
  · intro z; omega
theorem cnt_is (hk : 2 ≤ k) (hs : ∀ j, 0 ≤ s j) (hl : ∀ j, 0 ≤ l j) (h0 : 0 < l 0) {h t : Nat} {n : Int} (h1 : n < ed k s l (h + t)) (h2 : t = 0 ∨ ed k s l (h + (t - 1)) ≤ n) : Cnt k s l h n (cnt (ctO k s l h) n t) := by
  have ok := ct_ok hk hs hl h0 h
  refine ⟨?_, fun b => cnt_spec ok (by rw [en_ed]; exact h1) (by rw [en_ed]; exact h2) b⟩
  unfold cnt
  split
  · exact Int.le_refl _
  · split
    · decide
    · rename_i ht
      split
      · exact Int.natCast_nonneg _
      · rename_i ho
        have hz := zz_pos ok (t - 1)
        have i0 := (ins_spec ok (t - 1) _ (Int.emod_nonneg (n - en (ctO k s l h) (t - 1) - (ctO k s l h).sp (t - 1)) (show zz (ctO k s l h) (t - 1) ≠ 0 by omega)) (Int.emod_lt_of_pos _ hz)).1
        have q0 : 0 ≤ (n - en (ctO k s l h) (t - 1) - (ctO k s l h).sp (t - 1)) / zz (ctO k s l h) (t - 1) := Int.ediv_nonneg (by omega) (by omega)
        have : 0 ≤ (((ctO k s l h).k ^ (t - 1) : Nat) : Int) * (1 + (n - en (ctO k s l h) (t - 1) - (ctO k s l h).sp (t - 1)) / zz (ctO k s l h) (t - 1)) := Int.mul_nonneg (Int.natCast_nonneg _) (by omega)
        omega
theorem Cnt.uniq {h : Nat} {n v u : Int} (a : Cnt k s l h n v) (b : Cnt k s l h n u) : v = u := cnt_uniq a.1 b.1 fun x => (a.2 x).trans (b.2 x).symm
end
end Sm

namespace K09
open PySem L2 Ab Sm
/-! ### counters: the cells -/
def szS (S : Sc) (j : Nat) : Int := siz S.a.toNat (item S.lv) j
def edS (S : Sc) (j : Nat) : Int := ed S.a.toNat (item S.sp) (item S.lv) j
def pwS (S : Sc) (j : Nat) : Int := ((S.a.toNat ^ j : Nat) : Int)
def ctS (S : Sc) (h : Nat) : Ct := ctO S.a.toNat (item S.sp) (item S.lv) h
def upL (g : Nat → Int) (n : Nat) : List Int := (List.range (n + 1)).map g
theorem up_len {g : Nat → Int} {n : Nat} : (upL g n).length = n + 1 := by simp [upL]
theorem up_at {g : Nat → Int} {n : Nat} {i : Int} (h0 : 0 ≤ i) (h1 : i ≤ n) : at0 (upL g n) i = g i.toNat := by
  unfold at0 upL
  rw [List.getD_eq_getElem?_getD, List.getElem?_map, List.getElem?_range (by omega)]
  rfl
theorem up_last {g : Nat → Int} {n : Nat} : atI ((upL g n).map Val.int) (-1) = some (.int (g n)) := atI_lastE up_len (by
  unfold upL
  rw [List.getD_eq_getElem?_getD, List.getElem?_map, List.getElem?_range (by omega)]
  rfl)
theorem up_succ {g : Nat → Int} {n : Nat} : (upL g n).map Val.int ++ [Val.int (g (n + 1))] = (upL g (n + 1)).map Val.int := by
  unfold upL
  rw [List.range_succ (n := n + 1), List.map_append, List.map_append]
  rfl
def cF (C : Addr) (S : Sc) (h : Nat) (p1 p2 p3 : Addr) : List (Str × Val) := [("own_schedule", scV C S), ("own_height", .int (h : Int)), ("sizes", .ptr p1), ("ends", .ptr p2), ("powers", .ptr p3)]
structure Cn (C C2 : Addr) (M : Mem) (i : Nat) (c p1 p2 p3 : Addr) (S : Sc) (h n : Nat) : Prop where
  c0 : M[i]? = some (c, .ins C2 (cF C S h p1 p2 p3))
  c1 : M[i + 1]? = some (p1, .lst ((upL (szS S) n).map .int))
  c2 : M[i + 2]? = some (p2, .lst ((upL (edS S) n).map .int))
  c3 : M[i + 3]? = some (p3, .lst ((upL (pwS S) n).map .int))
def grown (M : Mem) (i : Nat) (p1 p2 p3 : Addr) (S : Sc) (n : Nat) : Mem := ((M.set (i + 1) (p1, .lst ((upL (szS S) n).map .int))).set (i + 2) (p2, .lst ((upL (edS S) n).map .int))).set (i + 3) (p3, .lst ((upL (pwS S) n).map .int))
section
variable {C C2 : Addr} {M : Mem} {i : Nat} {c p1 p2 p3 : Addr} {S : Sc} {h n m : Nat}
theorem Cn.len (q : Cn C C2 M i c p1 p2 p3 S h n) : i + 3 < M.length := (List.getElem?_eq_some_iff.mp q.c3).1
theorem Cn.grow (q : Cn C C2 M i c p1 p2 p3 S h n) : Cn C C2 (grown M i p1 p2 p3 S m) i c p1 p2 p3 S h m := by
  have hl := q.len
  unfold grown
  refine ⟨?_, ?_, ?_, ?_⟩
  · rw [List.getElem?_set_ne (by omega), List.getElem?_set_ne (by omega), List.getElem?_set_ne (by omega)]
    exact q.c0
  · rw [List.getElem?_set_ne (by omega), List.getElem?_set_ne (by omega), List.getElem?_set_self (by omega)]
  · rw [List.getElem?_set_ne (by omega), List.getElem?_set_self (by rw [List.length_set]; omega)]
  · rw [List.getElem?_set_self (by rw [List.length_set, List.length_set]; omega)]
theorem set_id {α : Type} {l : List α} {j : Nat} {x : α} (h : l[j]? = some x) : l.set j x = l := by
  apply List.ext_getElem?
  intro z
  by_cases e : j = z
  · subst e
    rw [List.getElem?_set_self (List.getElem?_eq_some_iff.mp h).1, h]
  · rw [List.getElem?_set_ne e]
theorem Cn.self (q : Cn C C2 M i c p1 p2 p3 S h n) : grown M i p1 p2 p3 S n = M := by
  unfold grown
  rw [set_id q.c1, set_id q.c2, set_id q.c3]
theorem grown_set {M : Mem} {a1 a2 a3 b1 b2 b3 : Addr × Cell} : ((((M.set (i + 1) a1).set (i + 2) a2).set (i + 3) a3).set (i + 1) b1 |>.set (i + 2) b2 |>.set (i + 3) b3) = ((M.set (i + 1) b1).set (i + 2) b2).set (i + 3) b3 := by
  rw [List.set_comm _ _ (show i + 3 ≠ i + 1 by omega), List.set_comm _ _ (show i + 2 ≠ i + 1 by omega), List.set_set, List.set_comm _ _ (show i + 3 ≠ i + 2 by omega), List.set_set, List.set_set]
theorem grown_grown : grown (grown M i p1 p2 p3 S n) i p1 p2 p3 S m = grown M i p1 p2 p3 S m := grown_set
end
structure Cr (K : PySem.W.Frag) (mg : Str → Option Value) (C2 : Addr) : Prop where
  cl : Cls K C2
  n0 : NoAttr K C2 "own_schedule"
  n1 : NoAttr K C2 "own_height"
  n2 : NoAttr K C2 "sizes"
  n3 : NoAttr K C2 "ends"
  n4 : NoAttr K C2 "powers"
  mh : ∃ u, Con K C2 "MAX_HEIGHT" (.int 3000) u
/-- spine_at, level_at, arity, as counters use them -/
structure Sm2 (P : Program) (w : World) (K : PySem.W.Frag) (mg : Str → Option Value) (base : Heap) (C : Addr) : Prop where
  sat : ∃ f, Meth K C "spine_at" f ∧ FX P w K mg base 3 f fun ds _ => aSat C ds
  lat : ∃ f, Meth K C "level_at" f ∧ FX P w K mg base 3 f fun ds _ => aLat C ds
section
variable {P : Program} {w : World} {K : PySem.W.Frag} {mg : Str → Option Value} {base : Heap} {k : Nat} {f C C2 : Addr}
theorem av_sa {X : Cx} {Γ : Gam} {M : Mem} {o e : Expr} {pos apos : Pos} {m : Nat} {S : Sc} {i : Int} {pl : Sem Bool} (T : Rs X.K X.mg C) (Q : Sm2 X.prog X.w X.K X.mg X.base C) (hr : Rm m X.A) (hm : 3 ≤ m) (ho : aV X o Γ M (scV C S)) (he : aV X e Γ M (.int i)) (hS : GoodS S) (h0 : 0 ≤ i) (hst : starEach [e] X.env = (false, eval e X.env) :: starEach [] X.env := by rfl)
    (ht : eval (.Call (.Attribute o "spine_at" apos) [e] [] pos) X.env = (do
      let ov ← eval o X.env
      standAt apos.atName
      let (f, first) ← holding [ov] (getMethod ov "spine_at" pl)
      callWith pos f first (backTo pos (starEach [e] X.env)) (backToKw pos (keywordEach [] X.env))) := by rfl) : aV X (.Call (.Attribute o "spine_at" apos) [e] [] pos) Γ M (.int (item S.sp i.toNat)) := by
  obtain ⟨f, mt, F⟩ := Q.sat
  exact ae_meth T.cl mt F (hr.mono hm) ho (.im _) rfl (aa_cons (he.val (aa_nil (ak_nil ⟨rfl, S, i, rfl, hS, h0, rfl, rfl⟩))) hst) rfl rfl hst (by rw [hst]; rfl) ht
theorem av_la {X : Cx} {Γ : Gam} {M : Mem} {o e : Expr} {pos apos : Pos} {m : Nat} {S : Sc} {i : Int} {pl : Sem Bool} (T : Rs X.K X.mg C) (Q : Sm2 X.prog X.w X.K X.mg X.base C) (hr : Rm m X.A) (hm : 3 ≤ m) (ho : aV X o Γ M (scV C S)) (he : aV X e Γ M (.int i)) (hS : GoodS S) (h0 : 0 ≤ i) (hst : starEach [e] X.env = (false, eval e X.env) :: starEach [] X.env := by rfl)
    (ht : eval (.Call (.Attribute o "level_at" apos) [e] [] pos) X.env = (do
      let ov ← eval o X.env
      standAt apos.atName
      let (f, first) ← holding [ov] (getMethod ov "level_at" pl)
      callWith pos f first (backTo pos (starEach [e] X.env)) (backToKw pos (keywordEach [] X.env))) := by rfl) : aV X (.Call (.Attribute o "level_at" apos) [e] [] pos) Γ M (.int (item S.lv i.toNat)) := by
  obtain ⟨f, mt, F⟩ := Q.lat
  exact ae_meth T.cl mt F (hr.mono hm) ho (.im _) rfl (aa_cons (he.val (aa_nil (ak_nil ⟨rfl, S, i, rfl, hS, h0, rfl, rfl⟩))) hst) rfl rfl hst (by rw [hst]; rfl) ht
/-! ### check_at_least -/
def aCal : ASp := fun ds M R => ∃ n lo, ds = [.int n, .int lo] ∧ lo ≤ n ∧ R .non M
abbrev GCal (P : Program) (w : World) (K : PySem.W.Frag) (mg : Str → Option Value) (base : Heap) : Prop := Gd P w K mg base 1 "check_at_least" [] fun ds _ => aCal ds
/-! ### grow -/
def aGrw (C C2 : Addr) : ASp := fun ds M R => ∃ (i : Nat) (c p1 p2 p3 : Addr) (S : Sc) (h n st : Nat), ds = [.ptr c, .int (st : Int)] ∧ Cn C C2 M i c p1 p2 p3 S h n ∧ GoodS S ∧ n ≤ 9000 ∧ st ≤ 9000 ∧ R .non (grown M i p1 p2 p3 S (max n st))
theorem pw_mul {S : Sc} {j : Nat} (h : 0 ≤ S.a) : pwS S j * S.a = pwS S (j + 1) := by
  unfold pwS
  rw [Nat.pow_succ, Int.natCast_mul, Int.toNat_of_nonneg h]
end
end K09

namespace K09
open PySem L2 Ab Sm
theorem okI_nn {s : Stm} (h : ∀ i, okI (item s i)) (j : Nat) : 0 ≤ item s j := (h j).1
section
variable {S : Sc}
theorem GoodS.k2 (g : GoodS S) : 2 ≤ S.a.toNat := by have := g.a2; omega
theorem GoodS.k9 (g : GoodS S) : S.a.toNat ≤ 9 := by have := g.a9; omega
theorem GoodS.s0 (g : GoodS S) (j : Nat) : 0 ≤ item S.sp j := (g.ls.item j).1
theorem GoodS.l0 (g : GoodS S) (j : Nat) : 0 ≤ item S.lv j := (g.ll.item j).1
theorem GoodS.lp (g : GoodS S) : 0 < item S.lv 0 := by have := g.l0 0; have := g.lf; omega
theorem GoodS.ct (g : GoodS S) (h : Nat) : CtOk (ctS S h) := ct_ok g.k2 g.s0 g.l0 g.lp h
theorem szS_pos (g : GoodS S) (j : Nat) : 0 < szS S j := sz_pos g.k2 g.l0 g.lp j
theorem szS_mono (g : GoodS S) {i j : Nat} (h : i ≤ j) : szS S i ≤ szS S j := by
  induction j with
  | zero => rw [show i = 0 by omega]; exact Int.le_refl _
  | succ j ih =>
    rcases Nat.lt_or_ge j i with z | z
    · rw [show i = j + 1 by omega]; exact Int.le_refl _
    · have h1 := ih z
      have h2 := g.l0 (j + 1)
      have h3 := szS_pos g j
      have h4 : szS S j * 1 ≤ szS S j * (S.a.toNat : Int) := Int.mul_le_mul_of_nonneg_left (by have := g.k2; omega) (by omega)
      have e : szS S (j + 1) = item S.lv (j + 1) + (S.a.toNat : Int) * szS S j := rfl
      rw [e, Int.mul_comm]
      omega
theorem szS_top (g : GoodS S) : ∀ j, szS S j ≤ 1000000 * ((10 ^ j : Nat) : Int)
  | 0 => by
    have := (g.ll.item 0).2
    show item S.lv 0 ≤ _
    simpa using this
  | j + 1 => by
    have ih := szS_top g j
    have h2 := (g.ll.item (j + 1)).2
    have h3 := szS_pos g j
    have e : szS S (j + 1) = item S.lv (j + 1) + (S.a.toNat : Int) * szS S j := rfl
    have h4 : (S.a.toNat : Int) * szS S j ≤ 9 * szS S j := Int.mul_le_mul_of_nonneg_right (by have := g.k9; omega) (by omega)
    have h5 : 1 ≤ 10 ^ j := Nat.pow_pos (by decide)
    rw [e, Nat.pow_succ, Int.natCast_mul]
    omega
/-- ends grow as powers do -/
theorem edS_ge (g : GoodS S) : ∀ t h, ((S.a.toNat ^ t : Nat) : Int) ≤ edS S (h + t) + 1 ∧ ((S.a.toNat ^ t : Nat) : Int) ≤ szS S (h + t)
  | 0, h => by
    have h1 := ed_nn g.k2 g.s0 g.l0 g.lp h
    have h2 := szS_pos g h
    have h1' : 0 ≤ edS S h := h1
    simp
    omega
  | t + 1, h => by
    obtain ⟨h1, h2⟩ := edS_ge g t h
    have e1 : edS S (h + (t + 1)) = edS S (h + t) + item S.sp (h + t + 1) + ((S.a.toNat : Int) - 1) * szS S (h + t) := rfl
    have e2 : szS S (h + (t + 1)) = item S.lv (h + t + 1) + (S.a.toNat : Int) * szS S (h + t) := rfl
    have k2 := g.k2
    have h3 := g.s0 (h + t + 1)
    have h4 := g.l0 (h + t + 1)
    have h5 : ((S.a.toNat : Int) - 1) * ((S.a.toNat ^ t : Nat) : Int) ≤ ((S.a.toNat : Int) - 1) * szS S (h + t) := Int.mul_le_mul_of_nonneg_left h2 (by omega)
    have h6 : (S.a.toNat : Int) * ((S.a.toNat ^ t : Nat) : Int) ≤ (S.a.toNat : Int) * szS S (h + t) := Int.mul_le_mul_of_nonneg_left h2 (by omega)
    have e3 : ((S.a.toNat ^ (t + 1) : Nat) : Int) = (S.a.toNat : Int) * ((S.a.toNat ^ t : Nat) : Int) := by rw [Nat.pow_succ, Nat.mul_comm, Int.natCast_mul]
    rw [Int.sub_mul] at h5
    rw [e1, e2, e3]
    omega
theorem edS_succ (g : GoodS S) (j : Nat) : szS S j ≤ edS S (j + 1) := by
  have e1 : edS S (j + 1) = edS S j + item S.sp (j + 1) + ((S.a.toNat : Int) - 1) * szS S j := rfl
  have h1 : 0 ≤ edS S j := ed_nn g.k2 g.s0 g.l0 g.lp j
  have h3 := g.s0 (j + 1)
  have h4 := szS_pos g j
  have h5 : 1 * szS S j ≤ ((S.a.toNat : Int) - 1) * szS S j := Int.mul_le_mul_of_nonneg_right (by have := g.k2; omega) (by omega)
  rw [e1]
  omega
theorem szS_small (g : GoodS S) {h : Nat} (hh : h ≤ 3000) : szS S h < 2 ^ 10000 := by
  have h1 := szS_top g h
  have h2 : (10 : Nat) ^ h ≤ 10 ^ 3000 := Nat.pow_le_pow_right (by decide) hh
  have e : (1000000 : Int) * ((10 ^ 3000 : Nat) : Int) < 2 ^ 10000 := by decide +kernel
  have h3 : (1000000 : Int) * ((10 ^ h : Nat) : Int) ≤ 1000000 * ((10 ^ 3000 : Nat) : Int) := Int.mul_le_mul_of_nonneg_left (Int.ofNat_le.mpr h2) (by decide)
  omega
end
theorem mulX {i j : Int} (h1 : 0 ≤ i) (h2 : i < 2 ^ 3000) (h3 : 0 ≤ j) (h4 : j < 2 ^ 3000) : CMulU i j := by
  have e : (2 : Int) ^ 3000 = ((2 ^ 3000 : Nat) : Int) := by rw [Int.natCast_pow]; rfl
  rw [e] at h2 h4
  exact .inr (mulx_ok (a := 3000) (b := 3000) (by omega) (by omega) (by decide))
theorem mulX2 {i j : Int} (h1 : 0 ≤ i) (h2 : i < 2 ^ 3000) (h3 : 0 ≤ j) (h4 : j < 2 ^ 10000) : CMulU i j := by
  have e : (2 : Int) ^ 3000 = ((2 ^ 3000 : Nat) : Int) := by rw [Int.natCast_pow]; rfl
  have e2 : (2 : Int) ^ 10000 = ((2 ^ 10000 : Nat) : Int) := by rw [Int.natCast_pow]; rfl
  rw [e] at h2
  rw [e2] at h4
  exact .inr (mulx_ok (a := 3000) (b := 10000) (by omega) (by omega) (by decide))
theorem divX {i j : Int} (h3 : 0 < j) (h4 : j < 2 ^ 3000) : CDivU i j := by
  have e : (2 : Int) ^ 3000 = ((2 ^ 3000 : Nat) : Int) := by rw [Int.natCast_pow]; rfl
  rw [e] at h4
  have e2 : (2 : Nat) ^ 3000 ≤ 2 ^ 8000 := Nat.pow_le_pow_right (by decide) (by decide)
  exact cdw h3 (Nat.lt_of_lt_of_le (by omega) e2)
section
variable {P : Program} {w : World} {K : PySem.W.Frag} {mg : Str → Option Value} {base : Heap} {k : Nat} {f C C2 : Addr}
/-! ### first_place -/
def aFp (C C2 : Addr) : ASp := fun ds M R => ∃ (i : Nat) (c p1 p2 p3 : Addr) (S : Sc) (h n : Nat), ds = [.ptr c] ∧ Cn C C2 M i c p1 p2 p3 S h n ∧ GoodS S ∧ h ≤ n ∧ R (.int (ctS S h).a0) M
/-! ### finished_inside -/
def aIns (C C2 : Addr) : ASp := fun ds M R => ∃ (i : Nat) (c p1 p2 p3 : Addr) (S : Sc) (h n t : Nat) (off : Int), ds = [.ptr c, .int ((h + t : Nat) : Int), .int off] ∧ Cn C C2 M i c p1 p2 p3 S h n ∧ GoodS S ∧ h + t ≤ n + 1 ∧ 0 ≤ off ∧ off < 2 ^ 2900 ∧ szS S (h + t) < 2 ^ 2900 ∧ R (.int (ins (ctS S h) t off)) M
end
end K09

namespace K09
open PySem L2 Ab Sm
def CntS (S : Sc) (h : Nat) (n v : Int) : Prop := Cnt S.a.toNat (item S.sp) (item S.lv) h n v
def plN (S : Sc) (h b : Nat) : Int := pl S.a.toNat (item S.sp) (item S.lv) h b
theorem two_pow_le {k t : Nat} (hk : 2 ≤ k) (h : ((k ^ t : Nat) : Int) ≤ 2 ^ 2000) : t ≤ 2000 := by
  have h1 : 2 ^ t ≤ k ^ t := Nat.pow_le_pow_left hk t
  have e : (2 : Int) ^ 2000 = ((2 ^ 2000 : Nat) : Int) := by rw [Int.natCast_pow]; rfl
  rw [e] at h
  have h2 : 2 ^ t ≤ 2 ^ 2000 := Nat.le_trans h1 (Int.ofNat_le.mp h)
  exact (Nat.pow_le_pow_iff_right (by decide)).mp h2
/-- what the methods of a counter promise one another -/
structure Cfn (P : Program) (w : World) (K : PySem.W.Frag) (mg : Str → Option Value) (base : Heap) (C C2 : Addr) : Prop where
  fp : ∃ f, Meth K C2 "first_place" f ∧ FX P w K mg base 4 f fun ds _ => aFp C C2 ds
  gr : ∃ f, Meth K C2 "grow" f ∧ FX P w K mg base 4 f fun ds _ => aGrw C C2 ds
  fi : ∃ f, Meth K C2 "finished_inside" f ∧ FX P w K mg base 4 f fun ds _ => aIns C C2 ds
section
variable {P : Program} {w : World} {K : PySem.W.Frag} {mg : Str → Option Value} {base : Heap} {k : Nat} {f C C2 : Addr}
/-! ### count_finished -/
def aCf (C C2 : Addr) : ASp := fun ds M R => ∃ (i : Nat) (c p1 p2 p3 : Addr) (S : Sc) (h n : Nat) (x : Int), ds = [.ptr c, .int x] ∧ Cn C C2 M i c p1 p2 p3 S h n ∧ GoodS S ∧ h ≤ n ∧ h ≤ 3000 ∧ n ≤ 8000 ∧ 0 ≤ x ∧ x < 2 ^ 2000 ∧ ∀ v m, CntS S h x v → n ≤ m → m ≤ 8000 → R (.int v) (grown M i p1 p2 p3 S m)
/-! ### finishing -/
def aFin (C C2 : Addr) : ASp := fun ds M R => ∃ (i : Nat) (c p1 p2 p3 : Addr) (S : Sc) (h n b : Nat) (x : Int), ds = [.ptr c, .int x] ∧ x = (b : Int) + 1 ∧ Cn C C2 M i c p1 p2 p3 S h n ∧ GoodS S ∧ h ≤ n ∧ h ≤ 3000 ∧ b < 2 ^ 2000 ∧ R (.int (plN S h b)) M
theorem cm_okr {i j : Int} (h : okI j) : CMul i j := .inr ⟨by have := h.1; omega, by have := h.2; omega⟩
/-! ### value, place -/
structure Cfm (P : Program) (w : World) (K : PySem.W.Frag) (mg : Str → Option Value) (base : Heap) (C C2 : Addr) : Prop where
  cf : ∃ f, Meth K C2 "count_finished" f ∧ FX P w K mg base 5 f fun ds _ => aCf C C2 ds
  fg : ∃ f, Meth K C2 "finishing" f ∧ FX P w K mg base 5 f fun ds _ => aFin C C2 ds
end
end K09

namespace K09
open PySem L2 Ab Sm
/-- a counter's cells, in front of others -/
def cnM (C C2 c p1 p2 p3 : Addr) (S : Sc) (h n : Nat) (M : Mem) : Mem := (c, .ins C2 (cF C S h p1 p2 p3)) :: (p1, .lst ((upL (szS S) n).map .int)) :: (p2, .lst ((upL (edS S) n).map .int)) :: (p3, .lst ((upL (pwS S) n).map .int)) :: M
theorem cnM_cn {C C2 c p1 p2 p3 : Addr} {S : Sc} {h n : Nat} {M : Mem} : Cn C C2 (cnM C C2 c p1 p2 p3 S h n M) 0 c p1 p2 p3 S h n := ⟨rfl, rfl, rfl, rfl⟩
theorem cnM_grow {C C2 c p1 p2 p3 : Addr} {S : Sc} {h n m : Nat} {M : Mem} : grown (cnM C C2 c p1 p2 p3 S h n M) 0 p1 p2 p3 S m = cnM C C2 c p1 p2 p3 S h m M := rfl
theorem Cn.cons {C C2 : Addr} {M : Mem} {i : Nat} {c p1 p2 p3 : Addr} {S : Sc} {h n : Nat} {x : Addr × Cell} (q : Cn C C2 M i c p1 p2 p3 S h n) : Cn C C2 (x :: M) (i + 1) c p1 p2 p3 S h n := ⟨q.c0, q.c1, q.c2, q.c3⟩
theorem grown_cons {M : Mem} {i : Nat} {p1 p2 p3 : Addr} {S : Sc} {n : Nat} {x : Addr × Cell} : grown (x :: M) (i + 1) p1 p2 p3 S n = x :: grown M i p1 p2 p3 S n := rfl
section
variable {P : Program} {w : World} {K : PySem.W.Frag} {mg : Str → Option Value} {base : Heap} {k : Nat} {f C C2 : Addr}
def aCin (C C2 : Addr) : ASp := fun ds M R => ∃ (p : Addr) (S : Sc) (h : Nat) (M0 : Mem), ds = [.ptr p, scV C S, .int (h : Int)] ∧ M = (p, .ins C2 []) :: M0 ∧ GoodS S ∧ h ≤ 3000 ∧ ∀ p1 p2 p3, R .non (cnM C C2 p p1 p2 p3 S h h M0)
structure Mkc (P : Program) (w : World) (K : PySem.W.Frag) (mg : Str → Option Value) (base : Heap) (C C2 : Addr) : Prop where
  ex : ∃ fi, Mk K C2 fi ∧ FnX P w K mg base 5 fi ["height"] (spX K fun ds es M R => ds.length = 2 ∧ aCin C C2 (ds ++ es) M R) ∧ FnX P w K mg base 5 fi [] (spX K fun ds _ M R => ds.length = 2 ∧ aCin C C2 (ds ++ [.int 0]) M R)
/-- Counter(e) -/
theorem ae_counter {x : Str} {X : Cx} {Γ : Gam} {M : Mem} {R : Val → Mem → Prop} {e : Expr} {p1 pos : Pos} {m : Nat} (Z : Cr X.K X.mg C2) (gx : X.mg x = some (.ref C2)) (I : Mkc X.prog X.w X.K X.mg X.base C C2) (hr : Rm m X.A) (hm : 6 ≤ m)
    (h : aE X e Γ M fun x M1 => ∃ S, x = scV C S ∧ GoodS S ∧ ∀ c p1 p2 p3, c ∉ M1.map (·.1) → R (.ptr c) (cnM C C2 c p1 p2 p3 S 0 0 M1))
    (hg : Gl X x := by rfl) (hdb : (x == ("__debug__" : Str)) = false := by decide) (he : starEach [e] X.env = (false, eval e X.env) :: starEach [] X.env := by rfl) : aE X (.Call (.Name x p1) [e] [] pos) Γ M R := by
  obtain ⟨fi, mk, _, F⟩ := I.ex
  refine ae_make mk F (hr.mono hm) gx (aa_cons (h.mono fun x M1 h1 => aa_nil (ak_nil ⟨rfl, fun p hn => ⟨rfl, ?_⟩⟩)) he) hg rfl rfl hdb he (by rw [he]; rfl)
  obtain ⟨S, rfl, hS, hR⟩ := h1
  exact ⟨p, S, 0, M1, rfl, rfl, hS, by decide, fun a b c => ⟨rfl, hR p a b c hn⟩⟩
/-- Counter(e, height=e2) -/
theorem ae_counterH {x : Str} {X : Cx} {Γ : Gam} {M : Mem} {R : Val → Mem → Prop} {e e2 : Expr} {p1 p2 pos : Pos} {m : Nat} (Z : Cr X.K X.mg C2) (gx : X.mg x = some (.ref C2)) (I : Mkc X.prog X.w X.K X.mg X.base C C2) (hr : Rm m X.A) (hm : 6 ≤ m)
    (h : aE X e Γ M fun x M1 => aE X e2 Γ M1 fun y M2 => ∃ (S : Sc) (h : Nat), x = scV C S ∧ y = .int (h : Int) ∧ GoodS S ∧ h ≤ 3000 ∧ ∀ c p1 p2 p3, c ∉ M2.map (·.1) → R (.ptr c) (cnM C C2 c p1 p2 p3 S h h M2))
    (hg : Gl X x := by rfl) (hdb : (x == ("__debug__" : Str)) = false := by decide) (he : starEach [e] X.env = (false, eval e X.env) :: starEach [] X.env := by rfl) : aE X (.Call (.Name x p1) [e] [⟨some "height", e2, p2⟩] pos) Γ M R := by
  obtain ⟨fi, mk, F, _⟩ := I.ex
  refine ae_make mk F (hr.mono hm) gx (aa_cons (h.mono fun x M1 h1 => aa_nil (ak_cons (h1.mono fun y M2 h2 => ak_nil ⟨rfl, fun p hn => ⟨rfl, ?_⟩⟩))) he) hg rfl rfl hdb he (by rw [he]; rfl)
  obtain ⟨S, h, rfl, rfl, hS, h60, hR⟩ := h2
  exact ⟨p, S, h, M2, rfl, rfl, hS, h60, fun a b c => ⟨rfl, hR p a b c hn⟩⟩
structure Cvp (P : Program) (w : World) (K : PySem.W.Frag) (mg : Str → Option Value) (base : Heap) (C C2 : Addr) : Prop where
  va : ∃ f, Meth K C2 "value" f ∧ FX P w K mg base 6 f fun ds _ => aCf C C2 ds
  pl : ∃ f, Meth K C2 "place" f ∧ FX P w K mg base 6 f fun ds _ => aFin C C2 ds
section
variable {X : Cx} {Γ : Gam} {M : Mem} {R : Val → Mem → Prop} {o e : Expr} {pos apos : Pos} {m : Nat} {S : Sc} {pl : Sem Bool} {i h n b : Nat} {c p1 p2 p3 : Addr} {x : Int}
/-- o.place(e) -/
theorem av_place (Z : Cr X.K X.mg C2) (V : Cvp X.prog X.w X.K X.mg X.base C C2) (hr : Rm m X.A) (hm : 6 ≤ m) (ho : aV X o Γ M (.ptr c)) (he : aV X e Γ M (.int x)) (hx : x = (b : Int) + 1) (hc : Cn C C2 M i c p1 p2 p3 S h n) (hS : GoodS S) (hn : h ≤ n) (h60 : h ≤ 3000) (hb : b < 2 ^ 2000)
    (hst : starEach [e] X.env = (false, eval e X.env) :: starEach [] X.env := by rfl)
    (ht : eval (.Call (.Attribute o "place" apos) [e] [] pos) X.env = (do
      let ov ← eval o X.env
      standAt apos.atName
      let (f, first) ← holding [ov] (getMethod ov "place" pl)
      callWith pos f first (backTo pos (starEach [e] X.env)) (backToKw pos (keywordEach [] X.env))) := by rfl) : aV X (.Call (.Attribute o "place" apos) [e] [] pos) Γ M (.int (plN S h b)) :=
  ae_mt1 Z.cl V.pl hr hm ho (.ce i hc.c0) (he.val ⟨i, c, p1, p2, p3, S, h, n, b, x, rfl, hx, hc, hS, hn, h60, hb, rfl, rfl⟩) rfl hst ht
/-- o.value(e) -/
theorem ae_value (Z : Cr X.K X.mg C2) (V : Cvp X.prog X.w X.K X.mg X.base C C2) (hr : Rm m X.A) (hm : 6 ≤ m) (ho : aV X o Γ M (.ptr c)) (he : aV X e Γ M (.int x)) (hc : Cn C C2 M i c p1 p2 p3 S h n) (hS : GoodS S) (hn : h ≤ n) (h60 : h ≤ 3000) (n8 : n ≤ 8000) (x0 : 0 ≤ x) (x1 : x < 2 ^ 2000)
    (hR : ∀ v m, CntS S h x v → n ≤ m → m ≤ 8000 → R (.int v) (grown M i p1 p2 p3 S m))
    (hst : starEach [e] X.env = (false, eval e X.env) :: starEach [] X.env := by rfl)
    (ht : eval (.Call (.Attribute o "value" apos) [e] [] pos) X.env = (do
      let ov ← eval o X.env
      standAt apos.atName
      let (f, first) ← holding [ov] (getMethod ov "value" pl)
      callWith pos f first (backTo pos (starEach [e] X.env)) (backToKw pos (keywordEach [] X.env))) := by rfl) : aE X (.Call (.Attribute o "value" apos) [e] [] pos) Γ M R :=
  ae_mt1 Z.cl V.va hr hm ho (.ce i hc.c0) (he.val ⟨i, c, p1, p2, p3, S, h, n, x, rfl, hc, hS, hn, h60, n8, x0, x1, hR⟩) rfl hst ht
end
end
end K09

namespace K09
open PySem L2 Ab Sm
/-! ### the law's streams of draws: a dict -/
def stD (cs : List Int) (t y : Int) : Cell := .dk [(.inr "cells", .lst (cs.map .int)), (.inr "at", .int t), (.inr "left", .int y)]
theorem stD_inj {cs cs' : List Int} {t y t' y' : Int} (h : stD cs t y = stD cs' t' y') : t = t' := by
  unfold stD at h
  injection h with h
  injection h with h
  injection h with h1 h
  injection h with h2 h
  have := congrArg Prod.snd h2
  simpa using this
/-- the stream's cell stands at place i; its count is at most N -/
def SD (M : Mem) (i : Nat) (a : Addr) (N : Nat) : Prop := ∃ cs t y, M[i]? = some (a, stD cs t y) ∧ cs ≠ [] ∧ cs.length ≤ 1000 ∧ 0 ≤ t ∧ t ≤ (N : Int)
def Dq (i : Nat) (a : Addr) (c : Nat) (M M' : Mem) : Prop := ∃ cs t y cs' t' y', M[i]? = some (a, stD cs t y) ∧ M' = M.set i (a, stD cs' t' y') ∧ (cs ≠ [] → cs' ≠ []) ∧ (cs.length ≤ 1000 → cs'.length ≤ 1000) ∧ (0 ≤ t → 0 ≤ t') ∧ t' ≤ t + (c : Int)
theorem SD.dq {M M' : Mem} {i : Nat} {a : Addr} {N c : Nat} (h : SD M i a N) (d : Dq i a c M M') : SD M' i a (N + c) := by
  obtain ⟨cs, t, y, hm, hne, hl, h0, h1⟩ := h
  obtain ⟨cs1, t1, y1, cs2, t2, y2, hm1, rfl, f1, f2, g0, g1⟩ := d
  rw [hm] at hm1
  have e := (Prod.mk.inj (Option.some.inj hm1)).2
  have et := stD_inj e
  have ec : cs = cs1 := by
    unfold stD at e
    injection e with e
    injection e with e
    injection e with e1 e
    have e2 := congrArg Prod.snd e1
    have e3 : cs.map Val.int = cs1.map Val.int := by simpa using e2
    exact (List.map_inj_right (fun a b h => by injection h)).mp e3
  subst et ec
  exact ⟨cs2, t2, y2, List.getElem?_set_self (List.getElem?_eq_some_iff.mp hm).1, f1 hne, f2 hl, g0 h0, by omega⟩
theorem Dq.trans {M M' M'' : Mem} {i : Nat} {a : Addr} {c e : Nat} (d : Dq i a c M M') (d' : Dq i a e M' M'') : Dq i a (c + e) M M'' := by
  obtain ⟨cs1, t1, y1, cs2, t2, y2, hm1, rfl, f1, f2, g0, g1⟩ := d
  obtain ⟨cs3, t3, y3, cs4, t4, y4, hm3, rfl, f3, f4, g2, g3⟩ := d'
  rw [List.getElem?_set_self (List.getElem?_eq_some_iff.mp hm1).1] at hm3
  have e := (Prod.mk.inj (Option.some.inj hm3)).2
  have et := stD_inj e
  have ec : cs2 = cs3 := by
    unfold stD at e
    injection e with e
    injection e with e
    injection e with e1 e
    have e2 := congrArg Prod.snd e1
    have e3 : cs2.map Val.int = cs3.map Val.int := by simpa using e2
    exact (List.map_inj_right (fun a b h => by injection h)).mp e3
  subst et ec
  exact ⟨cs1, t1, y1, cs4, t4, y4, hm1, by rw [List.set_set], fun h => f3 (f1 h), fun h => f4 (f2 h), fun h => g2 (g0 h), by omega⟩
theorem Dq.mono {M M' : Mem} {i : Nat} {a : Addr} {c e : Nat} (d : Dq i a c M M') (h : c ≤ e) : Dq i a e M M' := by
  obtain ⟨cs1, t1, y1, cs2, t2, y2, hm1, e1, f1, f2, g0, g1⟩ := d
  exact ⟨cs1, t1, y1, cs2, t2, y2, hm1, e1, f1, f2, g0, by omega⟩
theorem SD.refl {M : Mem} {i : Nat} {a : Addr} {N : Nat} (h : SD M i a N) : Dq i a 0 M M := by
  obtain ⟨cs, t, y, h, _⟩ := h
  exact ⟨cs, t, y, cs, t, y, h, (set_id h).symm, fun h => h, fun h => h, fun h => h, by omega⟩
theorem SD.cons {M : Mem} {i : Nat} {a : Addr} {N : Nat} {c : Addr × Cell} (h : SD M i a N) : SD (c :: M) (i + 1) a N := h
theorem Dq.cons {M M' : Mem} {i : Nat} {a : Addr} {e : Nat} {c : Addr × Cell} (h : Dq (i + 1) a e (c :: M) M') : ∃ M'', M' = c :: M'' ∧ Dq i a e M M'' := by
  obtain ⟨x1, t1, y1, x2, t2, y2, hm1, rfl, g⟩ := h
  exact ⟨_, rfl, x1, t1, y1, x2, t2, y2, hm1, rfl, g⟩
section
variable {P : Program} {w : World} {K : PySem.W.Frag} {mg : Str → Option Value} {base : Heap} {k : Nat} {f C C2 : Addr}
/-! ### _law_next -/
def aNxt : ASp := fun ds M R => ∃ (a : Addr) (i N : Nat) (n : Int), ds = [.ptr a, .int n] ∧ SD M i a N ∧ N ≤ 1000000 ∧ 0 < n ∧ n.natAbs < 2 ^ 8000 ∧ ∀ v M', 0 ≤ v → v < n → Dq i a 1 M M' → R (.int v) M'
abbrev GNx (P : Program) (w : World) (K : PySem.W.Frag) (mg : Str → Option Value) (base : Heap) : Prop := Gd P w K mg base 1 "_law_next" [] fun ds _ => aNxt ds
theorem ae_next {X : Cx} {Γ : Gam} {M : Mem} {R : Val → Mem → Prop} {a b : Expr} {p1 pos : Pos} {n : Int} {p : Addr} {i m N : Nat} (D : GNx X.prog X.w X.K X.mg X.base) (hr : Rm m X.A) (hm : 1 ≤ m) (ha : aV X a Γ M (.ptr p)) (hb : aV X b Γ M (.int n)) (hs : SD M i p N) (hN : N ≤ 1000000) (h0 : 0 < n) (h1 : n.natAbs < 2 ^ 8000)
    (h : ∀ v M', 0 ≤ v → v < n → Dq i p 1 M M' → R (.int v) M') (hg : Gl X "_law_next" := by rfl)
    (he : starEach [a, b] X.env = [(false, eval a X.env), (false, eval b X.env)] := by rfl) (he2 : starEach [b] X.env = [(false, eval b X.env)] := by rfl) : aE X (.Call (.Name "_law_next" p1) [a, b] [] pos) Γ M R :=
  ae_g D hr hm (aa_cons (ha.val (aa_cons (hb.val (aa_nil (ak_nil ⟨rfl, p, i, N, n, rfl, hs, hN, h0, h1, h⟩))) (by rw [he2]; rfl))) (by rw [he, he2])) hg rfl rfl (he := by rw [he, he2]) (hpl := by rw [he]; rfl)
/-! ### _law_raised -/
def aRai : ASp := fun ds M R => ∃ (b n : Nat), ds = [.int (b : Int), .int (n : Int)] ∧ b ≤ 1000 ∧ n ≤ 1000 ∧ R (.int ((b ^ n : Nat) : Int)) M
abbrev GRai (P : Program) (w : World) (K : PySem.W.Frag) (mg : Str → Option Value) (base : Heap) : Prop := Gd P w K mg base 1 "_law_raised" [] fun ds _ => aRai ds
/-! ### _law_huge -/
def aHug : ASp := fun ds M R => ∃ (a : Addr) (i N : Nat), ds = [.ptr a] ∧ SD M i a N ∧ N ≤ 900000 ∧ ∀ v M', 0 ≤ v → v < 2 ^ 900 → Dq i a 9 M M' → R (.int v) M'
abbrev GHug (P : Program) (w : World) (K : PySem.W.Frag) (mg : Str → Option Value) (base : Heap) : Prop := Gd P w K mg base 2 "_law_huge" [] fun ds _ => aHug ds
end
end K09

namespace Ab
open PySem PySem.Spec PyProof.Rows L2
section
variable {X : Cx} {Γ : Gam} {M : Mem} {P : Val → Mem → Prop} {e a b c o : Expr} {es : List Expr} {pos p1 p2 apos kpos : Pos} {k : AK} {d d1 d2 d3 : Val} {i j l : Int} {x y m f : Str} {n : Nat} {C : Addr} {p q : Prop}
/-- xs[:e], xs any expression -/
theorem ae_sliceE (ha : aE X a Γ M fun d M1 => ∃ (xs : List Val) (j : Int), d = .lst xs ∧ aV X e Γ M1 (.int j) ∧ P (.lst (cutA xs none (some j))) M1) : aE X (.Subscript a (.Slice none (some e) none p2) pos) Γ M P :=
  ae_frz fun Hi H σ ok en Q q => by
    refine ⟨_, pe_slice sl_list pe_we po_none (po_some pe_we), ?_⟩
    refine ha Hi H σ ok en _ fun x M1 v Hi1 H1 h1 s1 ok1 r1 => ?_
    obtain ⟨xs, j, rfl, hh, hp⟩ := h1
    refine hh Hi1 H1 σ ok1 (en.mono s1) _ fun d M2 w Hi2 H2 h2 s2 ok2 r2 => ?_
    obtain ⟨rfl, rfl⟩ := h2
    cases r2
    refine ⟨j, rfl, ?_⟩
    cases r1.mono s2 with
    | @lst p ys _ hq ra => exact ⟨p, ys, rfl, ok2.im.seq hq, fun l hl => q _ _ _ _ _ ⟨l, _, _, rfl, rfl, hp⟩ (s1.trans s2) (ok2.new hl ⟨_, rfl, rep_cut ra none (some j)⟩) (.ptr l)⟩
end
theorem cutA_take {xs : List Val} {n : Nat} : cutA xs none (some (n : Int)) = xs.take n := by
  unfold cutA
  rw [HT.sIx_nat, HT.sIx_none, List.drop_zero, Nat.sub_zero]
  rcases Nat.le_total n xs.length with z | z
  · rw [Nat.min_eq_left z]
  · rw [Nat.min_eq_right z, List.take_of_length_le (Nat.le_refl _), List.take_of_length_le z]
end Ab

namespace Ab
open PySem PySem.Spec PyProof.Rows L2
/-! ### t[::-1] of a tuple -/
section
variable {prog : Program} {w : World} {A : Around} {E : Value → Shared → Prop} {s : Shared}
theorem adj_rev (n : Nat) : Builtin.Slice.sliceAdjust none none (-1) (n : Int) = ((n : Int) - 1, -1) := by
  unfold Builtin.Slice.sliceAdjust
  simp
theorem plc_rev (n : Nat) : Builtin.Slice.slicePlaces ((n : Int) - 1) (-1) (-1) = n := by
  unfold Builtin.Slice.slicePlaces
  rw [if_neg (show ¬ ((-1 : Int) > 0) by decide), show (- -1 : Int) = 1 by decide, Int.ediv_one]
  split <;> omega
theorem app_rev {sl : Addr} {vl vu vs : Value} {n : Nat} {Q : Int × Int × Nat → Shared → Prop} (hs : s.heap.IsSliceOf sl vl vu vs) (pl : IsPart vl none) (pu : IsPart vu none) (pv : IsPart vs (some (-1))) (h : Q ((n : Int) - 1, -1, n) s) :
    wpAny (model prog w) A (Builtin.Slice.sliceApplied (.ref sl) (pure (n : Int))) Q E s := by
  obtain ⟨os, hos, hcs, hds⟩ := id hs
  unfold Builtin.Slice.sliceApplied Builtin.Slice.sliceFields
  refine wpAny_bind (wpAny_bind (wpAny_field hos hds (x := vl) rfl (wpAny_bind (wpAny_field hos hds (x := vu) rfl (wpAny_bind (wpAny_field hos hds (x := vs) rfl (wpAny_pure ?_)))))))
  refine wpAny_bind (HT.slicePart_ pv ?_)
  show wpAny _ _ (if ((-1 : Int) == 0) = true then _ else _) _ _ s
  rw [if_neg (by decide)]
  refine wpAny_bind (HT.slicePart_ pl (wpAny_bind (HT.slicePart_ pu (wpAny_bind (wpAny_pure ?_)))))
  show wpAny _ _ (match Builtin.Slice.sliceAdjust none none (-1) (n : Int) with | (lo, hi) => pure (lo, (-1 : Int), Builtin.Slice.slicePlaces lo hi (-1))) _ _ s
  rw [adj_rev n]
  show wpAny _ _ (pure ((n : Int) - 1, (-1 : Int), Builtin.Slice.slicePlaces ((n : Int) - 1) (-1) (-1))) _ _ s
  rw [plc_rev]
  exact wpAny_pure h
theorem fm_congr {α β : Type} {f g : α → Option β} : ∀ {l : List α}, (∀ m ∈ l, f m = g m) → l.filterMap f = l.filterMap g
  | [], _ => rfl
  | x :: l, h => by
    rw [List.filterMap_cons, List.filterMap_cons, h x List.mem_cons_self, fm_congr (l := l) fun m hm => h m (List.mem_cons_of_mem _ hm)]
theorem pick_rev (xs : Array Value) : ((List.range xs.size).filterMap fun (m : Nat) => xs[(((xs.size : Int) - 1) + (m : Int) * -1).toNat]?).toArray = xs.toList.reverse.toArray := by
  congr 1
  have e : (List.range xs.size).filterMap (fun (m : Nat) => xs[(((xs.size : Int) - 1) + (m : Int) * -1).toNat]?) = ((List.range xs.size).map fun k => xs.size - 1 - k).filterMap (xs[·]?) := by
    rw [List.filterMap_map]
    refine fm_congr fun m hm => ?_
    have hm := List.mem_range.mp hm
    show xs[(((xs.size : Int) - 1) + (m : Int) * -1).toNat]? = xs[xs.size - 1 - m]?
    congr 1
    omega
  rw [e, PySem.W.krv_range, List.filterMap_reverse, PySem.W.krv_all]
theorem item_rev {t sl : Addr} {items : Array Value} {vl vu vs : Value} {Q : Value → Shared → Prop} (ht : IsTup s.heap t items) (hs : s.heap.IsSliceOf sl vl vu vs) (pl : IsPart vl none) (pu : IsPart vu none) (pv : IsPart vs (some (-1)))
    (h : Q (.ref s.heap.objs.size) { s with heap := s.heap.push { cls := .type "tuple", data := .seq items.toList.reverse.toArray } }) (hsz : items.size ≤ sizeLine) : wpAny (model prog w) A (getItem (.ref t) (.ref sl)) Q E s := by
  have hz : sizeOk (.seq items.toList.reverse.toArray) := by
    show items.toList.reverse.toArray.size ≤ sizeLine
    simpa using hsz
  obtain ⟨os, hos, hcs, hds⟩ := id hs
  have tS : s.TypeIs (.ref sl) "slice" := ⟨os, hos, hcs⟩
  unfold getItem
  try with_reducible refine wpAny_holding ?_
  first | refine wpAny_bind (wpAny_pure ?_) | skip
  refine wpAny_bind (wpAny_sequenceKey ht.typeIs (by decide) (wpAny_bind (wpAny_callSpecial?_slot (name := Str.ofString "__getitem__") ht.typeIs PyProof.Rows.slot_tuple_getitem (wpAny_call_entry PyProof.Rows.slot_tuple_getitem ht.typeIs entry_tuple_getitem ?_ (args_tuple_getitem _ _)))))
  show wpAny _ _ (Builtin.Tuple.tupleItemsOf (.ref t) >>= _) _ _ s
  refine wpAny_bind (tupleItemsOf_ ht (wpAny_bind (wpAny_typeOf tS ?_)))
  rw [if_pos (by decide)]
  refine wpAny_bind (app_rev hs pl pu pv ?_)
  show wpAny _ _ (if (((items.size : Int) - 1 == 0) && ((-1 : Int) == 1) && (items.size == items.size)) = true then _ else _) _ _ s
  rw [if_neg (by simp), pick_rev]
  first
    | exact wpAny_bind (m := Builtin.Tuple.tupleExact _) (wpAny_newObj_type (wpAny_pure ⟨_, rfl, wpAny_pure h⟩) hz)
    | exact wpAny_bind (wpAny_bind (m := Builtin.Tuple.tupleExact _) (wpAny_newObj_type (wpAny_pure ⟨_, rfl, wpAny_pure h⟩) hz))
end
section
variable {X : Cx} {Γ : Gam} {M : Mem} {P : Val → Mem → Prop} {e a : Expr} {pos p1 p2 p3 : Pos} {xs : List Val}
def tRevT (K : PySem.W.Frag) (te : TE) : TE := fun σ H Q => te σ H fun x H1 => ∃ a xs, x = .ref a ∧ SqT K H1 a xs ∧ ∀ p, H1 p = none → Q (.ref p) (upd H1 p (.tup xs.reverse))
theorem pe_revT {te : TE} {k : Nat} (he : PE X e te) : PE X (.Subscript e (.Slice none none (some (.UnaryOp .USub (.Constant (.int 1) k p1) p2)) p3) pos) (tRevT X.K te) := by
  refine ⟨fun pins s σ H Q I h => ?_⟩
  refine Subscript_ (thn (he.run pins s σ H _ I h) fun v s1 ⟨x, H1, I1, r1, a, xs, ex, hx, q⟩ => ?_)
  subst ex
  cases r1
  have ho : PO X (some (.UnaryOp .USub (.Constant (.int 1) k p1) p2)) (tPart (tUn (rU fun i => .int (-i)) (tC (.int 1)))) := po_some (pe_un un_neg pe_int)
  refine wpAny_Slice (thn (po_none.run pins s1 σ H1 (fun o H2 => o = none ∧ H2 = H1) I1 ⟨rfl, rfl⟩) fun vl s2 ⟨l, H2, I2, pl, el, e2⟩ => ?_)
  subst el e2
  refine thn (po_none.run pins s2 σ H2 (fun o H3 => o = none ∧ H3 = H2) I2 ⟨rfl, rfl⟩) fun vu s3 ⟨u, H3, I3, pu, eu, e3⟩ => ?_
  subst eu e3
  refine thn (ho.run pins s3 σ H3 (fun o H4 => o = some (-1) ∧ H4 = H3) I3 ⟨1, rfl, -1, rfl, rfl, rfl⟩) fun vs s4 ⟨o, H4, I4, ps, eo, e4⟩ => ?_
  subst eo e4
  have I5 : Inv X pins σ H4 { s4 with heap := s4.heap.push { cls := .type "slice", data := .fields #[vl, vu, vs] } } := I4.kept (t' := s4.toks) fun b ob q => Heap.get?_push_of_some _ q
  obtain ⟨its, r, ht, hz⟩ := I5.tuple hx
  have hlen := r.length
  show wpAny (model X.prog X.w) X.A (subscriptTail e (.Slice none none (some (.UnaryOp .USub (.Constant (.int 1) k p1) p2)) p3) (.ref a) (.ref s4.heap.objs.size)) (EP X pins σ Q) X.xe { s4 with heap := s4.heap.push { cls := .type "slice", data := .fields #[vl, vu, vs] } }
  refine tail_any (ops := [.ref a, .ref s4.heap.objs.size]) ht.typeIs (PyProof.Rows.slot_tuple_getitem.lookup) ?_ (by with_unfolding_all rfl)
  refine item_rev ht (Heap.IsSliceOf.new _ vl vu vs) pl pu ps ?_ (by rw [List.size_toArray]; omega)
  refine ⟨.ref _, _, I5.laid (t' := s4.toks) (o := .tup xs.reverse) (fun b ob q => Heap.get?_push_of_some _ q) (Nat.le_refl _) ?_, rfl, q _ (I5.hok.fresh (Nat.le_refl _))⟩
  exact ⟨by rw [List.length_reverse]; exact hz, _, r.reverse, IsTup.new _ _⟩
theorem RepA.rev {K : PySem.W.Frag} {H : Hp} {ds : List Val} {vs : List V} (r : RepA K H ds vs) : RepA K H ds.reverse vs.reverse := by
  induction ds generalizing vs with
  | nil => cases r; exact .nil
  | cons d ds ih =>
    cases r with
    | cons r1 r2 =>
      rw [List.reverse_cons, List.reverse_cons]
      exact (ih r2).append (.cons r1 .nil)
theorem av_revT {k : Nat} (ha : aV X e Γ M (.tup xs)) : aV X (.Subscript e (.Slice none none (some (.UnaryOp .USub (.Constant (.int 1) k p1) p2)) p3) pos) Γ M (.tup xs.reverse) := fun Hi H σ ok en Q q => by
  refine ⟨_, pe_revT pe_we, ?_⟩
  refine ha Hi H σ ok en _ fun x M1 v Hi1 H1 h1 s1 ok1 r1 => ?_
  obtain ⟨rfl, rfl⟩ := h1
  cases r1 with
  | @tup p ys _ hq ra =>
    refine ⟨p, ys, rfl, sameT ok1.im hq, fun l hl => ?_⟩
    have s2 := same_upd (o := .tup ys.reverse) (ok1.none hl)
    exact q _ _ _ _ _ ⟨rfl, rfl⟩ (s1.trans s2) (ok1.imm hl) (.tup (SqT.of upd_same) (ra.rev.mono s2))
end
end Ab

/-! boxes: opened, closed; promises over boxes -/
namespace Ab
open PySem PySem.Spec PyProof.Rows L2
section
variable {X : Cx} {Γ : Gam} {M M' : Mem} {P : Val → Mem → Prop} {e : Expr} {sts : List Stmt} {k : AK} {p : Addr} {φ φ' : Mem0 → Prop} {B : Mem0} {i : Nat}
/-- a box is opened for the rest of a block -/
theorem as_open (hi : M[i]? = some (p, .box φ)) (h : ∀ B, φ B → p ∈ B.map (·.1) → aSs X sts Γ (bs B ++ M.eraseIdx i) k) : aSs X sts Γ M k := fun Hi H σ ok en D q => by
  obtain ⟨B, h1, h2, ok'⟩ := ok.opn hi
  exact h B h1 h2 Hi H σ ok' en D q
theorem ae_open (hi : M[i]? = some (p, .box φ)) (h : ∀ B, φ B → p ∈ B.map (·.1) → aE X e Γ (bs B ++ M.eraseIdx i) P) : aE X e Γ M P := fun Hi H σ ok en Q q => by
  obtain ⟨B, h1, h2, ok'⟩ := ok.opn hi
  exact h B h1 h2 Hi H σ ok' en Q q
theorem as_close (φ : Mem0 → Prop) (e0 : M = bs B ++ M') (hφ : φ B) (hp : p ∈ B.map (·.1)) (h : aSs X sts Γ ((p, .box φ) :: M') k) : aSs X sts Γ M k := fun Hi H σ ok en D q => by
  subst e0
  exact h Hi H σ (ok.cls hφ hp) en D q
/-- cells into a box, behind an expression -/
theorem ae_close (h : aE X e Γ M fun d M1 => ∃ φ B M2 p, M1 = bs B ++ M2 ∧ φ B ∧ p ∈ B.map (·.1) ∧ P d ((p, .box φ) :: M2)) : aE X e Γ M P := fun Hi H σ ok en Q q => h Hi H σ ok en Q fun d M1 v Hi1 H1 h1 s1 ok1 r1 => by
  obtain ⟨φ, B, M2, p, rfl, hφ, hp, hP⟩ := h1
  exact q d _ v Hi1 H1 hP s1 (ok1.cls hφ hp) r1
end
section
variable {P : Program} {w : World} {K : PySem.W.Frag} {mg : Str → Option Value} {base : Heap} {k : Nat} {f : Addr} {ks : List Str} {sp sp' : List V → List V → Hp → VK → Prop} {sx sx' : ASx}
theorem FnX.weak (F : FnX P w K mg base k f ks sp) (h : ∀ vs zs H Q, sp' vs zs H Q → sp vs zs H Q) : FnX P w K mg base k f ks sp' :=
  ⟨fun A outer s H us ws vs zs Q a b c d e g => F.run A outer s H us ws vs zs Q a b c d e (h vs zs H Q g)⟩
/-- a promise by another one -/
theorem FnX.imp (F : FnX P w K mg base k f ks (spX K sx)) (h : ∀ ds es M R, sx' ds es M R → sx ds es M R) : FnX P w K mg base k f ks (spX K sx') :=
  F.weak fun vs zs H Q ⟨Hi, M, ds, es, R, r1, r2, ok, hs, q⟩ => ⟨Hi, M, ds, es, R, r1, r2, ok, h ds es M R hs, q⟩
theorem set_at {α : Type} {M : List α} {i : Nat} {x : α} (h : M[i]? = some x) : M.set i x = M := by
  induction M generalizing i with
  | nil => rfl
  | cons y M ih =>
    cases i with
    | zero => cases h; rfl
    | succ i => rw [List.set_cons_succ, ih h]
/-- a promise over cells, told over their box -/
theorem FnX.box (F : FnX P w K mg base k f ks (spX K sx)) (h : ∀ ds es M R, sx' ds es M R → ∃ (i : Nat) (p : Addr) (φ : Mem0 → Prop), M[i]? = some (p, .box φ) ∧
    ∀ B, φ B → p ∈ B.map (·.1) → sx ds es (bs B ++ M.eraseIdx i) fun d M' => ∃ B' φ', M' = bs B' ++ M.eraseIdx i ∧ φ' B' ∧ p ∈ B'.map (·.1) ∧ R d (M.set i (p, .box φ'))) : FnX P w K mg base k f ks (spX K sx') :=
  F.weak fun vs zs H Q ⟨Hi, M, ds, es, R, r1, r2, ok, hs, q⟩ => by
    obtain ⟨i, p, φ, hi, hb⟩ := h ds es M R hs
    obtain ⟨B, h1, h2, ok'⟩ := ok.opn hi
    refine ⟨Hi, _, ds, es, _, r1, r2, ok', hb B h1 h2, fun d M' v Hi' H' hd s' ok2 r => ?_⟩
    obtain ⟨B', φ', rfl, h3, h4, h5⟩ := hd
    exact q d _ v Hi' H' h5 s' (ok2.clsAt hi h3 h4) r
/-- new cells into a box at a call's end -/
theorem FnX.boxNew (F : FnX P w K mg base k f ks (spX K sx)) (h : ∀ ds es M R, sx' ds es M R → sx ds es M fun d M' => ∃ p B φ M2, M' = bs B ++ M2 ∧ φ B ∧ p ∈ B.map (·.1) ∧ R d ((p, .box φ) :: M2)) : FnX P w K mg base k f ks (spX K sx') :=
  F.weak fun vs zs H Q ⟨Hi, M, ds, es, R, r1, r2, ok, hs, q⟩ => by
    refine ⟨Hi, _, ds, es, _, r1, r2, ok, h ds es M R hs, fun d M' v Hi' H' hd s' ok2 r => ?_⟩
    obtain ⟨p, B, φ, M2, rfl, h3, h4, h5⟩ := hd
    exact q d _ v Hi' H' h5 s' (ok2.cls h3 h4) r
end
end Ab

/-! repr of data of any depth; memories read otherwise -/
namespace Ab
open PySem PySem.Spec PyProof.Rows L2
mutual
def shV : Val → Prop
  | .non => True
  | .bl _ => True
  | .int i => showI i
  | .str x => x.cps.toList.all (fun c => decide (c < 16 ^ 8)) = true
  | .lst xs => shVs xs
  | .tup xs => shVs xs
  | .ty _ => False
  | .ptr _ => False
  | .obj _ _ => False
  | .exc _ _ => False
def shVs : List Val → Prop
  | [] => True
  | x :: xs => shV x ∧ shVs xs
end
mutual
def wdV : Val → Nat
  | .non => 5
  | .bl _ => 5
  | .int _ => 1921
  | .str x => 10 * x.length + 2
  | .lst xs => wdVs xs + 3
  | .tup xs => wdVs xs + 3
  | .ty _ => 0
  | .ptr _ => 0
  | .obj _ _ => 0
  | .exc _ _ => 0
def wdVs : List Val → Nat
  | [] => 0
  | x :: xs => wdV x + 2 + wdVs xs
end
mutual
def dpV : Val → Nat
  | .non => 0
  | .bl _ => 0
  | .int _ => 0
  | .str _ => 0
  | .lst xs => dpVs xs + 1
  | .tup xs => dpVs xs + 1
  | .ty _ => 0
  | .ptr _ => 0
  | .obj _ _ => 0
  | .exc _ _ => 0
def dpVs : List Val → Nat
  | [] => 0
  | x :: xs => max (dpV x) (dpVs xs)
end
structure ShD (v : Val) (p : PyData) : Prop where
  td : toD v = some p
  sh : p.showable = true
  nd : p.hasDict = false
  ln : p.shown.length ≤ wdV v
  dp : p.depth ≤ dpV v
structure ShDs (v : List Val) (p : List PyData) : Prop where
  td : toDs v = some p
  sh : PyData.showableAll p = true
  nd : PyData.hasDictAll p = false
  ln : ((PyData.shownAll p).map (·.length)).sum + 2 * (PyData.shownAll p).length ≤ wdVs v
  dp : PyData.depthAll p ≤ dpVs v
mutual
theorem shd : ∀ (v : Val), shV v → ∃ p, ShD v p
  | .non, _ => ⟨.none, by unfold toD; rfl, rfl, rfl, by decide, by simp [PyData.depth]⟩
  | .bl b, _ => ⟨.bool b, by unfold toD; rfl, rfl, rfl, by cases b <;> decide, by simp [PyData.depth]⟩
  | .int i, h => ⟨.int i, by unfold toD; rfl, by unfold PyData.showable; exact decide_eq_true h, rfl, by unfold wdV; exact shownI_le h, by simp [PyData.depth]⟩
  | .str x, h => ⟨.str x, by unfold toD; rfl, rfl, rfl, by
      unfold wdV PyData.shown
      have := StrLaws.reprText_len x (fun c hc => by unfold shV at h; exact of_decide_eq_true (List.all_eq_true.mp h c hc))
      omega, by simp [PyData.depth]⟩
  | .lst xs, h => by
    unfold shV at h
    obtain ⟨ps, q⟩ := shds xs h
    refine ⟨.list ps, by unfold toD; rw [q.td]; rfl, by unfold PyData.showable; exact q.sh, by unfold PyData.hasDict; exact q.nd, ?_, by unfold PyData.depth dpV; have := q.dp; omega⟩
    unfold wdV PyData.shown
    have h1 := listText_len_le (PyData.shownAll ps)
    have h2 := q.ln
    omega
  | .tup xs, h => by
    unfold shV at h
    obtain ⟨ps, q⟩ := shds xs h
    refine ⟨.tuple ps, by unfold toD; rw [q.td]; rfl, by unfold PyData.showable; exact q.sh, by unfold PyData.hasDict; exact q.nd, ?_, by unfold PyData.depth dpV; have := q.dp; omega⟩
    unfold wdV PyData.shown
    have h1 := tupleText_len_le (PyData.shownAll ps)
    have h2 := q.ln
    omega
  | .ty _, h => h.elim
  | .ptr _, h => h.elim
  | .obj _ _, h => h.elim
  | .exc _ _, h => h.elim
theorem shds : ∀ (v : List Val), shVs v → ∃ p, ShDs v p
  | [], _ => ⟨[], rfl, rfl, rfl, by decide, by simp [PyData.depthAll]⟩
  | x :: xs, h => by
    unfold shVs at h
    obtain ⟨p, q⟩ := shd x h.1
    obtain ⟨ps, qs⟩ := shds xs h.2
    refine ⟨p :: ps, by unfold toDs; rw [q.td, qs.td]; rfl, by unfold PyData.showableAll; rw [q.sh, qs.sh]; rfl, by unfold PyData.hasDictAll; rw [q.nd, qs.nd]; rfl, ?_, by unfold PyData.depthAll dpVs; have := q.dp; have := qs.dp; omega⟩
    unfold PyData.shownAll wdVs
    rw [List.map_cons, List.sum_cons, List.length_cons]
    have := q.ln
    have := qs.ln
    omega
end
def rpr (v : Val) : Str := match toD v with
  | some p => p.shown
  | none => ""
def isSq : Val → Prop
  | .lst _ => True
  | .tup _ => True
  | _ => False
section
variable {X : Cx} {Γ : Gam} {M M' : Mem} {P : Val → Mem → Prop} {e a b c o : Expr} {pos p1 : Pos} {sts : List Stmt} {k : AK} {d v : Val} {n : Nat}
theorem ae_reprV (hr : Rm n X.A) (hm : X.mg "repr" = none) (ha : aE X a Γ M fun d M' => ∃ v, Vw M' d v ∧ isSq v ∧ shV v ∧ wdV v ≤ sizeLine ∧ dpV v ≤ 60 ∧ P (.str (rpr v)) M')
    (hg : Gl X "repr" := by rfl) (hst : starEach [a] X.env = [(false, eval a X.env)] := by rfl) : aE X (.Call (.Name "repr" p1) [a] [] pos) Γ M P := by
  refine ae_repr hr hm (ha.mono fun d M1 ⟨v, h1, h2, h3, h4, h5, h6⟩ => ?_) hg hst
  obtain ⟨p, q⟩ := shd v h3
  have e : rpr v = p.shown := by unfold rpr; rw [q.td]
  rw [e] at h6
  refine ⟨v, p, h1, q.td, ?_, q.sh, q.nd, Nat.le_trans q.dp h5, Nat.le_trans q.ln h4, h6⟩
  have t := q.td
  cases v with
  | lst xs =>
    unfold toD at t
    obtain ⟨ds, _, rfl⟩ := Option.map_eq_some_iff.mp t
    exact .inl ⟨_, rfl⟩
  | tup xs =>
    unfold toD at t
    obtain ⟨ds, _, rfl⟩ := Option.map_eq_some_iff.mp t
    exact .inr ⟨_, rfl⟩
  | _ => exact h2.elim
theorem av_repr (hr : Rm n X.A) (hm : X.mg "repr" = none) (ha : aV X a Γ M v) (h2 : isSq v) (h3 : shV v) (h4 : wdV v ≤ sizeLine) (h5 : dpV v ≤ 60)
    (hg : Gl X "repr" := by rfl) (hst : starEach [a] X.env = [(false, eval a X.env)] := by rfl) : aV X (.Call (.Name "repr" p1) [a] [] pos) Γ M (.str (rpr v)) :=
  ae_reprV hr hm (ha.val ⟨v, .self _, h2, h3, h4, h5, rfl, rfl⟩) hg hst
/-- memories read otherwise -/
theorem as_tr (h : ∀ K Hi H, Ok K Hi M H → Ok K Hi M' H) (hs : aSs X sts Γ M' k) : aSs X sts Γ M k := fun Hi H σ ok en D q => hs Hi H σ (h _ _ _ ok) en D q
theorem ae_tr (h : ∀ K Hi H, Ok K Hi M H → Ok K Hi M' H) (hs : aE X e Γ M' P) : aE X e Γ M P := fun Hi H σ ok en Q q => hs Hi H σ (h _ _ _ ok) en Q q
end
section
variable {P : Val → Mem → Prop} {d : Val} {M M' : Mem} {B : Mem0} {p : Addr} {φ : Mem0 → Prop} {x : Cell} {i : Nat}
/-- a def's end: the cells go back into their box -/
theorem Ret.clsAt (hi : M[i]? = some (p, x)) (h : φ B) (hp : p ∈ B.map (·.1)) (hr : Ret P d (M.set i (p, .box φ))) : Ret P d (bs B ++ M.eraseIdx i) := .tr (fun _ _ _ ok => ok.clsAt hi h hp) hr
theorem Ret.cls (h : φ B) (hp : p ∈ B.map (·.1)) (hr : Ret P d ((p, .box φ) :: M)) : Ret P d (bs B ++ M) := .tr (fun _ _ _ ok => ok.cls h hp) hr
theorem bx_get {α : Type} {M : List α} {i : Nat} {x y : α} (h : M[i]? = some x) : (M.set i y)[i]? = some y := List.getElem?_set_self (List.getElem?_eq_some_iff.mp h).1
end
end Ab

/-! comparisons whose outcome is known; data compared -/
namespace Ab
open PySem PySem.Spec PyProof.Rows L2
mutual
def dtV : Val → Prop
  | .non => True
  | .bl _ => True
  | .int _ => True
  | .str x => PyData.strOk x = true
  | .lst xs => dtVs xs
  | .tup xs => dtVs xs
  | .ty _ => False
  | .ptr _ => False
  | .obj _ _ => False
  | .exc _ _ => False
def dtVs : List Val → Prop
  | [] => True
  | x :: xs => dtV x ∧ dtVs xs
end
structure DtD (v : Val) (p : PyData) : Prop where
  td : toD v = some p
  cl : p.canLay0 = true
  dp : p.depth ≤ dpV v
structure DtDs (v : List Val) (p : List PyData) : Prop where
  td : toDs v = some p
  cl : PyData.canLayAll0 p = true
  dp : PyData.depthAll p ≤ dpVs v
mutual
theorem dtd : ∀ (v : Val), dtV v → ∃ p, DtD v p
  | .non, _ => ⟨.none, by unfold toD; rfl, rfl, by simp [PyData.depth]⟩
  | .bl b, _ => ⟨.bool b, by unfold toD; rfl, rfl, by simp [PyData.depth]⟩
  | .int i, h => ⟨.int i, by unfold toD; rfl, rfl, by simp [PyData.depth]⟩
  | .str x, h => ⟨.str x, by unfold toD; rfl, by unfold dtV at h; unfold PyData.canLay0; exact h, by simp [PyData.depth]⟩
  | .lst xs, h => by
    unfold dtV at h
    obtain ⟨ps, q⟩ := dtds xs h
    exact ⟨.list ps, by unfold toD; rw [q.td]; rfl, by unfold PyData.canLay0; exact q.cl, by unfold PyData.depth dpV; have := q.dp; omega⟩
  | .tup xs, h => by
    unfold dtV at h
    obtain ⟨ps, q⟩ := dtds xs h
    exact ⟨.tuple ps, by unfold toD; rw [q.td]; rfl, by unfold PyData.canLay0; exact q.cl, by unfold PyData.depth dpV; have := q.dp; omega⟩
  | .ty _, h => h.elim
  | .ptr _, h => h.elim
  | .obj _ _, h => h.elim
  | .exc _ _, h => h.elim
theorem dtds : ∀ (v : List Val), dtVs v → ∃ p, DtDs v p
  | [], _ => ⟨[], rfl, rfl, by simp [PyData.depthAll]⟩
  | x :: xs, h => by
    unfold dtVs at h
    obtain ⟨p, q⟩ := dtd x h.1
    obtain ⟨ps, qs⟩ := dtds xs h.2
    exact ⟨p :: ps, by unfold toDs; rw [q.td, qs.td]; rfl, by unfold PyData.canLayAll0; rw [q.cl, qs.cl]; rfl, by unfold PyData.depthAll dpVs; have := q.dp; have := qs.dp; omega⟩
end
theorem dt_ints (xs : List Int) : dtVs (xs.map .int) := by
  induction xs with
  | nil => trivial
  | cons x xs ih => exact ⟨trivial, ih⟩
theorem dp_ints (xs : List Int) : dpVs (xs.map .int) = 0 := by
  induction xs with
  | nil => rfl
  | cons x xs ih =>
    rw [List.map_cons]
    unfold dpVs dpV
    rw [ih]
    rfl
theorem at0_mem {xs : List Int} {j : Int} (h0 : 0 ≤ j) (h1 : j < xs.length) : at0 xs j ∈ xs := by
  unfold at0
  rw [List.getD_eq_getElem?_getD, List.getElem?_eq_getElem (by omega)]
  exact List.getElem_mem _
section
variable {X : Cx} {Γ : Gam} {M M' : Mem} {P : Val → Mem → Prop} {e a b c o : Expr} {pos p1 : Pos} {sts : List Stmt} {k : AK} {d d1 d2 v w : Val} {n : Nat} {i j : Int}
theorem cmp_eqV (h1 : Vw M d1 v) (h2 : Vw M d2 w) (h : v = w) (hd : dtV v) (hp : dpV v ≤ 60) (hu : X.A.units + 64 < cLine) : Cmp X .Eq M d1 d2 true := by
  subst h
  obtain ⟨p, q⟩ := dtd v hd
  have hs : SeqAt.shaped p = true := Bool.and_eq_true_iff.mpr ⟨q.cl, decide_eq_true (by have := q.dp; omega)⟩
  have := cmp_eqD (X := X) h1 h2 q.td q.td hs hs hu
  rwa [SeqAt.eqv_refl _ q.cl] at this
theorem cmp_neV (h1 : Vw M d1 v) (h2 : Vw M d2 w) (h : v = w) (hd : dtV v) (hp : dpV v ≤ 60) (hu : X.A.units + 64 < cLine) : Cmp X .NotEq M d1 d2 false := by
  subst h
  obtain ⟨p, q⟩ := dtd v hd
  have hs : SeqAt.shaped p = true := Bool.and_eq_true_iff.mpr ⟨q.cl, decide_eq_true (by have := q.dp; omega)⟩
  have := cmp_neD (X := X) h1 h2 q.td q.td hs hs hu
  rwa [SeqAt.eqv_refl _ q.cl] at this
theorem cmp_neF (h : i = j) : Cmp X .NotEq M (.int i) (.int j) false := cmp_neI.eq (by simp [h])
theorem cmp_neT (h : i ≠ j) : Cmp X .NotEq M (.int i) (.int j) true := cmp_neI.eq (by simp [h])
theorem cmp_eqT (h : i = j) : Cmp X .Eq M (.int i) (.int j) true := cmp_eqI.eq (by simp [h])
theorem cmp_eqF (h : i ≠ j) : Cmp X .Eq M (.int i) (.int j) false := cmp_eqI.eq (by simp [h])
theorem cmp_ltT (h : i < j) : Cmp X .Lt M (.int i) (.int j) true := cmp_lt.eq (by simp [h])
theorem cmp_ltF (h : j ≤ i) : Cmp X .Lt M (.int i) (.int j) false := cmp_lt.eq (by simp; omega)
theorem cmp_leT (h : i ≤ j) : Cmp X .LtE M (.int i) (.int j) true := cmp_le.eq (by simp [h])
theorem cmp_leF (h : j < i) : Cmp X .LtE M (.int i) (.int j) false := cmp_le.eq (by simp; omega)
theorem cmp_gtT (h : j < i) : Cmp X .Gt M (.int i) (.int j) true := cmp_gt.eq (by simp [h])
theorem cmp_gtF (h : i ≤ j) : Cmp X .Gt M (.int i) (.int j) false := cmp_gt.eq (by simp; omega)
theorem cmp_geT (h : j ≤ i) : Cmp X .GtE M (.int i) (.int j) true := cmp_ge.eq (by simp [h])
theorem cmp_geF (h : i < j) : Cmp X .GtE M (.int i) (.int j) false := cmp_ge.eq (by simp; omega)
theorem cmp_eqST {x y : Str} (h : x = y) : Cmp X .Eq M (.str x) (.str y) true := cmp_eqS.eq (by simp [h])
theorem cmp_eqSF {x y : Str} (h : x ≠ y) : Cmp X .Eq M (.str x) (.str y) false := cmp_eqS.eq (by simp [h])
theorem cmp_neSF {x y : Str} (h : x = y) : Cmp X .NotEq M (.str x) (.str y) false := cmp_neS.eq (by simp [h])
theorem cmp_neST {x y : Str} (h : x ≠ y) : Cmp X .NotEq M (.str x) (.str y) true := cmp_neS.eq (by simp [h])
theorem atI_ixis {M : Mem} {x : Val} {i : Int} {d : Val} (h : IxIs M x i d) : ∃ xs, Sq M x xs ∧ atI xs i = some d := by
  cases h with
  | iT h0 h1 => exact ⟨_, .t, atI_int h0 h1⟩
  | iL h0 h1 => exact ⟨_, .l (.self _), atI_int h0 h1⟩
  | ci n hm h0 h1 => exact ⟨_, .l (.lst n hm), atI_int h0 h1⟩
  | t h => exact ⟨_, .t, h⟩
  | l h => exact ⟨_, .l (.self _), h⟩
  | c n hm h => exact ⟨_, .l (.lst n hm), h⟩
theorem ae_g0 {x : Str} {m : Nat} {ks : List Str} {sx : ASx} {kws : List Keyword} (G : Gd X.prog X.w X.K X.mg X.base n x ks sx) (hr : Rm m X.A) (hnm : n ≤ m) (h : aKw X kws Γ M fun zs M2 => zs.length = ks.length ∧ sx [] zs M2 P)
    (hg : Gl X x := by rfl) (hall : (backToKw pos (keywordEach kws X.env)).all (·.1.isSome) = true := by rfl) (hks : (backToKw pos (keywordEach kws X.env)).filterMap (·.1) = ks := by rfl) (hdb : (x == ("__debug__" : Str)) = false := by decide)
    (hpl : ((backTo pos (starEach [] X.env)).any (·.1) || (backToKw pos (keywordEach kws X.env)).any (·.1.isNone)) = false := by rfl) : aE X (.Call (.Name x p1) [] kws pos) Γ M P := by
  obtain ⟨f, F, hm, hk⟩ := G.ex
  exact ae_call0 F (hr.mono hnm) hm hk h hg hall hks hdb hpl
theorem av_powC {v : Int} (ha : aV X a Γ M (.int i)) (hb : aV X b Γ M (.int j)) (hc : CPow i j) (h : i ^ j.toNat = v) : aV X (.BinOp a .Pow b pos) Γ M (.int v) := by
  rw [← h]
  exact av_pow ha hb hc
/-- xs[i], either part changing cells -/
theorem ae_ixV (h : aE X a Γ M fun x M1 => aE X b Γ M1 fun y M2 => ∃ i d, y = .int i ∧ IxIs M2 x i d ∧ P d M2) (hs : PlainIx b := by exact fun _ _ => rfl) : aE X (.Subscript a b pos) Γ M P :=
  ae_ixM (h.mono fun x M1 h1 => h1.mono fun y M2 ⟨i, d, e, hi, hp⟩ => by
    obtain ⟨xs, h2, h3⟩ := atI_ixis hi
    exact ⟨i, xs, d, e, h2, h3, hp⟩) hs
end
end Ab
namespace Ab
open PySem PySem.Spec PyProof.Rows L2
section
variable {P : Program} {w : World} {K : PySem.W.Frag} {mg : Str → Option Value} {base : Heap}
/-- a def with defaults, called by positions and keywords in any way -/
theorem fnx_dflG {x qual : Str} {params : Arguments} {body : List Stmt} {sc : Scope} {dvs : List V} {kws : List (Str × V)} {f : Addr} {fd : FuncData} {N ps ks : List Str} {k n : Nat} {s0 : ASp} (g : {α : Type} → List α → List α → List α → List α) (F : FunD K x qual params body sc dvs kws f fd) (S : FnScope N ps sc) (hd : dvs ≠ []) (dd : List Val) (hdd : ∀ H, RepA K H dd dvs)
    (h : ∀ (T : Addr) (kV doc pm : Value) (an : Option Addr) (cdv ct : Value) (us ws its : List Value), us.length = n → ws.length = ks.length → its.length = dvs.length →
      ∃ k, bindArgs (PySem.W.fnOf x qual params body sc (.ref T) kV doc pm an cdv ct) ⟨us, ks.zip ws⟩ = seqItems? (.ref T) >>= k ∧ k (some its.toArray) = pure (ps.zip (g us ws its)))
    (hv : ∀ {vs zs ys : List V} {us ws its : List Value}, Vals vs us → Vals zs ws → Vals ys its → Vals (g vs zs ys) (g us ws its))
    (hr : ∀ {H : Hp} {ds es fs : List Val} {vs zs ys : List V}, RepA K H ds vs → RepA K H es zs → RepA K H fs ys → RepA K H (g ds es fs) (g vs zs ys))
    (len : ∀ ds M R, s0 ds M R → ds.length = ps.length) (hb : BodyOk P w K mg base k f N qual sc body s0) : FnX P w K mg base (k + 1) f ks (spX K fun ds es M R => ds.length = n ∧ s0 (g ds es dd) M R) := by
  obtain ⟨oc, od, dV, kV, doc, pm, an, cdv, ct, osl, e, lk, hcd, hD, hK⟩ := F.ex
  rcases hD with ⟨e, _⟩ | ⟨_, T, o, its, m, e2, lT, oT, rT⟩
  · exact absurd e hd
  · subst e2
    subst e
    have l1 : its.length = dvs.length := rT.length.symm
    refine fnx_kbn (n := n) (ks := ks) (fun ds es => g ds es dd) F S (g := fun us ws => g us ws its) (gV := fun vs zs => g vs zs dvs) ⟨fun s us ws X l2 h2 => ?_, fun r1 r2 => hv r1 r2 rT⟩ (fun H ds vs es zs r1 r2 _ _ => hr r1 r2 (hdd H)) len hb
    obtain ⟨k', e1, e2⟩ := h T kV doc pm an cdv ct us ws its l2 h2 l1
    refine BindsTo.of_looks fun M => ?_
    show PySem.W.Looks M s.heap (bindArgs _ ⟨us, ks.zip ws⟩) _
    rw [e1]
    exact looks_items X lT oT (.of_pure e2)
/-- a written tuple -/
theorem rep_wt {H : Hp} {a : Addr} {c : Value} {od : Option Addr} {its : List Value} {n : Nat} {sl : Array (Option Value)} {vs : List V} {ds : List Val} (l : K.lookup a = some ⟨c, od, .seq its.toArray n, sl⟩) (hc : c = .type "tuple") (hz : its.length ≤ sizeLine) (hv : Vals vs its) (r : RepA K H ds vs) : Rep K H (.tup ds) (.ref a) :=
  .tup (.inr ⟨_, _, _, l, hc, rfl, by simpa using hz, by simpa using hv⟩) r
end
end Ab

namespace K09
open PySem L2 Ab Sm
/-- a short stream -/
structure Sq3 (lo : Int) (s : Stm) : Prop where
  sq : Seq lo s
  a1 : ∀ v ∈ s.1, v ≤ 3
  a2 : ∀ v ∈ s.2, v ≤ 3
  l3 : s.1.length ≤ 3
theorem Sq3.it {lo : Int} {s : Stm} (h : Sq3 lo s) (i : Nat) : item s i ≤ 3 := by
  rcases item_mem h.sq.ne i with z | z
  · exact h.a1 _ z
  · exact h.a2 _ z
theorem sq3_bs {a : Int} {s l : Stm} (a2 : 2 ≤ a) (a9 : a ≤ 9) (hs : Sq3 0 s) (hl : Sq3 1 l) : Bs 3 ⟨a, nf s, nf l⟩ := by
  have h := seq_bs a2 a9 hs.sq hl.sq
  exact ⟨h.g, h.p1, h.p2, fun i => by show item (nf s) i ≤ 3; rw [(nf_spec hs.sq.ne).it]; exact hs.it i, fun i => by show item (nf l) i ≤ 3; rw [(nf_spec hl.sq.ne).it]; exact hl.it i⟩
section
variable {P : Program} {w : World} {K : PySem.W.Frag} {mg : Str → Option Value} {base : Heap} {k : Nat} {f C C2 : Addr}
/-! ### _law_random_stream -/
def aRst : ASp := fun ds M R => ∃ (p : Addr) (i N : Nat) (lo : Int), ds = [.ptr p, .int lo] ∧ SD M i p N ∧ N ≤ 900000 ∧ 0 ≤ lo ∧ lo ≤ 1 ∧ ∀ s M', Sq3 lo s → Dq i p 9 M M' → R (stV s) M'
theorem max_sm3 {lo v : Int} (h0 : 0 ≤ lo) (h1 : lo ≤ 1) (v0 : 0 ≤ v) (v3 : v ≤ 3) : (sm (max v lo) ∧ max v lo ≤ 3) ∧ lo ≤ max v lo := by
  unfold sm
  omega
abbrev GRst (P : Program) (w : World) (K : PySem.W.Frag) (mg : Str → Option Value) (base : Heap) : Prop := Gd P w K mg base 2 "_law_random_stream" [] fun ds _ => aRst ds
/-! ### _law_streams -/
/-- the streams' cells -/
def Sts (M : Mem) (ps : List Addr) (N : Nat) : Prop := ∀ (j : Nat) (p : Addr), ps[j]? = some p → SD M j p N
def aSts : ASp := fun ds M R => ∃ ns : List Int, ds = [.lst (ns.map .int)] ∧ ns.length ≤ 63 ∧ ∀ (ps : List Addr) (Ds : Mem), ps ≠ [] → ps.length ≤ 6 → Ds.length = ps.length → Sts Ds ps 600 → R (.lst (ps.map .ptr)) (Ds ++ M)
theorem cut_len6 {g : List Int} : (cutI g none (some 6)).length = min 6 g.length := by
  unfold cutI
  rw [show (some (6 : Int)) = some ((6 : Nat) : Int) from rfl, HT.sIx_nat, HT.sIx_none, List.length_take]
  simp
abbrev GSts (P : Program) (w : World) (K : PySem.W.Frag) (mg : Str → Option Value) (base : Heap) : Prop := Gd P w K mg base 1 "_law_streams" [] fun ds _ => aSts ds
end
end K09

namespace Sm
/-! ### the value of a sequence of levels, as a limit -/
def ff (k : Int) (w : Nat → Int) : Nat → Int
  | 0 => 0
  | n + 1 => ff k w n * k + w n
structure Vl (k : Int) (w : Nat → Int) (x b : Int) : Prop where
  b0 : 0 < b
  bd : ∃ c : Int, ∀ n, -c ≤ x * k ^ n - b * ff k w n ∧ x * k ^ n - b * ff k w n ≤ c
theorem pow_big {k : Int} (hk : 2 ≤ k) (n : Nat) : (n : Int) < k ^ n := by
  induction n with
  | zero => simp
  | succ n ih =>
    rw [Int.pow_succ]
    have : k ^ n * 2 ≤ k ^ n * k := Int.mul_le_mul_of_nonneg_left hk (by omega)
    omega
section
variable {k : Int} {w w1 w2 : Nat → Int} {x b x' b' x1 b1 x2 b2 m : Int}
theorem Vl.uniq (hk : 2 ≤ k) (h : Vl k w x b) (h' : Vl k w x' b') : x * b' = x' * b := by
  obtain ⟨c, hc⟩ := h.bd
  obtain ⟨c', hc'⟩ := h'.bd
  have b0 := h.b0
  have b0' := h'.b0
  have key : ∀ n, -(b' * c + b * c') ≤ (x * b' - x' * b) * k ^ n ∧ (x * b' - x' * b) * k ^ n ≤ b' * c + b * c' := by
    intro n
    obtain ⟨h1, h2⟩ := hc n
    obtain ⟨h3, h4⟩ := hc' n
    have e : (x * b' - x' * b) * k ^ n = b' * (x * k ^ n - b * ff k w n) - b * (x' * k ^ n - b' * ff k w n) := by
      rw [Int.mul_sub, Int.mul_sub, Int.sub_mul]
      have e1 : b' * (b * ff k w n) = b * (b' * ff k w n) := by rw [Int.mul_left_comm]
      have e2 : x * b' * k ^ n = b' * (x * k ^ n) := by rw [Int.mul_comm x b', Int.mul_assoc]
      have e3 : x' * b * k ^ n = b * (x' * k ^ n) := by rw [Int.mul_comm x' b, Int.mul_assoc]
      rw [e1, e2, e3]
      omega
    have p1 := Int.mul_le_mul_of_nonneg_left h1 (show 0 ≤ b' by omega)
    have p2 := Int.mul_le_mul_of_nonneg_left h2 (show 0 ≤ b' by omega)
    have p3 := Int.mul_le_mul_of_nonneg_left h3 (show 0 ≤ b by omega)
    have p4 := Int.mul_le_mul_of_nonneg_left h4 (show 0 ≤ b by omega)
    rw [Int.mul_neg] at p1 p3
    rw [e]
    omega
  generalize hd : x * b' - x' * b = d at key
  have : d = 0 := by
    have hcc := (key 0)
    have c0 : 0 ≤ b' * c + b * c' := by rw [Int.pow_zero, Int.mul_one] at hcc; omega
    have hN := key ((b' * c + b * c').toNat)
    have hp := pow_big hk ((b' * c + b * c').toNat)
    rw [Int.toNat_of_nonneg c0] at hp
    rcases Int.lt_trichotomy d 0 with z | z | z
    · have : (-1) * k ^ (b' * c + b * c').toNat ≥ d * k ^ (b' * c + b * c').toNat := Int.mul_le_mul_of_nonneg_right (by omega) (by omega)
      omega
    · exact z
    · have : 1 * k ^ (b' * c + b * c').toNat ≤ d * k ^ (b' * c + b * c').toNat := Int.mul_le_mul_of_nonneg_right (by omega) (by omega)
      omega
  omega
theorem ff_add (hw : ∀ i, w i = w1 i + w2 i) : ∀ n, ff k w n = ff k w1 n + ff k w2 n
  | 0 => rfl
  | n + 1 => by
    rw [ff, ff, ff, ff_add hw n, hw, Int.add_mul]
    omega
theorem ff_mul (hw : ∀ i, w i = m * w1 i) : ∀ n, ff k w n = m * ff k w1 n
  | 0 => by simp [ff]
  | n + 1 => by
    rw [ff, ff, ff_mul hw n, hw, Int.mul_add, Int.mul_assoc]
theorem Vl.add (hw : ∀ i, w i = w1 i + w2 i) (h1 : Vl k w1 x1 b1) (h2 : Vl k w2 x2 b2) : Vl k w (x1 * b2 + x2 * b1) (b1 * b2) := by
  obtain ⟨c1, hc1⟩ := h1.bd
  obtain ⟨c2, hc2⟩ := h2.bd
  refine ⟨Int.mul_pos h1.b0 h2.b0, b2 * c1 + b1 * c2, fun n => ?_⟩
  have q1 := h1.b0
  have q2 := h2.b0
  obtain ⟨p1, p2⟩ := hc1 n
  obtain ⟨p3, p4⟩ := hc2 n
  have e : (x1 * b2 + x2 * b1) * k ^ n - b1 * b2 * ff k w n = b2 * (x1 * k ^ n - b1 * ff k w1 n) + b1 * (x2 * k ^ n - b2 * ff k w2 n) := by
    rw [ff_add hw, Int.add_mul, Int.mul_add, Int.mul_sub, Int.mul_sub]
    have e1 : x1 * b2 * k ^ n = b2 * (x1 * k ^ n) := by rw [Int.mul_comm x1 b2, Int.mul_assoc]
    have e2 : x2 * b1 * k ^ n = b1 * (x2 * k ^ n) := by rw [Int.mul_comm x2 b1, Int.mul_assoc]
    have e3 : b1 * b2 * ff k w1 n = b2 * (b1 * ff k w1 n) := by rw [Int.mul_comm b1 b2, Int.mul_assoc]
    have e4 : b1 * b2 * ff k w2 n = b1 * (b2 * ff k w2 n) := by rw [Int.mul_assoc]
    rw [e1, e2, e3, e4]
    omega
  have r1 := Int.mul_le_mul_of_nonneg_left p1 (show 0 ≤ b2 by omega)
  have r2 := Int.mul_le_mul_of_nonneg_left p2 (show 0 ≤ b2 by omega)
  have r3 := Int.mul_le_mul_of_nonneg_left p3 (show 0 ≤ b1 by omega)
  have r4 := Int.mul_le_mul_of_nonneg_left p4 (show 0 ≤ b1 by omega)
  rw [Int.mul_neg] at r1 r3
  rw [e]
  omega
theorem Vl.mul (hm : 0 ≤ m) (hw : ∀ i, w i = m * w1 i) (h1 : Vl k w1 x1 b1) : Vl k w (x1 * m) b1 := by
  obtain ⟨c1, hc1⟩ := h1.bd
  refine ⟨h1.b0, m * c1, fun n => ?_⟩
  obtain ⟨p1, p2⟩ := hc1 n
  have e : x1 * m * k ^ n - b1 * ff k w n = m * (x1 * k ^ n - b1 * ff k w1 n) := by
    rw [ff_mul hw, Int.mul_sub, Int.mul_comm x1 m, Int.mul_assoc, Int.mul_left_comm b1 m]
  have r1 := Int.mul_le_mul_of_nonneg_left p1 hm
  have r2 := Int.mul_le_mul_of_nonneg_left p2 hm
  rw [Int.mul_neg] at r1
  rw [e]
  exact ⟨r1, r2⟩
theorem ff_graft {y : Int} (h0 : w 0 = y) (hw : ∀ i, w (i + 1) = w1 i) : ∀ n, ff k w (n + 1) = y * k ^ n + ff k w1 n
  | 0 => by simp [ff, h0]
  | n + 1 => by
    rw [ff, ff_graft h0 hw n, hw, ff, Int.add_mul, Int.pow_succ, Int.mul_assoc]
    omega
theorem Vl.graft {y : Int} (hk : 2 ≤ k) (h0 : w 0 = y) (hw : ∀ i, w (i + 1) = w1 i) (h1 : Vl k w1 x1 b1) : Vl k w (x1 + y * b1) (b1 * k) := by
  obtain ⟨c1, hc1⟩ := h1.bd
  refine ⟨Int.mul_pos h1.b0 (by omega), k * c1 + (if 0 ≤ x1 + y * b1 then x1 + y * b1 else -(x1 + y * b1)), fun n => ?_⟩
  have hc0 := hc1 0
  have c0 : 0 ≤ c1 := by omega
  have hkc : 0 ≤ k * c1 := Int.mul_nonneg (by omega) c0
  cases n with
  | zero =>
    rw [ff, Int.pow_zero, Int.mul_one, Int.mul_zero, Int.sub_zero]
    split <;> omega
  | succ n =>
    obtain ⟨p1, p2⟩ := hc1 n
    have e : (x1 + y * b1) * k ^ (n + 1) - b1 * k * ff k w (n + 1) = k * (x1 * k ^ n - b1 * ff k w1 n) := by
      rw [ff_graft h0 hw, Int.add_mul, Int.mul_add, Int.mul_sub, Int.pow_succ]
      have e1 : x1 * (k ^ n * k) = k * (x1 * k ^ n) := by rw [← Int.mul_assoc, Int.mul_comm]
      have e2 : y * b1 * (k ^ n * k) = b1 * k * (y * k ^ n) := by
        rw [Int.mul_comm y b1, Int.mul_assoc, Int.mul_assoc, Int.mul_comm (k ^ n) k, ← Int.mul_assoc y k, Int.mul_comm y k, Int.mul_assoc k y]
      have e3 : b1 * k * ff k w1 n = k * (b1 * ff k w1 n) := by rw [Int.mul_comm b1 k, Int.mul_assoc]
      rw [e1, e2, e3]
      omega
    have r1 := Int.mul_le_mul_of_nonneg_left p1 (show 0 ≤ k by omega)
    have r2 := Int.mul_le_mul_of_nonneg_left p2 (show 0 ≤ k by omega)
    rw [Int.mul_neg] at r1
    rw [e]
    split <;> omega
theorem ff_congr (h : ∀ i, w i = w1 i) (n : Nat) : ff k w n = ff k w1 n := by
  have : w = w1 := funext h
  rw [this]
/-- what a stream's parts give -/
def numS (k : Int) (s : Stm) : Int := ff k (fun i => s.1.getD i 0) s.1.length * (k ^ s.2.length - 1) + ff k (fun i => s.2.getD i 0) s.2.length
def denS (k : Int) (s : Stm) : Int := k ^ s.1.length * (k ^ s.2.length - 1)
theorem ff_lt {n : Nat} (h : ∀ i, i < n → w i = w1 i) : ff k w n = ff k w1 n := by
  induction n with
  | zero => rfl
  | succ n ih => rw [ff, ff, ih fun i hi => h i (by omega), h n (by omega)]
theorem bounded (u : Nat → Int) : ∀ n, ∃ c : Int, 0 ≤ c ∧ ∀ i, i < n → -c ≤ u i ∧ u i ≤ c
  | 0 => ⟨0, by decide, fun i h => by omega⟩
  | n + 1 => by
    obtain ⟨c, c0, hc⟩ := bounded u n
    refine ⟨c + (if 0 ≤ u n then u n else -(u n)), by split <;> omega, fun i hi => ?_⟩
    rcases Nat.lt_or_ge i n with z | z
    · have := hc i z
      split <;> omega
    · rw [show i = n by omega]
      split <;> omega
theorem vl_stream {s : Stm} (hk : 2 ≤ k) (hn : s.2 ≠ []) : Vl k (item s) (numS k s) (denS k s) := by
  have hl : 0 < s.2.length := List.length_pos_iff.mpr hn
  have hP : 1 < k ^ s.2.length := by have := pow_big hk s.2.length; omega
  have hM : 0 < k ^ s.1.length := by have := pow_big hk s.1.length; omega
  generalize hu : (fun n => numS k s * k ^ n - denS k s * ff k (item s) n) = u
  have hu' : ∀ n, numS k s * k ^ n - denS k s * ff k (item s) n = u n := fun n => by rw [← hu]
  have step : ∀ n, u (n + 1) = u n * k - denS k s * item s n := fun n => by
    rw [← hu', ← hu', ff, Int.pow_succ, Int.mul_add, Int.sub_mul, ← Int.mul_assoc, ← Int.mul_assoc]
    omega
  have e1 : ff k (item s) s.1.length = ff k (fun i => s.1.getD i 0) s.1.length := ff_lt fun i hi => item_lt hi
  have um : u s.1.length = k ^ s.1.length * ff k (fun i => s.2.getD i 0) s.2.length := by
    rw [← hu', e1, numS, denS, Int.add_mul]
    generalize ff k (fun i => s.1.getD i 0) s.1.length = T
    generalize ff k (fun i => s.2.getD i 0) s.2.length = I
    generalize k ^ s.1.length = M
    generalize k ^ s.2.length - 1 = P
    have : M * P * T = T * P * M := by rw [Int.mul_comm, ← Int.mul_assoc, Int.mul_right_comm]
    rw [this, Int.mul_comm I M]
    omega
  have run : ∀ j, j ≤ s.2.length → u (s.1.length + j) = u s.1.length * k ^ j - denS k s * ff k (fun i => s.2.getD i 0) j := by
    intro j
    induction j with
    | zero =>
      intro _
      simp [ff]
    | succ j ih =>
      intro hj
      rw [← Nat.add_assoc, step, ih (by omega), item_ge (by omega), Nat.add_sub_cancel_left, lp_lt (by omega), ff, Int.pow_succ, Int.sub_mul, Int.mul_add, ← Int.mul_assoc, ← Int.mul_assoc]
      omega
  have per0 : u (s.1.length + s.2.length) = u s.1.length := by
    rw [run _ (Nat.le_refl _), um, denS]
    generalize ff k (fun i => s.2.getD i 0) s.2.length = I
    generalize k ^ s.1.length = M
    generalize k ^ s.2.length = P
    rw [Int.mul_sub, Int.mul_one, Int.sub_mul, Int.mul_right_comm M I P]
    omega
  have per : ∀ j, u (s.1.length + (j + s.2.length)) = u (s.1.length + j) := by
    intro j
    induction j with
    | zero =>
      rw [Nat.zero_add]
      exact per0
    | succ j ih =>
      have a1 : s.1.length + (j + 1 + s.2.length) = s.1.length + (j + s.2.length) + 1 := by omega
      rw [a1, step, ih, ← Nat.add_assoc s.1.length j 1, step]
      congr 2
      rw [item_ge (by omega), item_ge (by omega), show s.1.length + (j + s.2.length) - s.1.length = j + s.2.length by omega, Nat.add_sub_cancel_left, lp_add]
  obtain ⟨c, c0, hc⟩ := bounded u (s.1.length + s.2.length)
  have all : ∀ n, -c ≤ u n ∧ u n ≤ c := by
    intro n
    induction n using Nat.strongRecOn with
    | _ n ih =>
      rcases Nat.lt_or_ge n (s.1.length + s.2.length) with z | z
      · exact hc n z
      · have a1 : n = s.1.length + ((n - s.1.length - s.2.length) + s.2.length) := by omega
        rw [a1, per]
        exact ih _ (by omega)
  refine ⟨Int.mul_pos hM (by omega), c, fun n => ?_⟩
  rw [hu' n]
  exact all n
end
/-! ### lowest terms -/
theorem lowest_eq {a b c d : Nat} (hb : 0 < b) (hd : 0 < d) (h : a * d = c * b) : a / Nat.gcd a b = c / Nat.gcd c d ∧ b / Nat.gcd a b = d / Nat.gcd c d := by
  have g1 : 0 < Nat.gcd a b := Nat.gcd_pos_of_pos_right _ hb
  have g2 : 0 < Nat.gcd c d := Nat.gcd_pos_of_pos_right _ hd
  obtain ⟨p, hp⟩ := Nat.gcd_dvd_left a b
  obtain ⟨q, hq⟩ := Nat.gcd_dvd_right a b
  obtain ⟨r, hr⟩ := Nat.gcd_dvd_left c d
  obtain ⟨t, ht⟩ := Nat.gcd_dvd_right c d
  have e1 : a / Nat.gcd a b = p := by
    have := Nat.mul_div_cancel_left p g1
    rw [← hp] at this
    exact this
  have e2 : b / Nat.gcd a b = q := by
    have := Nat.mul_div_cancel_left q g1
    rw [← hq] at this
    exact this
  have e3 : c / Nat.gcd c d = r := by
    have := Nat.mul_div_cancel_left r g2
    rw [← hr] at this
    exact this
  have e4 : d / Nat.gcd c d = t := by
    have := Nat.mul_div_cancel_left t g2
    rw [← ht] at this
    exact this
  have c1 : Nat.Coprime p q := by
    have := Nat.coprime_div_gcd_div_gcd g1
    rwa [e1, e2] at this
  have c2 : Nat.Coprime r t := by
    have := Nat.coprime_div_gcd_div_gcd g2
    rwa [e3, e4] at this
  have hpt : p * t = r * q := by
    have h1 : Nat.gcd a b * Nat.gcd c d * (p * t) = Nat.gcd a b * Nat.gcd c d * (r * q) := by
      have l1 : Nat.gcd a b * Nat.gcd c d * (p * t) = (Nat.gcd a b * p) * (Nat.gcd c d * t) := Nat.mul_mul_mul_comm _ _ _ _
      have l2 : Nat.gcd a b * Nat.gcd c d * (r * q) = (Nat.gcd c d * r) * (Nat.gcd a b * q) := by rw [Nat.mul_comm (Nat.gcd a b), Nat.mul_mul_mul_comm]
      rw [l1, l2, ← hp, ← hq, ← hr, ← ht]
      exact h
    exact Nat.eq_of_mul_eq_mul_left (Nat.mul_pos g1 g2) h1
  have d1 : q ∣ t := c1.symm.dvd_of_dvd_mul_left (by rw [hpt]; exact Nat.dvd_mul_left q r)
  have d2 : t ∣ q := c2.symm.dvd_of_dvd_mul_left (by rw [← hpt]; exact Nat.dvd_mul_left t p)
  have e5 : q = t := Nat.dvd_antisymm d1 d2
  have q0 : 0 < q := by
    rcases Nat.eq_zero_or_pos q with z | z
    · rw [z, Nat.mul_zero] at hq
      omega
    · exact z
  have e6 : p = r := by
    rw [← e5] at hpt
    exact Nat.eq_of_mul_eq_mul_right q0 hpt
  rw [e1, e2, e3, e4]
  exact ⟨e6, e5⟩
end Sm

namespace K09
open PySem L2 Ab Sm
section
variable {P : Program} {w : World} {K : PySem.W.Frag} {mg : Str → Option Value} {base : Heap} {k : Nat} {f C C2 : Addr}
/-! ### check_schedule -/
def aCsc (C : Addr) : ASp := fun ds M R => ∃ S : Sc, ds = [scV C S] ∧ R .non M
abbrev GCsc (P : Program) (w : World) (K : PySem.W.Frag) (mg : Str → Option Value) (base : Heap) (C : Addr) : Prop := Gd P w K mg base 1 "check_schedule" [] fun ds _ => aCsc C ds
/-! ### reduced -/
def lowV (a b : Nat) : Val := .tup [.int ((a / Nat.gcd a b : Nat) : Int), .int ((b / Nat.gcd a b : Nat) : Int)]
def aRed : ASp := fun ds M R => ∃ a b : Nat, ds = [.int (a : Int), .int (b : Int)] ∧ 0 < b ∧ a < 2 ^ 1900 ∧ b < 2 ^ 1900 ∧ R (lowV a b) M
theorem div1900 {x : Int} {b : Nat} (h0 : 0 < b) (h : b < 2 ^ 1900) : CDivU x (b : Int) := cdw (by omega) (Nat.lt_of_lt_of_le (show ((b : Int)).natAbs < 2 ^ 1900 from h) (Nat.pow_le_pow_right (by decide) (by decide)))
abbrev GRed (P : Program) (w : World) (K : PySem.W.Frag) (mg : Str → Option Value) (base : Heap) : Prop := Gd P w K mg base 1 "reduced" [] fun ds _ => aRed ds
/-! ### mean_gap -/
theorem ff_nn {k : Int} {w : Nat → Int} (hk : 0 ≤ k) (hw : ∀ i, 0 ≤ w i) : ∀ n, 0 ≤ ff k w n
  | 0 => Int.le_refl _
  | n + 1 => by
    have h1 := ff_nn hk hw n
    have h2 := hw n
    have h3 := Int.mul_nonneg h1 hk
    rw [ff]
    omega
theorem ff_le {k : Int} {w : Nat → Int} (hk : 2 ≤ k) (hk9 : k ≤ 9) (hw : ∀ i, 0 ≤ w i ∧ w i ≤ 1000000) : ∀ n, ff k w n ≤ 1000000 * 10 ^ n
  | 0 => by simp [ff]
  | n + 1 => by
    have h1 := ff_le hk hk9 hw n
    have h0 := ff_nn (k := k) (by omega) (fun i => (hw i).1) n
    have h2 := (hw n).2
    have h3 : ff k w n * k ≤ ff k w n * 9 := Int.mul_le_mul_of_nonneg_left hk9 h0
    have h4 : (1 : Int) ≤ 10 ^ n := by have := pow_big (k := 10) (by decide) n; omega
    rw [ff, Int.pow_succ]
    omega
theorem num_nn {k : Int} {s : Stm} (hk : 2 ≤ k) (h1 : ∀ v ∈ s.1, okI v) (h2 : ∀ v ∈ s.2, okI v) : 0 ≤ numS k s := by
  have hP : 1 ≤ k ^ s.2.length := by have := pow_big hk s.2.length; omega
  have a1 := ff_nn (k := k) (w := fun i => s.1.getD i 0) (by omega) (fun i => by
    rw [List.getD_eq_getElem?_getD]
    cases e : s.1[i]? with
    | none => exact Int.le_refl _
    | some v => exact (h1 v (List.mem_of_getElem? e)).1) s.1.length
  have a2 := ff_nn (k := k) (w := fun i => s.2.getD i 0) (by omega) (fun i => by
    rw [List.getD_eq_getElem?_getD]
    cases e : s.2[i]? with
    | none => exact Int.le_refl _
    | some v => exact (h2 v (List.mem_of_getElem? e)).1) s.2.length
  have := Int.mul_nonneg a1 (show 0 ≤ k ^ s.2.length - 1 by omega)
  unfold numS
  omega
/-- the value that mean_gap gives, in lowest terms -/
def gapV (k : Int) (s : Stm) : Val := lowV (numS k s * k).toNat (denS k s).toNat
theorem gd_ok {l : List Int} (h : ∀ v ∈ l, okI v) (i : Nat) : 0 ≤ l.getD i 0 ∧ l.getD i 0 ≤ 1000000 := by
  rw [List.getD_eq_getElem?_getD]
  cases e : l[i]? with
  | none => exact ⟨Int.le_refl _, by decide⟩
  | some v => exact h v (List.mem_of_getElem? e)
theorem pow_top {k : Int} (hk : 2 ≤ k) (hk9 : k ≤ 9) {n : Nat} (hn : n ≤ 20) : 1 ≤ k ^ n ∧ k ^ n ≤ 10 ^ 20 := by
  have h1 := pow_big hk n
  refine ⟨by omega, ?_⟩
  have : ∀ n, k ^ n ≤ 10 ^ n := fun n => by
    induction n with
    | zero => simp
    | succ n ih =>
      have h0 := pow_big hk n
      rw [Int.pow_succ, Int.pow_succ]
      have h2 : k ^ n * k ≤ k ^ n * 10 := Int.mul_le_mul_of_nonneg_left (by omega) (by omega)
      omega
  have h3 := this n
  have h4 : (10 : Int) ^ n ≤ 10 ^ 20 := by
    have := Nat.pow_le_pow_right (n := 10) (by decide) hn
    have e : ∀ m : Nat, (10 : Int) ^ m = ((10 ^ m : Nat) : Int) := fun m => by rw [Int.natCast_pow]; rfl
    rw [e, e]
    omega
  omega
theorem num_top {k : Int} {s : Stm} (hk : 2 ≤ k) (hk9 : k ≤ 9) (h : Lim s) : numS k s * k ≤ 10 ^ 80 ∧ denS k s ≤ 10 ^ 80 ∧ 0 < denS k s := by
  have p1 := pow_top hk hk9 (n := s.1.length) (by have := h.l1; omega)
  have p2 := pow_top hk hk9 (n := s.2.length) (by have := h.l2; omega)
  have hP : 2 ≤ k ^ s.2.length := by
    have hl : 0 < s.2.length := List.length_pos_iff.mpr h.ne
    have := pow_big hk s.2.length
    omega
  have t1 := ff_le (k := k) (w := fun i => s.1.getD i 0) hk hk9 (gd_ok h.a1) s.1.length
  have t2 := ff_le (k := k) (w := fun i => s.2.getD i 0) hk hk9 (gd_ok h.a2) s.2.length
  have t3 := ff_nn (k := k) (w := fun i => s.1.getD i 0) (by omega) (fun i => (gd_ok h.a1 i).1) s.1.length
  have t4 := ff_nn (k := k) (w := fun i => s.2.getD i 0) (by omega) (fun i => (gd_ok h.a2 i).1) s.2.length
  have q1 := pow_top (k := 9) (by decide) (by decide) (n := 20) (by decide)
  have e20 : ∀ n, n ≤ 20 → (10 : Int) ^ n ≤ 10 ^ 20 := fun n hn => by
    have := Nat.pow_le_pow_right (n := 10) (by decide) hn
    have e : ∀ m : Nat, (10 : Int) ^ m = ((10 ^ m : Nat) : Int) := fun m => by rw [Int.natCast_pow]; rfl
    rw [e, e]
    omega
  have u1 := e20 s.1.length (by have := h.l1; omega)
  have u2 := e20 s.2.length (by have := h.l2; omega)
  have f20 : (10 : Int) ^ 20 = 100000000000000000000 := by decide
  have f80 : (10 : Int) ^ 80 = 100000000000000000000000000000000000000000000000000000000000000000000000000000000 := by decide
  rw [f20] at u1 u2 p1 p2
  rw [f80]
  unfold numS denS
  generalize ff k (fun i => s.1.getD i 0) s.1.length = T at *
  generalize ff k (fun i => s.2.getD i 0) s.2.length = I at *
  have v1 : T * (k ^ s.2.length - 1) ≤ 100000000000000000000000000 * 100000000000000000000 := Int.mul_le_mul (by omega) (by omega) (by omega) (by decide)
  have v2 : (T * (k ^ s.2.length - 1) + I) * k ≤ (100000000000000000000000000 * 100000000000000000000 + 100000000000000000000000000) * 9 := Int.mul_le_mul (by omega) hk9 (by omega) (by decide)
  have v3 : k ^ s.1.length * (k ^ s.2.length - 1) ≤ 100000000000000000000 * 100000000000000000000 := Int.mul_le_mul p1.2 (by omega) (by omega) (by decide)
  have v4 : 0 < k ^ s.1.length * (k ^ s.2.length - 1) := Int.mul_pos (by omega) (by omega)
  omega
def aMg (C : Addr) : ASp := fun ds M R => ∃ S : Sc, ds = [scV C S] ∧ GoodS S ∧ R (gapV S.a S.lv) M
/-- mean_gap(e), mean_gap(schedule=e) -/
abbrev GMg (P : Program) (w : World) (K : PySem.W.Frag) (mg : Str → Option Value) (base : Heap) (C : Addr) : Prop := Gd P w K mg base 3 "mean_gap" [] fun ds _ => aMg C ds
abbrev GMgK (P : Program) (w : World) (K : PySem.W.Frag) (mg : Str → Option Value) (base : Heap) (C : Addr) : Prop := Gd P w K mg base 3 "mean_gap" ["schedule"] fun ds es M R => ds.length = 0 ∧ aMg C (ds ++ es) M R
end
end K09

/-! the mean gap as a fraction; blocks of leaves -/
namespace Sm
/-- a / b is k times the value of the levels w -/
structure Gq (k : Int) (w : Nat → Int) (a b : Nat) : Prop where
  b0 : 0 < b
  ex : ∃ x y, Vl k w x y ∧ 0 ≤ x ∧ (a : Int) * y = x * k * b
variable {k : Int} {w w1 w2 : Nat → Int} {a b a' b' a1 b1 a2 b2 : Nat} {x y : Int}
theorem Gq.of (hk : 2 ≤ k) (h : Vl k w x y) (h0 : 0 ≤ x) : Gq k w (x * k).toNat y.toNat := by
  have y0 := h.b0
  have xk : 0 ≤ x * k := Int.mul_nonneg h0 (by omega)
  exact ⟨by omega, x, y, h, h0, by rw [Int.toNat_of_nonneg xk, Int.toNat_of_nonneg (by omega)]⟩
theorem mul_cancel {p q r : Int} (hr : 0 < r) (h : p * r = q * r) : p = q := Int.eq_of_mul_eq_mul_right (by omega) h
theorem Gq.uniq (hk : 2 ≤ k) (h : Gq k w a b) (h' : Gq k w a' b') : a * b' = a' * b := by
  obtain ⟨b0, x, y, v, x0, e⟩ := h
  obtain ⟨b0', x', y', v', x0', e'⟩ := h'
  have u := v.uniq hk v'
  have y0 := v.b0
  have y0' := v'.b0
  have e1 : ((a : Int) * b') * (y * y') = ((a' : Int) * b) * (y * y') := by
    calc ((a : Int) * b') * (y * y') = (a * y) * (b' * y') := by ac_rfl
      _ = (x * k * b) * (b' * y') := by rw [e]
      _ = (x * y') * (k * b * b') := by ac_rfl
      _ = (x' * y) * (k * b * b') := by rw [u]
      _ = (x' * k * b') * (b * y) := by ac_rfl
      _ = (a' * y') * (b * y) := by rw [e']
      _ = ((a' : Int) * b) * (y * y') := by ac_rfl
  have := mul_cancel (Int.mul_pos y0 y0') e1
  exact Int.ofNat_inj.mp (by rw [Int.natCast_mul, Int.natCast_mul]; exact this)
theorem Gq.low (hk : 2 ≤ k) (h : Gq k w a b) (h' : Gq k w a' b') : a / Nat.gcd a b = a' / Nat.gcd a' b' ∧ b / Nat.gcd a b = b' / Nat.gcd a' b' := lowest_eq h.b0 h'.b0 (h.uniq hk h')
theorem Gq.red (h : Gq k w a b) : Gq k w (a / Nat.gcd a b) (b / Nat.gcd a b) := by
  obtain ⟨b0, x, y, v, x0, e⟩ := h
  have g0 : 0 < Nat.gcd a b := Nat.gcd_pos_of_pos_right _ b0
  refine ⟨Nat.div_pos (Nat.gcd_le_right a b0) g0, x, y, v, x0, ?_⟩
  have ea : ((a / Nat.gcd a b : Nat) : Int) * (Nat.gcd a b : Nat) = a := by rw [← Int.natCast_mul, Nat.div_mul_cancel (Nat.gcd_dvd_left a b)]
  have eb : ((b / Nat.gcd a b : Nat) : Int) * (Nat.gcd a b : Nat) = b := by rw [← Int.natCast_mul, Nat.div_mul_cancel (Nat.gcd_dvd_right a b)]
  refine mul_cancel (r := ((Nat.gcd a b : Nat) : Int)) (by omega) ?_
  calc ((a / Nat.gcd a b : Nat) : Int) * y * (Nat.gcd a b : Nat) = (((a / Nat.gcd a b : Nat) : Int) * (Nat.gcd a b : Nat)) * y := by ac_rfl
    _ = x * k * b := by rw [ea, e]
    _ = x * k * (((b / Nat.gcd a b : Nat) : Int) * (Nat.gcd a b : Nat)) := by rw [eb]
    _ = _ := by ac_rfl
theorem Gq.add (hw : ∀ i, w i = w1 i + w2 i) (h1 : Gq k w1 a1 b1) (h2 : Gq k w2 a2 b2) : Gq k w (a1 * b2 + a2 * b1) (b1 * b2) := by
  obtain ⟨b0, x, y, v, x0, e⟩ := h1
  obtain ⟨b0', x', y', v', x0', e'⟩ := h2
  refine ⟨Nat.mul_pos b0 b0', _, _, v.add hw v', ?_, ?_⟩
  · have p := Int.mul_nonneg x0 (Int.le_of_lt v'.b0)
    have q := Int.mul_nonneg x0' (Int.le_of_lt v.b0)
    omega
  · rw [Int.natCast_add, Int.natCast_mul, Int.natCast_mul, Int.natCast_mul]
    have p1 : (a1 : Int) * b2 * (y * y') = (x * k * b1) * (b2 * y') := by
      calc (a1 : Int) * b2 * (y * y') = (a1 * y) * (b2 * y') := by ac_rfl
        _ = _ := by rw [e]
    have p2 : (a2 : Int) * b1 * (y * y') = (x' * k * b2) * (b1 * y) := by
      calc (a2 : Int) * b1 * (y * y') = (a2 * y') * (b1 * y) := by ac_rfl
        _ = _ := by rw [e']
    rw [Int.add_mul, p1, p2, Int.add_mul, Int.add_mul]
    have q1 : x * k * b1 * (b2 * y') = x * y' * k * (b1 * b2) := by ac_rfl
    have q2 : x' * k * b2 * (b1 * y) = x' * y * k * (b1 * b2) := by ac_rfl
    rw [q1, q2]
theorem Gq.mul {m : Nat} (hw : ∀ i, w i = (m : Int) * w1 i) (h : Gq k w1 a b) : Gq k w (a * m) b := by
  obtain ⟨b0, x, y, v, x0, e⟩ := h
  refine ⟨b0, _, _, v.mul (by omega) hw, Int.mul_nonneg x0 (by omega), ?_⟩
  rw [Int.natCast_mul]
  calc (a : Int) * m * y = (a * y) * m := by ac_rfl
    _ = x * k * b * m := by rw [e]
    _ = x * m * k * b := by ac_rfl
theorem Gq.graft {l kn : Nat} (hkn : k = (kn : Int)) (hk : 2 ≤ k) (h0 : w 0 = (l : Int)) (hw : ∀ i, w (i + 1) = w1 i) (h : Gq k w1 a b) : Gq k w (a + l * kn * b) (b * kn) := by
  obtain ⟨b0, x, y, v, x0, e⟩ := h
  refine ⟨Nat.mul_pos b0 (by omega), _, _, v.graft hk h0 hw, ?_, ?_⟩
  · have := Int.mul_nonneg (show (0 : Int) ≤ l by omega) (Int.le_of_lt v.b0)
    omega
  · rw [Int.natCast_add, Int.natCast_mul, Int.natCast_mul, Int.natCast_mul, ← hkn]
    calc ((a : Int) + l * k * b) * (y * k) = (a * y) * k + (l * y) * k * (b * k) := by rw [Int.add_mul]; congr 1 <;> ac_rfl
      _ = x * k * b * k + (l * y) * k * (b * k) := by rw [e]
      _ = (x + l * y) * k * (b * k) := by rw [Int.add_mul, Int.add_mul]; congr 1; ac_rfl
theorem Gq.congr (hw : ∀ i, w i = w1 i) (h : Gq k w1 a b) : Gq k w a b := by
  have : w = w1 := funext hw
  rwa [this]
/-! ### the place of a leaf, by counting and by the sum -/
theorem pl0_place {k : Nat} {s l : Nat → Int} {b : Nat} (hk : 2 ≤ k) : pl k s l 0 b = place k s l b := by
  rcases Nat.eq_zero_or_pos b with h | h
  · subst h
    rw [pl_zero, place_zero]
    simp [fp]
  · rw [pl_form h (lt_pow hk b) (Nat.lt_trans (lt_pow hk b) (Nat.pow_lt_pow_right (by omega) (Nat.lt_succ_self b))) hk]
    unfold place plT
    rw [smN_add, show ed k s l 0 = s 0 from rfl, show siz k l 0 = l 0 from rfl]
    have e1 : smN (fun j => if k ^ j ≤ b then s (0 + 1 + j) else 0) b = smN (fun j => if k ^ j ≤ b then s (j + 1) else 0) b := smN_congr fun j _ => by rw [show 0 + 1 + j = j + 1 by omega]
    have e2 : smN (fun j => ((b / k ^ (j + 1) : Nat) : Int) * l (0 + (j + 1))) b = smN (fun j => l (j + 1) * ((b / k ^ (j + 1) : Nat) : Int)) b := smN_congr fun j _ => by rw [Int.mul_comm, Nat.zero_add]
    rw [e1, e2, Int.sub_mul]
    omega
theorem smN_sub {f g : Nat → Int} {n : Nat} : smN (fun j => f j - g j) n = smN f n - smN g n := by
  induction n with
  | zero => rfl
  | succ n ih => rw [smN, smN, smN, ih]; omega
theorem smN_split {f : Nat → Int} {n : Nat} : ∀ m, smN f (n + m) = smN f n + smN (fun j => f (n + j)) m
  | 0 => by simp [smN]
  | m + 1 => by
    show smN f (n + m) + f (n + m) = _
    rw [smN_split m, smN]
    omega
/-- the levels up to a height, weighed -/
theorem block_low {k : Nat} (hk : 2 ≤ k) {l : Nat → Int} {b c : Nat} : ∀ H, smN (fun h => l h * (((b + c * k ^ H) / k ^ h : Nat) : Int)) (H + 1) - smN (fun h => l h * ((b / k ^ h : Nat) : Int)) (H + 1) = ff k l (H + 1) * c := by
  intro H
  rw [← smN_sub]
  have : ∀ n, n ≤ H + 1 → smN (fun j => l j * (((b + c * k ^ H) / k ^ j : Nat) : Int) - l j * ((b / k ^ j : Nat) : Int)) n = ff k l n * (c * (k ^ (H + 1 - n) : Nat)) := by
    intro n hn
    induction n with
    | zero => simp [smN, ff]
    | succ n ih =>
      rw [smN, ih (by omega), ff]
      have e1 : (b + c * k ^ H) / k ^ n = b / k ^ n + c * k ^ (H - n) := by
        have : k ^ H = k ^ (H - n) * k ^ n := by rw [← Nat.pow_add]; congr 1; omega
        rw [this, ← Nat.mul_assoc, Nat.add_mul_div_right _ _ (Nat.pow_pos (by omega))]
      have e2 : k ^ (H + 1 - n) = k * k ^ (H - n) := by rw [show H + 1 - n = (H - n) + 1 by omega, Nat.pow_succ, Nat.mul_comm]
      rw [e1, e2, show H + 1 - (n + 1) = H - n by omega, Int.natCast_add, Int.natCast_mul k, Int.natCast_mul c]
      generalize ((k ^ (H - n) : Nat) : Int) = q
      rw [Int.mul_add, Int.add_mul]
      have : ff k l n * (↑c * (↑k * q)) = ff k l n * ↑k * (↑c * q) := by ac_rfl
      omega
  have h := this (H + 1) (Nat.le_refl _)
  rw [Nat.sub_self, Nat.pow_zero] at h
  rw [h]
  simp
theorem place_two {k : Nat} {s l : Nat → Int} {b N : Nat} (hk : 2 ≤ k) (hN : b < k ^ N) : place k s l b = s 0 + smN (fun h => if k ^ h ≤ b then s (h + 1) else 0) N + smN (fun h => l h * ((b / k ^ h : Nat) : Int)) (N + 1) := by
  rw [place_N hk hN]
  unfold plT
  rw [smN_add, smN_head (f := fun h => l h * ((b / k ^ h : Nat) : Int)), Nat.pow_zero, Nat.div_one, Int.mul_comm (b : Int)]
  omega
/-- the gaps of a block of c * k ^ H leaves behind b leaves -/
theorem block {k : Nat} {s l : Nat → Int} {b c H T U : Nat} (hk : 2 ≤ k) (hT : b + c * k ^ H < k ^ (H + 1 + T)) (hU : b + c * k ^ H < k ^ U) :
    place k s l (b + c * k ^ H) - place k s l b = ff k l (H + 1) * c + smN (fun j => l (H + 1 + j) * ((((b + c * k ^ H) / k ^ (H + 1 + j) : Nat) : Int) - ((b / k ^ (H + 1 + j) : Nat) : Int))) T + smN (fun j => if b < k ^ j ∧ k ^ j ≤ b + c * k ^ H then s (j + 1) else 0) U := by
  have key : ∀ N, H + 1 + T ≤ N → U ≤ N → place k s l (b + c * k ^ H) - place k s l b = ff k l (H + 1) * c + smN (fun j => l (H + 1 + j) * ((((b + c * k ^ H) / k ^ (H + 1 + j) : Nat) : Int) - ((b / k ^ (H + 1 + j) : Nat) : Int))) (N - H) + smN (fun j => if b < k ^ j ∧ k ^ j ≤ b + c * k ^ H then s (j + 1) else 0) N := by
    intro N h1 h2
    have hN : b + c * k ^ H < k ^ N := Nat.lt_of_lt_of_le hU (Nat.pow_le_pow_right (by omega) h2)
    rw [place_two hk hN, place_two hk (N := N) (b := b) (by omega)]
    have e0 : N + 1 = (H + 1) + (N - H) := by omega
    rw [e0, smN_split (f := fun h => l h * (((b + c * k ^ H) / k ^ h : Nat) : Int)), smN_split (f := fun h => l h * ((b / k ^ h : Nat) : Int))]
    have e1 := block_low hk (l := l) (b := b) (c := c) H
    have e2 : smN (fun j => l (H + 1 + j) * ((((b + c * k ^ H) / k ^ (H + 1 + j) : Nat) : Int) - ((b / k ^ (H + 1 + j) : Nat) : Int))) (N - H) = smN (fun j => l (H + 1 + j) * (((b + c * k ^ H) / k ^ (H + 1 + j) : Nat) : Int)) (N - H) - smN (fun j => l (H + 1 + j) * ((b / k ^ (H + 1 + j) : Nat) : Int)) (N - H) := by
      rw [← smN_sub]
      exact smN_congr fun j _ => by rw [Int.mul_sub]
    have e3 : smN (fun j => if b < k ^ j ∧ k ^ j ≤ b + c * k ^ H then s (j + 1) else 0) N = smN (fun h => if k ^ h ≤ b + c * k ^ H then s (h + 1) else 0) N - smN (fun h => if k ^ h ≤ b then s (h + 1) else 0) N := by
      rw [← smN_sub]
      refine smN_congr fun j _ => ?_
      by_cases q1 : k ^ j ≤ b
      · rw [if_neg (by omega), if_pos (by omega), if_pos q1]
        omega
      · by_cases q2 : k ^ j ≤ b + c * k ^ H
        · rw [if_pos ⟨by omega, q2⟩, if_pos q2, if_neg q1]
          omega
        · rw [if_neg (by omega), if_neg q2, if_neg q1]
          omega
    omega
  have h := key (H + 1 + T + U) (by omega) (by omega)
  rw [h]
  congr 1
  · congr 1
    refine smN_ext (by omega) fun j hj => ?_
    have h1 : b + c * k ^ H < k ^ (H + 1 + j) := Nat.lt_of_lt_of_le hT (Nat.pow_le_pow_right (by omega) (by omega))
    rw [Nat.div_eq_of_lt h1, Nat.div_eq_of_lt (by omega)]
    simp
  · refine smN_ext (by omega) fun j hj => ?_
    have h1 : b + c * k ^ H < k ^ j := Nat.lt_of_lt_of_le hU (Nat.pow_le_pow_right (by omega) hj)
    rw [if_neg (by omega)]
end Sm

namespace K09
open PySem L2 Ab Sm
/-! ### the draws of stage 4: a dict in a box -/
def d4 (x y t : Int) : List (Key × Val) := [(.inr "left", .int x), (.inr "folded", .int y), (.inr "step", .int t)]
def st4 (p : Addr) (N : Nat) : Cell := .box fun B => ∃ x y t : Int, B = [(p, .dk (d4 x y t))] ∧ 0 ≤ t ∧ t ≤ N
section
variable {P : Program} {w : World} {K : PySem.W.Frag} {mg : Str → Option Value} {base : Heap} {k : Nat} {f C C2 : Addr}
def aBeg4 : ASp := fun ds M R => ∃ (ns : List Int) (t : Nat), ds = [.lst (ns.map .int), .int (t : Int)] ∧ t < 1000 ∧ ns.length ≤ 63 ∧ ∀ p, R (.ptr p) ((p, st4 p 0) :: M)
abbrev GBeg4 (P : Program) (w : World) (K : PySem.W.Frag) (mg : Str → Option Value) (base : Heap) : Prop := Gd P w K mg base 1 "_law_begin" [] fun ds _ => aBeg4 ds
def aDr4 : ASp := fun ds M R => ∃ (p : Addr) (i N : Nat) (n : Int), ds = [.ptr p, .int n] ∧ M[i]? = some (p, st4 p N) ∧ N ≤ 1000000 ∧ 0 < n ∧ n ≤ 1000000000 ∧ ∀ v, 0 ≤ v → v < n → R (.int v) (M.set i (p, st4 p (N + 1)))
abbrev GDr4 (P : Program) (w : World) (K : PySem.W.Frag) (mg : Str → Option Value) (base : Heap) : Prop := Gd P w K mg base 1 "_law_draw" [] fun ds _ => aDr4 ds
def aPick4 : ASp := fun ds M R => ∃ (p : Addr) (i N : Nat) (xs : List Int), ds = [.ptr p, .lst (xs.map .int)] ∧ M[i]? = some (p, st4 p N) ∧ N ≤ 1000000 ∧ 0 < xs.length ∧ xs.length ≤ 1000 ∧ ∀ v, v ∈ xs → R (.int v) (M.set i (p, st4 p (N + 1)))
abbrev GPick4 (P : Program) (w : World) (K : PySem.W.Frag) (mg : Str → Option Value) (base : Heap) : Prop := Gd P w K mg base 2 "_law_pick" [] fun ds _ => aPick4 ds
def sm4 (v : Int) : Prop := 0 ≤ v ∧ v ≤ 29
def aItm4 : ASp := fun ds M R => ∃ (p : Addr) (i N n : Nat), ds = [.ptr p, .int (n : Int)] ∧ M[i]? = some (p, st4 p N) ∧ N ≤ 900000 ∧ n ≤ 100 ∧ ∀ xs : List Int, xs.length = n → (∀ v ∈ xs, sm4 v) → R (iT xs) (M.set i (p, st4 p (N + 2 + n)))
abbrev GItm4 (P : Program) (w : World) (K : PySem.W.Frag) (mg : Str → Option Value) (base : Heap) : Prop := Gd P w K mg base 3 "_law_items" [] fun ds _ => aItm4 ds
/-- a small stream of draws -/
structure Sg4 (s : Stm) : Prop where
  l1 : s.1.length ≤ 4
  l2 : s.2.length ≤ 3
  ne : s.2 ≠ []
  a1 : ∀ v ∈ s.1, sm4 v
  a2 : ∀ v ∈ s.2, sm4 v
theorem Sg4.lim {s : Stm} (h : Sg4 s) : Lim s := ⟨by have := h.l1; omega, by have := h.l2; omega, h.ne, fun v hv => ⟨(h.a1 v hv).1, by have := (h.a1 v hv).2; omega⟩, fun v hv => ⟨(h.a2 v hv).1, by have := (h.a2 v hv).2; omega⟩⟩
theorem Sg4.item {s : Stm} (h : Sg4 s) (i : Nat) : sm4 (item s i) := by
  rcases item_mem h.ne i with z | z
  · exact h.a1 _ z
  · exact h.a2 _ z
def aPar4 : ASp := fun ds M R => ∃ (p : Addr) (i N : Nat), ds = [.ptr p] ∧ M[i]? = some (p, st4 p N) ∧ N ≤ 800000 ∧ ∀ (a : Int) (s l : Stm) (N' : Nat), 2 ≤ a → a ≤ 9 → Sg4 s → Sg4 l → 1 ≤ item l 0 → item l 0 ≤ 3 → N ≤ N' → N' ≤ N + 40 → R (.tup [.int a, stV s, stV l]) (M.set i (p, st4 p N'))
abbrev GPar4 (P : Program) (w : World) (K : PySem.W.Frag) (mg : Str → Option Value) (base : Heap) : Prop := Gd P w K mg base 4 "_law_parts" [] fun ds _ => aPar4 ds
/-! ### _law_item -/
theorem b__law_item (B : Bt mg) : BodyOk P w K mg base k f n__law_item "_law_item" (defScope s__law_item) (defBody s__law_item) aItem := by
  rintro cdv A outer s0 H E hr ds M R ⟨s, i, rfl, hn, h0, hp⟩
  have hl : 0 < s.2.length := List.length_pos_iff.mpr hn
  refine as_cons (as_asg (aE.val (v_ 0) (ag_tup rfl (ags_cons (ag_name 2 q__law_item.nd (ags_cons (ag_name 3 q__law_item.nd (ags_nil ?_))))))))
  have m0 := Int.emod_nonneg (i - s.1.length) (show (s.2.length : Int) ≠ 0 by omega)
  have m1 := Int.emod_lt_of_pos (i - s.1.length) (show (0 : Int) < s.2.length by omega)
  refine as_one (as_ret (ae_ifp (tp_cmp (v_ 1) (av_lenN B.len (v_ 2) (by first | exact .iT _ | exact .iL _ | exact .mT _ _ | exact .mL _ _ | exact .cm 0 rfl | exact .cm 1 rfl | exact .cm 2 rfl | exact .c 0 rfl | exact .c 1 rfl | exact .t _ | exact .l _ | exact .cm _ (by assumption))) cp_lt) (fun c => aE.val (av_ix (v_ 2) (v_ 1) (by first | exact .iT (by omega) (by omega) | exact .iL (by omega) (by omega) | exact .ci 0 rfl (by omega) (by omega) | exact .ci 1 rfl (by omega) (by omega) | exact .t rfl | exact .l rfl | exact .c 0 rfl rfl | exact .c 1 rfl rfl | assumption | exact .ci _ (by assumption) (by omega) (by omega))) (.ok ?_)) (fun c => aE.val (av_ix (v_ 3) (av_mod (av_sub (v_ 1) (av_lenN B.len (v_ 2) (by first | exact .iT _ | exact .iL _ | exact .mT _ _ | exact .mL _ _ | exact .cm 0 rfl | exact .cm 1 rfl | exact .cm 2 rfl | exact .c 0 rfl | exact .c 1 rfl | exact .t _ | exact .l _ | exact .cm _ (by assumption)))) (av_lenN B.len (v_ 3) (by first | exact .iT _ | exact .iL _ | exact .mT _ _ | exact .mL _ _ | exact .cm 0 rfl | exact .cm 1 rfl | exact .cm 2 rfl | exact .c 0 rfl | exact .c 1 rfl | exact .t _ | exact .l _ | exact .cm _ (by assumption))) (by first | omega | assumption)) (by first | exact .iT (by omega) (by omega) | exact .iL (by omega) (by omega) | exact .ci 0 rfl (by omega) (by omega) | exact .ci 1 rfl (by omega) (by omega) | exact .t rfl | exact .l rfl | exact .c 0 rfl rfl | exact .c 1 rfl rfl | assumption | exact .ci _ (by assumption) (by omega) (by omega))) (.ok ?_))))
  · have e : item s i.toNat = at0 s.1 i := by rw [item_lt (by omega)]; rfl
    rw [← e]
    exact hp
  · rw [← item_lp hn h0 c]
    exact hp
abbrev GItL (P : Program) (w : World) (K : PySem.W.Frag) (mg : Str → Option Value) (base : Heap) : Prop := Gd P w K mg base 1 "_law_item" [] fun ds _ => aItem ds
end
end K09

namespace K09
open PySem L2 Ab Sm
section
variable {P : Program} {w : World} {K : PySem.W.Frag} {mg : Str → Option Value} {base : Heap} {k : Nat} {f C C2 : Addr}
/-! ### _law_lowest -/
abbrev GLow (P : Program) (w : World) (K : PySem.W.Frag) (mg : Str → Option Value) (base : Heap) : Prop := Gd P w K mg base 1 "_law_lowest" [] fun ds _ => aRed ds
/-! ### check_integer with both limits, grafted -/
def aChk3 : ASp := fun ds M R => ∃ n lo hi, ds = [.int n, .int lo, .int hi] ∧ lo ≤ n ∧ n ≤ hi ∧ R .non M
theorem b_check_integer3 (G : GInt P w K mg base) : BodyOk P w K mg base 1 f n_check_integer "check_integer" (defScope s_check_integer) (defBody s_check_integer) aChk3 := by
  rintro cdv A outer s H E hr ds M R ⟨n, lo, hi, rfl, hle, hhi, hp⟩
  refine as_one (as_if (at_not (at_val (ae_g G hr (by decide) (aa_cons ((v_ 0).val (aa_nil (ak_cons ((v_ 1).val (ak_cons ((v_ 2).val (ak_nil ⟨rfl, rfl, n, some lo, some hi, rfl, true, ?_, nft, fun _ => as_nil (.ok hp)⟩))))))))))))
  have e : within n (some lo) (some hi) = true := by simp [within]; exact ⟨hle, hhi⟩
  rw [e]
abbrev GChk3 (P : Program) (w : World) (K : PySem.W.Frag) (mg : Str → Option Value) (base : Heap) : Prop := Gd P w K mg base 2 "check_integer" [] fun ds _ => aChk3 ds
theorem graft_lim {s : Stm} {v : Int} (h : Lim s) (hl : s.1.length ≤ 11) (hv : okI v) : Lim (nf (v :: s.1, s.2)) := lim_nf h.ne (by show s.1.length + 1 ≤ 12; omega) h.l2 (fun u hu => by
  rcases List.mem_cons.mp hu with z | z
  · rw [z]
    exact hv
  · exact h.a1 u z) h.a2
theorem item_cons0 {s : Stm} {v : Int} : item (v :: s.1, s.2) 0 = v := by
  rw [item_lt (by show 0 < s.1.length + 1; omega)]
  rfl
theorem item_cons {s : Stm} {v : Int} (i : Nat) : item (v :: s.1, s.2) (i + 1) = item s i := by
  unfold item
  by_cases h : i < s.1.length
  · rw [if_pos (by show i + 1 < s.1.length + 1; omega), if_pos h]
    rfl
  · rw [if_neg (by show ¬ i + 1 < s.1.length + 1; omega), if_neg h]
    show lp s.2 (i + 1 - (s.1.length + 1)) = _
    congr 1
    omega
def aGra (C : Addr) : ASp := fun ds M R => ∃ (S : Sc) (x y : Int), ds = [scV C S, .int x, .int y] ∧ GoodS S ∧ okI x ∧ 1 ≤ y ∧ y ≤ 1000000 ∧ S.sp.1.length ≤ 11 ∧ S.lv.1.length ≤ 11 ∧
  ∀ S' : Sc, GoodS S' → S'.a = S.a → item S'.sp 0 = x → (∀ i, item S'.sp (i + 1) = item S.sp i) → item S'.lv 0 = y → (∀ i, item S'.lv (i + 1) = item S.lv i) → R (scV C S') M
/-! ### Schedule(a), Schedule(a, levels=l), Schedule(a, spine=s) -/
def dSp : Stm := ([1], [0])
def dLv : Stm := ([], [1])
structure MkD (P : Program) (w : World) (K : PySem.W.Frag) (mg : Str → Option Value) (base : Heap) (C : Addr) : Prop where
  ex : ∃ fi, Mk K C fi ∧ FnX P w K mg base 4 fi [] (spX K fun ds _ M R => ds.length = 2 ∧ aInitS C (ds ++ [stV dSp, stV dLv]) M R) ∧
    FnX P w K mg base 4 fi ["levels"] (spX K fun ds es M R => ds.length = 2 ∧ aInitS C (ds ++ [stV dSp] ++ es) M R) ∧ FnX P w K mg base 4 fi ["spine"] (spX K fun ds es M R => ds.length = 2 ∧ aInitS C (ds ++ es ++ [stV dLv]) M R)
theorem lim_dSp : Lim dSp := ⟨by decide, by decide, by decide, by simp [dSp, okI], by simp [dSp, okI]⟩
theorem lim_dLv : Lim dLv := ⟨by decide, by decide, by decide, by simp [dLv, okI], by simp [dLv, okI]⟩
theorem ae_schD {X : Cx} {Γ : Gam} {M : Mem} {R : Val → Mem → Prop} {e : Expr} {p1 pos : Pos} {m : Nat} (T : Rs X.K X.mg C) (I : MkD X.prog X.w X.K X.mg X.base C) (hr : Rm m X.A) (hm : 5 ≤ m)
    (h : aE X e Γ M fun x M1 => ∃ a, x = .int a ∧ 2 ≤ a ∧ a ≤ 9 ∧ R (scV C ⟨a, nf dSp, nf dLv⟩) M1)
    (hg : Gl X "Schedule" := by rfl) (he : starEach [e] X.env = (false, eval e X.env) :: starEach [] X.env := by rfl) : aE X (.Call (.Name "Schedule" p1) [e] [] pos) Γ M R := by
  obtain ⟨fi, mk, F, _, _⟩ := I.ex
  refine ae_frzO (ae_make mk F (hr.mono hm) T.gC (aa_cons (h.mono fun x M1 h1 => aa_nil (ak_nil ⟨rfl, fun p hn => ⟨rfl, ?_⟩⟩)) he) hg rfl rfl (by decide) he (by rw [he]; rfl))
  obtain ⟨a, rfl, a2, a9, hR⟩ := h1
  exact ⟨p, a, dSp, dLv, M1, rfl, rfl, a2, a9, lim_dSp, lim_dLv, by decide, rfl, p, C, _, M1, rfl, rfl, hR⟩
theorem ae_schL {X : Cx} {Γ : Gam} {M : Mem} {R : Val → Mem → Prop} {e e2 : Expr} {p1 p2 pos : Pos} {m : Nat} (T : Rs X.K X.mg C) (I : MkD X.prog X.w X.K X.mg X.base C) (hr : Rm m X.A) (hm : 5 ≤ m)
    (h : aE X e Γ M fun x M1 => aE X e2 Γ M1 fun z M2 => ∃ a lv, x = .int a ∧ z = stV lv ∧ 2 ≤ a ∧ a ≤ 9 ∧ Lim lv ∧ item lv 0 ≠ 0 ∧ R (scV C ⟨a, nf dSp, nf lv⟩) M2)
    (hg : Gl X "Schedule" := by rfl) (he : starEach [e] X.env = (false, eval e X.env) :: starEach [] X.env := by rfl) : aE X (.Call (.Name "Schedule" p1) [e] [⟨some "levels", e2, p2⟩] pos) Γ M R := by
  obtain ⟨fi, mk, _, F, _⟩ := I.ex
  refine ae_frzO (ae_make mk F (hr.mono hm) T.gC (aa_cons (h.mono fun x M1 h1 => aa_nil (ak_cons (h1.mono fun y M2 h2 => ak_nil ⟨rfl, fun p hn => ⟨rfl, ?_⟩⟩))) he) hg rfl rfl (by decide) he (by rw [he]; rfl))
  obtain ⟨a, lv, rfl, rfl, a2, a9, hl, h0, hR⟩ := h2
  exact ⟨p, a, dSp, lv, M2, rfl, rfl, a2, a9, lim_dSp, hl, h0, rfl, p, C, _, M2, rfl, rfl, hR⟩
theorem ae_schS {X : Cx} {Γ : Gam} {M : Mem} {R : Val → Mem → Prop} {e e2 : Expr} {p1 p2 pos : Pos} {m : Nat} (T : Rs X.K X.mg C) (I : MkD X.prog X.w X.K X.mg X.base C) (hr : Rm m X.A) (hm : 5 ≤ m)
    (h : aE X e Γ M fun x M1 => aE X e2 Γ M1 fun z M2 => ∃ a sp, x = .int a ∧ z = stV sp ∧ 2 ≤ a ∧ a ≤ 9 ∧ Lim sp ∧ R (scV C ⟨a, nf sp, nf dLv⟩) M2)
    (hg : Gl X "Schedule" := by rfl) (he : starEach [e] X.env = (false, eval e X.env) :: starEach [] X.env := by rfl) : aE X (.Call (.Name "Schedule" p1) [e] [⟨some "spine", e2, p2⟩] pos) Γ M R := by
  obtain ⟨fi, mk, _, _, F⟩ := I.ex
  refine ae_frzO (ae_make mk F (hr.mono hm) T.gC (aa_cons (h.mono fun x M1 h1 => aa_nil (ak_cons (h1.mono fun y M2 h2 => ak_nil ⟨rfl, fun p hn => ⟨rfl, ?_⟩⟩))) he) hg rfl rfl (by decide) he (by rw [he]; rfl))
  obtain ⟨a, lv, rfl, rfl, a2, a9, hl, hR⟩ := h2
  exact ⟨p, a, lv, dLv, M2, rfl, rfl, a2, a9, hl, lim_dLv, by decide, rfl, p, C, _, M2, rfl, rfl, hR⟩
/-- a method by its name -/
abbrev Mt (P : Program) (w : World) (K : PySem.W.Frag) (mg : Str → Option Value) (base : Heap) (C : Addr) (n : Nat) (m : Str) (s : ASp) : Prop := ∃ f, Meth K C m f ∧ FX P w K mg base n f fun ds _ => s ds
end
end K09

/-! defs that say super(): judgements at the def's own code -/
namespace Ab
open PySem PySem.Spec PyProof.Rows L2 NdefX
def zE (X : Cx) (body : List Stmt) (e : Expr) (Γ : Gam) (M : Mem) (P : Val → Mem → Prop) : Prop := ∀ Hi H σ pins s, Ok X.K Hi M H → EnvR X.K Hi Γ σ → Inv X pins σ H s → ∀ Q : VK, Post X.K Hi P Q → PySem.wpAt (model X.prog X.w) X.A (.func body X.env) (eval e X.env) (EP X pins σ Q) X.xe s
structure ZR (X : Cx) (pins : List (Addr × Obj)) (Hi : Hp) (k : AK) (Φ : Flow → Shared → Prop) : Prop where
  nx : ∀ Γ M σ Hi' H' s', k.nx Γ M → Same Hi Hi' → Ok X.K Hi' M H' → EnvR X.K Hi' Γ σ → Inv X pins σ H' s' → Φ .next s'
  rt : ∀ d M v u σ Hi' H' s', k.rt d M → Same Hi Hi' → Ok X.K Hi' M H' → Rep X.K Hi' d v → Inv X pins σ H' s' → RelV v u → Φ (.ret u) s'
  bk : ∀ Γ M σ Hi' H' s', k.bk Γ M → Same Hi Hi' → Ok X.K Hi' M H' → EnvR X.K Hi' Γ σ → Inv X pins σ H' s' → Φ .brk s'
  ct : ∀ Γ M σ Hi' H' s', k.ct Γ M → Same Hi Hi' → Ok X.K Hi' M H' → EnvR X.K Hi' Γ σ → Inv X pins σ H' s' → Φ .cont s'
def zS (X : Cx) (body : List Stmt) (st : Stmt) (Γ : Gam) (M : Mem) (k : AK) : Prop := ∀ Hi H σ pins s, Ok X.K Hi M H → EnvR X.K Hi Γ σ → Inv X pins σ H s → ∀ Φ, ZR X pins Hi k Φ → PySem.wpAt (model X.prog X.w) X.A (.func body X.env) (exec st X.env) Φ X.xe s
def zSs (X : Cx) (body : List Stmt) (sts : List Stmt) (Γ : Gam) (M : Mem) (k : AK) : Prop := ∀ Hi H σ pins s, Ok X.K Hi M H → EnvR X.K Hi Γ σ → Inv X pins σ H s → ∀ Φ, ZR X pins Hi k Φ → PySem.wpAt (model X.prog X.w) X.A (.func body X.env) (execs sts X.env) Φ X.xe s
theorem ZR.up {X : Cx} {pins : List (Addr × Obj)} {Hi Hi1 : Hp} {k : AK} {Φ : Flow → Shared → Prop} (h : ZR X pins Hi k Φ) (e : Same Hi Hi1) : ZR X pins Hi1 k Φ :=
  ⟨fun Γ M σ Hi' H' s' p q => h.nx Γ M σ Hi' H' s' p (e.trans q), fun d M v u σ Hi' H' s' p q => h.rt d M v u σ Hi' H' s' p (e.trans q), fun Γ M σ Hi' H' s' p q => h.bk Γ M σ Hi' H' s' p (e.trans q), fun Γ M σ Hi' H' s' p q => h.ct Γ M σ Hi' H' s' p (e.trans q)⟩
section
variable {X : Cx} {body : List Stmt} {Γ : Gam} {M : Mem} {P : Val → Mem → Prop} {e a b c : Expr} {es : List Expr} {pos p0 p1 apos : Pos} {k : AK} {d : Val} {st : Stmt} {sts s1 s2 : List Stmt} {x m : Str}
theorem ze_of (h : aE X e Γ M P) : zE X body e Γ M P := fun Hi H σ pins s ok en I Q q => wpAt_of_wpAny (pe_we.run pins s σ H Q I (h Hi H σ ok en Q q))
/-- the ends that fit -/
def zD (X : Cx) (pins : List (Addr × Obj)) (Φ : Flow → Shared → Prop) : Ends where
  nx := fun σ' H' => ∀ s', Inv X pins σ' H' s' → Φ .next s'
  rt := fun v H' => ∀ σ' u s', Inv X pins σ' H' s' → RelV v u → Φ (.ret u) s'
  bk := fun σ' H' => ∀ s', Inv X pins σ' H' s' → Φ .brk s'
  ct := fun σ' H' => ∀ s', Inv X pins σ' H' s' → Φ .cont s'
theorem zr_real {pins : List (Addr × Obj)} {Hi : Hp} {Φ : Flow → Shared → Prop} (h : ZR X pins Hi k Φ) : Real X.K Hi k (zD X pins Φ) :=
  ⟨fun Γ M σ Hi' H' p q o en s' I => h.nx Γ M σ Hi' H' s' p q o en I, fun d M v Hi' H' p q o r σ' u s' I rv => h.rt d M v u σ' Hi' H' s' p q o r I rv, fun Γ M σ Hi' H' p q o en s' I => h.bk Γ M σ Hi' H' s' p q o en I, fun Γ M σ Hi' H' p q o en s' I => h.ct Γ M σ Hi' H' s' p q o en I⟩
theorem sp_phi {pins : List (Addr × Obj)} {Φ : Flow → Shared → Prop} {f : Flow} {s' : Shared} (h : SP X pins (zD X pins Φ) f s') : Φ f s' := by
  cases f with
  | next => obtain ⟨σ, H, I, q⟩ := h; exact q s' I
  | brk => obtain ⟨σ, H, I, q⟩ := h; exact q s' I
  | cont => obtain ⟨σ, H, I, q⟩ := h; exact q s' I
  | ret u => obtain ⟨v, σ, H, I, r, q⟩ := h; exact q σ u s' I r
theorem zs_of (h : aSs X sts Γ M k) : zSs X body sts Γ M k := fun Hi H σ pins s ok en I Φ q => wpAt_of_wpAny (wpAny_mono (pss_wb.run pins s σ H _ I (h Hi H σ ok en _ (zr_real q))) (fun _ _ z => sp_phi z) fun _ _ z => z)
theorem zs1_of (h : aS X st Γ M k) : zS X body st Γ M k := fun Hi H σ pins s ok en I Φ q => wpAt_of_wpAny (wpAny_mono (ps_ws.run pins s σ H _ I (h Hi H σ ok en _ (zr_real q))) (fun _ _ z => sp_phi z) fun _ _ z => z)
theorem zs_cons (h : zS X body st Γ M { k with nx := fun Γ' M' => zSs X body sts Γ' M' k }) : zSs X body (st :: sts) Γ M k := fun Hi H σ pins s ok en I Φ q => by
  refine ks_wpAt_execs_cons (h Hi H σ pins s ok en I _ ⟨fun Γ' M' σ' Hi' H' s' p e o en' I' => ?_, fun d M v u σ' Hi' H' s' p e o r I' rv => ?_, fun Γ' M' σ' Hi' H' s' p e o en' I' => ?_, fun Γ' M' σ' Hi' H' s' p e o en' I' => ?_⟩)
  · exact p Hi' H' σ' pins s' o en' I' Φ (q.up e)
  · exact q.rt d M v u σ' Hi' H' s' p e o r I' rv
  · exact q.bk Γ' M' σ' Hi' H' s' p e o en' I'
  · exact q.ct Γ' M' σ' Hi' H' s' p e o en' I'
theorem zs_nil (h : k.nx Γ M) : zSs X body [] Γ M k := zs_of (as_nil h)
theorem zs_one (h : zS X body st Γ M k) : zSs X body [st] Γ M k := fun Hi H σ pins s ok en I Φ q => by
  refine ks_wpAt_execs_cons (h Hi H σ pins s ok en I _ ⟨fun Γ' M' σ' Hi' H' s' p e o en' I' => ?_, fun d M v u σ' Hi' H' s' p e o r I' rv => ?_, fun Γ' M' σ' Hi' H' s' p e o en' I' => ?_, fun Γ' M' σ' Hi' H' s' p e o en' I' => ?_⟩)
  · exact zs_nil (k := k) p Hi' H' σ' pins s' o en' I' Φ (q.up e)
  · exact q.rt d M v u σ' Hi' H' s' p e o r I' rv
  · exact q.bk Γ' M' σ' Hi' H' s' p e o en' I'
  · exact q.ct Γ' M' σ' Hi' H' s' p e o en' I'
theorem zs_ret (h : zE X body e Γ M k.rt) : zS X body (.Return (some e) pos) Γ M k := fun Hi H σ pins s ok en I Φ q =>
  ks_wpAt_Return_some (PySem.wpAt_mono (h Hi H σ pins s ok en I (fun v H' => ∀ u s', Inv X pins σ H' s' → RelV v u → Φ (.ret u) s') fun d M' v Hi' H' p e o r u s' I' rv => q.rt d M' v u σ Hi' H' s' p e o r I' rv) (fun u s' ⟨v, H', I', rv, z⟩ => z u s' I' rv) fun _ _ z => z)
theorem zs_set {ps : Pos} (n : Nat) (hN : X.N.Nodup) (he : zE X body e Γ M fun d M' => k.nx (Γ.set n (some d)) M') (hi : X.N[n]? = some x := by rfl) (hx : Loc X.env.scope x := by first | exact Or.inl rfl | exact Or.inr rfl)
    (hs : swapsWith e (some (.Name x ps)) pos.line X.env = pure false := by rfl) (hf : X.fn x = true ∨ X.env.scope.names.lookup x = some .local := by first | exact .inl rfl | exact .inr rfl | assumption) : zS X body (.Assign [.Name x ps] e pos) Γ M k := fun Hi H σ pins s ok en I Φ q => by
  refine ks_wpAt_Assign_Name (PySem.wpAt_mono (he Hi H σ pins s ok en I (fun v H' => ∃ (Hi' : Hp) (M' : Mem) (d : Val), Same Hi Hi' ∧ Ok X.K Hi' M' H' ∧ Rep X.K Hi' d v ∧ k.nx (Γ.set n (some d)) M') fun d M' v Hi' H' p e o r => ⟨Hi', M', d, e, o, r, p⟩) (fun u s' z => ?_) fun _ _ z => z) hs
  obtain ⟨v, H', I', rv, Hi', M', d, e', o, r, p⟩ := z
  exact store_ok I' hN hi hx rv (fun s2 I2 => q.nx _ M' (σ.set n (some v)) Hi' H' s2 p e' o ((en.mono e').set r) I2) hf
theorem zs_if (h : aT X c Γ M fun b M' => (b = true → zSs X body s1 Γ M' k) ∧ (b = false → zSs X body s2 Γ M' k)) : zS X body (.If c s1 s2 pos) Γ M k := fun Hi H σ pins s ok en I Φ q => by
  refine ks_wpAt_If (wpAt_of_wpAny (wpAny_mono (pt_wt.run pins s σ H (fun b H' => ∀ s', Inv X pins σ H' s' → if b = true then PySem.wpAt (model X.prog X.w) X.A (.func body X.env) (execs s1 X.env) Φ X.xe s' else PySem.wpAt (model X.prog X.w) X.A (.func body X.env) (execs s2 X.env) Φ X.xe s') I (h Hi H σ ok en _ fun b M' Hi' H' p e o s' I' => ?_)) (fun b s' ⟨H', I', z⟩ => z s' I') fun _ _ z => z))
  cases b with
  | true => exact p.1 rfl Hi' H' σ pins s' o (en.mono e) I' Φ (q.up e)
  | false => exact p.2 rfl Hi' H' σ pins s' o (en.mono e) I' Φ (q.up e)
theorem zs_ifp {p : Prop} (hc : TP X c Γ M p) (h1 : p → zSs X body s1 Γ M k) (h2 : ¬ p → zSs X body s2 Γ M k) : zS X body (.If c s1 s2 pos) Γ M k := by
  obtain ⟨b, hb, i⟩ := hc
  refine zs_if (hb.val ⟨fun z => h1 (i.mp z), fun z => h2 fun y => ?_⟩)
  rw [i.mpr y] at z
  cases z
theorem ze_bin {op : Operator} (h : zE X body a Γ M fun x M1 => aE X b Γ M1 fun y M2 => BinV X op M2 x y P) : zE X body (.BinOp a op b pos) Γ M P := fun Hi H σ pins s ok en I Q q => by
  refine ks_wpAt_BinOp (PySem.wpAt_mono (h Hi H σ pins s ok en I (fun v H' => ∃ (Hi' : Hp) (M' : Mem) (d : Val), Same Hi Hi' ∧ Ok X.K Hi' M' H' ∧ Rep X.K Hi' d v ∧ aE X b Γ M' fun y M2 => BinV X op M2 d y P) fun d M' v Hi' H' p e o r => ⟨Hi', M', d, e, o, r, p⟩) (fun u s' z => ?_) fun _ _ z => z)
  obtain ⟨v, H', I', rv, Hi', M', d, e', o, r, p⟩ := z
  refine wpAny_mono (pe_we.run pins s' σ H' (fun w H2 => ∃ (Hi2 : Hp) (M2 : Mem) (y : Val), Same Hi' Hi2 ∧ Ok X.K Hi2 M2 H2 ∧ Rep X.K Hi2 y w ∧ BinV X op M2 d y P) I' (p Hi' H' σ o (en.mono e') _ fun y M2 w Hi2 H2 p2 e2 o2 r2 => ⟨Hi2, M2, y, e2, o2, r2, p2⟩)) (fun u2 s2 z => ?_) fun _ _ z => z
  obtain ⟨w, H2, I2, rw_, Hi2, M2, y, e2, o2, r2, ⟨r', ho, hv⟩⟩ := z
  exact ho pins s2 σ H2 v w u u2 Q I2 rv rw_ (hv Hi2 H2 v w o2 (r.mono e2) r2 Q (q.up (e'.trans e2)))
/-! ### super().m(e, ..) -/
/-- what the written part says of super() in a method at f of the class at D, for an instance of the class at C -/
structure Sup (K : PySem.W.Frag) (prog : Program) (f cda cc D C f2 : Addr) (m : Str) : Prop where
  fn : ∃ oc od fd osl ar, K.lookup f = some ⟨oc, od, .func fd, osl⟩ ∧ (fd.params.posonlyargs ++ fd.params.args).head? = some ar ∧ ar.arg = ("self" : Str)
  cd : ∃ ccl cdd vs ccs file tf, K.lookup cda = some ⟨ccl, cdd, .fields vs, ccs⟩ ∧ vs[2]? = some (.str file tf) ∧ ((prog.main.file : Str) == file) = true
  cl : ∃ c0 cld csl, K.lookup cc = some ⟨c0, cld, .cell (some (.ref D)), csl⟩
  cD : ∃ cd, PySem.W.clsIn K D = some cd
  sub : PySem.W.mroIn K C (.ref D) = some true
  tp : (prog.main.scope.names.lookup ("super" : Str)).isSome = false
  op : PySem.W.nsIn K cStatics "thirdparty.any" = some none
  fd : PySem.W.ks_superIn K C D m = some (some (.ref f2))
  ty : PySem.W.typeIn K (.ref f2) = some (.type "function")
  fi : PySem.W.fnIn K f2 = true
theorem ze_sup {n q : Nat} {f cda cc D C f2 : Addr} {fs : List (Str × Val)} {sx : ASx} {pl : Sem Bool} (S : Sup X.K X.prog f cda cc D C f2 m) (F : FnX X.prog X.w X.K X.mg X.base n f2 [] (spX X.K sx)) (hr : Rm q X.A) (hq : n ≤ q) (hms : X.mg "super" = none) (c : Cls X.K C)
    (hd : Γ[0]? = some (some d)) (hob : Ob M C d fs) (h : aA X (e :: es) Γ M fun ds M1 => sx (d :: ds) [] M1 P)
    (hN : X.N[0]? = some ("self" : Str) := by rfl) (hk : X.env.scope.kind = .function := by rfl) (hks : X.env.kindOf "super" = some .globalImplicit := by rfl) (hkc : X.env.kindOf "__class__" = some .free := by rfl) (hka : X.env.kindOf "self" = some .local := by rfl)
    (hfu : X.env.func = some f := by rfl) (hco : X.env.code = .ref cda := by rfl) (hcl : X.env.cells.lookup ("__class__" : Str) = some cc := by rfl) (hm : (m == ("__class__" : Str)) = false := by decide)
    (he : starEach (e :: es) X.env = (false, eval e X.env) :: starEach es X.env := by rfl) (hpl : (backTo pos (starEach es X.env)).any (·.1) = false := by rfl)
    (ht : eval (.Call (.Attribute (.Call (.Name "super" p0) [] [] p1) m apos) (e :: es) [] pos) X.env = (do
      let ov ← attributeBase (.Call (.Name "super" p0) [] [] p1) m X.env (eval (.Call (.Name "super" p0) [] [] p1) X.env)
      standAt apos.atName
      let (f, first) ← holding [ov] (getMethod ov m pl)
      callWith pos f first (backTo pos (starEach (e :: es) X.env)) []) := by rfl) : zE X body (.Call (.Attribute (.Call (.Name "super" p0) [] [] p1) m apos) (e :: es) [] pos) Γ M P := fun Hi H σ pins s ok en I Q q' => by
  obtain ⟨oc, od, fd, osl, ar, l1, l2, l3⟩ := S.fn
  obtain ⟨ccl, cdd, vs, ccs, file, tf, k1, k2, k3⟩ := S.cd
  obtain ⟨c0, cld, csl, z1⟩ := S.cl
  obtain ⟨cdD, hcD⟩ := S.cD
  have KX : X.K.In s.heap := I.kIn
  obtain ⟨v, hv, rv⟩ := en.2 0 d hd
  obtain ⟨xa, dx, gs, rfl, hx, rf⟩ := hob.rep ok rv
  obtain ⟨mA, O, _, _, _, _⟩ := ins_get I.hok hx
  obtain ⟨od', IA, _⟩ := O.look
  obtain ⟨oD, hD1, hD2⟩ : ∃ oD, s.heap.get? D = some oD ∧ oD.data = .cls cdD := by
    unfold PySem.W.clsIn at hcD
    split at hcD
    · rename_i c d cd' sl ho
      cases hcD
      exact ⟨_, KX _ _ ho, rfl⟩
    · cases hcD
  obtain ⟨mm, hns, hlk⟩ := I.loc
  obtain ⟨u, ru, lk⟩ := hlk 0 "self" (.ref xa) hN hv (.inl hka)
  obtain rfl : u = Value.ref xa := ru
  have hself : mm "self" = some (Value.ref xa) := by
    rcases lk with ⟨_, h⟩ | ⟨h, _⟩
    · exact h
    · rcases h with h | h <;> rw [hka] at h <;> cases h
  refine ks_wpAt_MethodCall (pl := pl) ?_ ht
  refine ks_wpAt_super_base hks hkc hm hfu (KX _ _ l1) rfl l2 hco (KX _ _ k1) rfl k2 k3 S.tp ?_
  obtain ⟨mb, h1, h2⟩ := I.mod.blt
  refine PySem.W.ks_loadName_global hk hks (Calls.loadGlobal_builtin (by rw [I.ok.glob]; exact I.mod.glob.keeps I.bk) hms (by rw [I.ok.blt]; exact h1.keeps I.bk) ((h2 "super" (by decide)).trans (by decide +kernel)) ⟨rfl, ?_⟩)
  refine wpAny_loadName_free hk hkc hcl ⟨_, KX _ _ z1, rfl⟩ ?_
  rw [l3]
  refine wpAny_loadName_local hk hka hns hself ?_
  refine ks_wpAny_isType_cls hD1 hD2 ⟨rfl, ?_⟩
  obtain ⟨hh, g, dr, t, os⟩ := s
  refine ks_wpAny_call_super hD1 hD2 IA.at_ IA.cls (fun c e => ?_) (PySem.W.looks_mroIn KX S.sub) (fun h' e' kp => ?_)
  · have := IA.no
    unfold PySem.W.notCls at this
    rw [e] at this
    exact Bool.noConfusion this
  have I1 : Inv X pins σ H ⟨h', g, dr, t, os⟩ := I.kept (s := ⟨hh, g, dr, t, os⟩) (t' := t) kp
  have KX1 : X.K.In h' := I1.kIn
  obtain ⟨mA1, O1, _, _, _, _⟩ := ins_get I1.hok hx
  obtain ⟨od1, IA1, _⟩ := O1.look
  cases hc : PySem.W.clsIn X.K C with
  | none =>
    have := S.fd
    unfold PySem.W.ks_superIn at this
    rw [hc] at this
    cases this
  | some cd =>
    have hsup := S.fd
    unfold PySem.W.ks_superIn at hsup
    rw [hc] at hsup
    obtain ⟨of, hof, hofc⟩ : ∃ of, h'.get? f2 = some of ∧ of.cls = .type "function" := by
      have ht' : (X.K.lookup f2).map (·.cls) = some (.type "function") := S.ty
      cases z : X.K.lookup f2 with
      | none => rw [z] at ht'; cases ht'
      | some of => rw [z] at ht'; exact ⟨of, KX1 _ _ z, Option.some.inj ht'⟩
    refine ks_wpAny_getMethod_super e' (PySem.W.looks_opaque KX1 S.op) (l₀ := cd.mro) (fun A Q E s k q => wpAny_bind ((PySem.W.looks_clsIn KX1 hc) A _ E s k (wpAny_pure q))) rfl KX1 hsup hof hofc (PySem.W.ks_ne KX1 IA1 hc) hm ?_
    have I2 : Inv X ((h'.objs.size, PySem.W.methodObj (.ref f2) (.ref xa)) :: pins) σ H ⟨h'.push (PySem.W.methodObj (.ref f2) (.ref xa)), g, dr, t + 1, os⟩ := ClX.pin_new (s := ⟨h', g, dr, t, os⟩) (t' := t + 1) I1 (fun _ _ z => Heap.get?_push_of_some _ z) (Nat.le_refl _) (Heap.get?_push_size h' rfl) (fun v z => nomatch z)
    have hb : X.base.get? h'.objs.size = none := ClX.base_none (s := ⟨h', g, dr, t, os⟩) I1 (Nat.le_refl _)
    refine PySem.W.callWith_M (K := X.K) (h₀ := X.base) (first := []) (q := h'.objs.size) (g := f2) (self := .ref xa) I2.ok.mod.kin (news_at (I2.pin (h'.objs.size, PySem.W.methodObj (.ref f2) (.ref xa)) (List.mem_append_right _ List.mem_cons_self)).2.2.1 hb (ClX.pin_at I2)) List.mem_cons_self S.fi ?_ he hpl
    refine wpAny_mono (pa_wa.run pos _ _ σ H (fun ws H2 => spX X.K sx (.ref xa :: ws) [] H2 Q) I2 (h Hi H σ ok en _ fun ds M1 ws Hi1 H1 p1 e1 o1 r1 => ⟨Hi1, M1, d :: ds, [], P, .cons (rv.mono e1) r1, .nil, o1, p1, q'.up e1⟩)) (fun us s3 z => ?_) fun _ _ z => z
    obtain ⟨ws, H3, I3, rw3, q3⟩ := z
    refine ⟨⟨ClX.pin_at I3, I3.kIn⟩, ?_⟩
    have zz : wpAny (model X.prog X.w) X.A (call (.ref h'.objs.size) us) (EP X ((h'.objs.size, PySem.W.methodObj (.ref f2) (.ref xa)) :: pins) σ Q) X.xe s3 := by
      refine wpAny_call (PySem.W.method_call (ClX.pin_at I3) (codeAny_mono (F.run X.A X.stack s3 H3 (.ref xa :: us) [] (.ref xa :: ws) [] Q (hr.mono hq) I3.env0 (.cons rfl rw3) .nil rfl q3) fun r s' hq => ?_))
      cases r with
      | error e => exact False.elim hq
      | ok fl =>
        cases fl with
        | ret u => exact I3.after hq
        | next => exact False.elim hq
        | brk => exact False.elim hq
        | cont => exact False.elim hq
    exact thn zz fun _ _ y => ClX.unpinE y
end
section
variable {P : Program} {w : World} {K : PySem.W.Frag} {mg : Str → Option Value} {base : Heap} {N ps : List Str} {F : NF} {f cc D : Addr} {k : Nat} {s0 : ASp}
abbrev zcx (P : Program) (w : World) (K : PySem.W.Frag) (mg : Str → Option Value) (base : Heap) (N : List Str) (F : NF) (f : Addr) (A : Around) (outer : List Env) (s : Shared) (H : Hp) : Cx := (ncx CX0 P w K mg base N F f A outer s H E0).nox
/-- what the body of a def that says super() must do -/
abbrev ZBody (P : Program) (w : World) (K : PySem.W.Frag) (mg : Str → Option Value) (base : Heap) (k : Nat) (f : Addr) (N : List Str) (F : NF) (s0 : ASp) : Prop :=
  ∀ A outer s H, Rm k (A.deeper (envF F f s.heap.objs.size)) → ∀ ds M R, s0 ds M R → zSs (zcx P w K mg base N F f A outer s H) F.body F.body (gam N ds) M (kOf R)
theorem fnx_sup {oc c0 : Value} {od cld : Option Addr} {osl csl : Array (Option Value)} {doc pm ctv : Value} (hcl : F.cl = [(("__class__" : Str), cc)]) (lk : K.lookup f = some ⟨oc, od, .func (F.fd doc pm ctv), osl⟩) (hcd : PySem.W.codeIn K (.ref F.c) F.qual = true)
    (hcell : K.lookup cc = some ⟨c0, cld, .cell (some (.ref D)), csl⟩) (S : NScope N ps ["__class__"] F.scope) (hb : ∀ (us : List Value), us.length = ps.length → bindArgs (F.fd doc pm ctv) ⟨us, []⟩ = pure (ps.zip us)) (len : ∀ ds M R, s0 ds M R → ds.length = ps.length)
    (hbody : ZBody P w K mg base k f N F s0) : FnX P w K mg base (k + 1) f [] (spX K fun ds _ => s0 ds) := by
  refine ⟨fun A outer s H us ws vs zs Q hr e0 r rz hz ⟨Hi, M, ds, es, R, ra, re, ok, hs, q⟩ => ?_⟩
  have hl : vs.length = ps.length := ra.length.symm.trans (len _ _ _ hs)
  have KX : K.In s.heap := e0.mod.kin.keeps fun b o e => (e0.bs b o e).1
  have lim : s.heap.NoLimit := e0.mod.nolimit.keeps fun b o e => (e0.bs b o e).1
  have hcb := e0.bs cc _ (e0.mod.kin _ _ hcell)
  have C : CellsAt F.cl ["__class__"] [some (.ref D)] s.heap H := by
    rw [hcl]
    refine ⟨rfl, fun y c h => ?_, fun x y c h1 h2 => ?_, fun i y h => ?_⟩
    · have : c = cc := by
        rw [List.lookup_cons] at h
        split at h
        · exact (Option.some.inj h).symm
        · cases h
      subst this
      exact ⟨hcb.2, _, _, hcb.1, rfl⟩
    · have one : ∀ z : Str, List.lookup z [(("__class__" : Str), cc)] = some c → z = ("__class__" : Str) := fun z h => by
        rw [List.lookup_cons] at h
        split at h
        · rename_i e
          exact eq_of_beq e
        · cases h
      rw [one x h1, one y h2]
    · cases i with
      | zero =>
        cases h
        exact ⟨cc, by rw [List.lookup_cons, beq_self_eq_true], fun v hv => by cases hv; exact ⟨_, rfl, _, hcb.1, rfl⟩⟩
      | succ i => cases h
  have e : ws = [] := List.length_eq_zero_iff.mp (rz.length.symm.trans hz)
  subst e
  refine codeAny_call_function hr.room.depth (KX _ _ lk) rfl S.co S.gen rfl (PySem.W.codeRec_of KX hcd) ?_
  show wpAny _ _ (bindArgs (F.fd doc pm ctv) ⟨us, []⟩) _ _ _
  rw [hb us (by rw [← r.length]; exact hl)]
  refine wpAny_pure (wpAny_newFunctionEnv S.nocell (fun ⟨n, _⟩ hy => S.par n (List.of_mem_zip hy).1) (fun h₁ hns hsb => ⟨lim.fresh _ hsb, ?_⟩) S.kind)
  show codeAny _ _ (.func F.body (envF F f s.heap.objs.size)) _ _
  refine ks_codeAny_funcAt ?_
  have kp : ∀ b o, s.heap.get? b = some o → h₁.get? b = some o := fun b o e => hsb.extBut b o (Nat.ne_of_lt (Heap.lt_size e)) (Heap.get?_push_of_some _ e)
  have I : Inv (ncx CX0 P w K mg base N F f A outer s H E0) [] (startF N vs [some (.ref D)]) H { s with heap := h₁, toks := s.toks + (ps.zip us).length } := inv_startN S hr.room.hd e0 hl r C hns kp
  have hpl : ps.length + 1 ≤ N.length := by
    have q := congrArg List.length S.pre
    rw [List.length_take, List.length_append] at q
    have : (["__class__"] : List Str).length = 1 := rfl
    omega
  have en : EnvR K Hi (gam N ds) (startF N vs [some (.ref D)]) := by
    have h0 := env_start (N := N) ra
    refine ⟨?_, fun i d hd => ?_⟩
    · unfold gam startF
      rw [List.length_append, List.length_append, List.length_append, List.length_map, List.length_map, List.length_replicate, List.length_replicate, ra.length]
      have : ([some (V.ref D)] : List (Option V)).length = 1 := rfl
      omega
    · obtain ⟨v, h1, h2⟩ := h0.2 i d hd
      refine ⟨v, ?_, h2⟩
      unfold L2.start at h1
      unfold startF
      by_cases hi : i < (vs.map some).length
      · rw [List.getElem?_append_left hi] at h1 ⊢
        exact h1
      · rw [List.getElem?_append_right (by omega), List.getElem?_replicate] at h1
        split at h1 <;> cases h1
  refine PySem.wpAt_mono (hbody A outer s H (hr.deeper _) ds M R hs Hi H _ [] _ ok en (I.wish _) (fun fl s' => CE outer P w H s Q (match fl with | .ret u => u | _ => .none) s') ⟨fun Γ M' σ' Hi' H' s' p e o en' J => ?_, fun d M' v u σ' Hi' H' s' p e o r' J rv => ?_, fun Γ M' σ' Hi' H' s' p => p.elim, fun Γ M' σ' Hi' H' s' p => p.elim⟩) (fun fl s' z => z) fun _ _ z => z.elim
  · exact ⟨.non, H', J.os, J.bare, J.base, J.hok, rfl, p.post q e o .non⟩
  · exact ⟨v, H', J.os, J.bare, J.base, J.hok, rv, p.post q e o r'⟩
end
end Ab

/-! distances of places -/
namespace Sm
variable {k : Nat} {s l : Nat → Int}
theorem dvd_iff_div {m b : Nat} (hm : 0 < m) : (((b + 1) / m : Nat) : Int) - ((b / m : Nat) : Int) = if m ∣ b + 1 then 1 else 0 := by
  by_cases h : m ∣ b + 1
  · rw [if_pos h, dvd_div hm (Nat.succ_pos b) h, show b.succ - 1 = b from rfl]
    omega
  · rw [if_neg h, ndvd_div hm h]
    omega
/-- the distance between two leaves -/
theorem place_step (hk : 2 ≤ k) {b N : Nat} (hN : b + 1 < k ^ N) : place k s l (b + 1) - place k s l b = smN (fun j => if k ^ j ∣ b + 1 then l j else 0) (N + 1) + smN (fun j => if k ^ j = b + 1 then s (j + 1) else 0) N := by
  rw [place_two hk hN, place_two hk (N := N) (b := b) (by omega)]
  have e1 : smN (fun h => l h * (((b + 1) / k ^ h : Nat) : Int)) (N + 1) - smN (fun h => l h * ((b / k ^ h : Nat) : Int)) (N + 1) = smN (fun j => if k ^ j ∣ b + 1 then l j else 0) (N + 1) := by
    rw [← smN_sub]
    refine smN_congr fun j _ => ?_
    rw [← Int.mul_sub, dvd_iff_div (Nat.pow_pos (by omega))]
    split <;> simp
  have e2 : smN (fun h => if k ^ h ≤ b + 1 then s (h + 1) else 0) N - smN (fun h => if k ^ h ≤ b then s (h + 1) else 0) N = smN (fun j => if k ^ j = b + 1 then s (j + 1) else 0) N := by
    rw [← smN_sub]
    refine smN_congr fun j _ => ?_
    by_cases h1 : k ^ j ≤ b
    · rw [if_pos (by omega), if_pos h1, if_neg (by omega)]
      omega
    · by_cases h2 : k ^ j = b + 1
      · rw [if_pos (by omega), if_neg h1, if_pos h2]
        omega
      · rw [if_neg (by omega), if_neg h1, if_neg h2]
        omega
  omega
/-- by the exponent: b + 1 = k ^ e * r, k does not divide r -/
theorem place_exp (hk : 2 ≤ k) {b e r : Nat} (hb : b + 1 = k ^ e * r) (hr : ¬ k ∣ r) : place k s l (b + 1) - place k s l b = smN l (e + 1) + if r = 1 then s (e + 1) else 0 := by
  have r0 : 0 < r := by
    rcases Nat.eq_zero_or_pos r with h | h
    · subst h
      exact absurd (Nat.dvd_zero k) hr
    · exact h
  have dv : ∀ j, k ^ j ∣ b + 1 ↔ j ≤ e := fun j => by
    constructor
    · intro h
      rcases Nat.lt_or_ge e j with z | z
      · exfalso
        obtain ⟨c, rfl⟩ : ∃ c, j = e + 1 + c := ⟨j - (e + 1), by omega⟩
        have h1 : k ^ e * k ∣ k ^ e * r := by
          rw [← hb, ← Nat.pow_succ]
          exact Nat.dvd_trans (Nat.pow_dvd_pow k (by omega)) h
        exact hr (Nat.dvd_of_mul_dvd_mul_left (Nat.pow_pos (by omega)) h1)
      · exact z
    · intro h
      rw [hb]
      exact Nat.dvd_trans (Nat.pow_dvd_pow k h) (Nat.dvd_mul_right _ _)
  have eN : e < b + 1 := by
    have h1 := lt_pow hk e
    have h2 : k ^ e ≤ k ^ e * r := Nat.le_mul_of_pos_right _ r0
    omega
  rw [place_step hk (N := b + 1) (lt_pow hk (b + 1))]
  congr 1
  · have h1 : smN (fun j => if k ^ j ∣ b + 1 then l j else 0) (b + 1 + 1) = smN (fun j => if k ^ j ∣ b + 1 then l j else 0) (e + 1) := smN_ext (by omega) fun j hj => if_neg (by rw [dv]; omega)
    rw [h1]
    exact smN_congr fun j hj => if_pos ((dv j).mpr (by omega))
  · by_cases h1 : r = 1
    · subst h1
      rw [Nat.mul_one] at hb
      rw [if_pos rfl]
      have h2 : smN (fun j => if k ^ j = b + 1 then s (j + 1) else 0) (b + 1) = smN (fun j => if k ^ j = b + 1 then s (j + 1) else 0) (e + 1) := smN_ext (by omega) fun j hj => if_neg (by
        rw [hb]
        intro h
        have := (Nat.pow_right_inj (by omega : 2 ≤ k)).mp h
        omega)
      rw [h2, smN, if_pos hb.symm]
      have h3 : smN (fun j => if k ^ j = b + 1 then s (j + 1) else 0) e = smN (fun _ => 0) e := smN_congr fun j hj => if_neg (by
        rw [hb]
        intro h
        have := (Nat.pow_right_inj (by omega : 2 ≤ k)).mp h
        omega)
      rw [h3]
      have h4 : ∀ n, smN (fun _ => 0) n = 0 := fun n => by
        induction n with
        | zero => rfl
        | succ n ih => rw [smN, ih]; rfl
      rw [h4]
      omega
    · rw [if_neg h1]
      have h3 : smN (fun j => if k ^ j = b + 1 then s (j + 1) else 0) (b + 1) = smN (fun _ => 0) (b + 1) := smN_congr fun j hj => if_neg (by
        intro h
        have hj := (dv j).mp (by rw [h]; exact Nat.dvd_refl _)
        have h5 : k ^ e * r = k ^ j := by rw [← hb, h]
        obtain ⟨c, rfl⟩ : ∃ c, e = j + c := ⟨e - j, by omega⟩
        rw [Nat.pow_add, Nat.mul_assoc] at h5
        have h6 : k ^ c * r = 1 := Nat.eq_of_mul_eq_mul_left (Nat.pow_pos (by omega) : 0 < k ^ j) (by rw [h5, Nat.mul_one])
        exact h1 (Nat.eq_one_of_mul_eq_one_left h6))
      rw [h3]
      have h4 : ∀ n, smN (fun _ => 0) n = 0 := fun n => by
        induction n with
        | zero => rfl
        | succ n ih => rw [smN, ih]; rfl
      rw [h4]
/-! ### nodes of one height follow one another -/
/-- the labels of the node with b such nodes before it -/
def lab (s l : Nat → Int) (h b : Nat) : Int := if b = 0 then s h else l h
theorem fq_step {c : Ct} (h : CtOk c) (t i : Nat) : fq c t i + c.la 0 ≤ fq c t (i + 1) := by
  unfold fq
  rw [smN_head, smN_head, Nat.pow_zero, Nat.div_one, Nat.div_one]
  have h1 : smN (fun j => c.la (j + 1) * ((i / c.k ^ (j + 1) : Nat) : Int)) t ≤ smN (fun j => c.la (j + 1) * (((i + 1) / c.k ^ (j + 1) : Nat) : Int)) t := smN_le fun j _ => Int.mul_le_mul_of_nonneg_left (Int.ofNat_le.mpr (Nat.div_le_div_right (Nat.le_succ i))) (h.la _)
  have h2 : c.la 0 * ((i + 1 : Nat) : Int) = c.la 0 * (i : Int) + c.la 0 := by rw [Int.natCast_add, Int.mul_add]; simp
  omega
theorem fq_ext {c : Ct} (h : CtOk c) {t u i : Nat} (hu : t ≤ u) (hi : i < c.k ^ (t + 1)) : fq c u i = fq c t i := by
  unfold fq
  refine smN_ext (by omega) fun j hj => ?_
  have : i < c.k ^ j := Nat.lt_of_lt_of_le hi (Nat.pow_le_pow_right (by have := h.k2; omega) hj)
  rw [Nat.div_eq_of_lt this]
  simp
theorem pp_step {c : Ct} (h : CtOk c) (b : Nat) : pp c b + c.own ≤ pp c (b + 1) := by
  unfold pp
  rw [if_neg (Nat.succ_ne_zero b)]
  have hk := h.k2
  have e1 : smN (fun j => if c.k ^ j ≤ b then c.sp j else 0) b ≤ smN (fun j => if c.k ^ j ≤ b + 1 then c.sp j else 0) (b + 1) := by
    have h1 : smN (fun j => if c.k ^ j ≤ b then c.sp j else 0) b ≤ smN (fun j => if c.k ^ j ≤ b + 1 then c.sp j else 0) b := smN_le fun j _ => by
      have := h.sp j
      split
      · rw [if_pos (by omega)]
        exact Int.le_refl _
      · split
        · exact this
        · exact Int.le_refl _
    have h2 : 0 ≤ if c.k ^ b ≤ b + 1 then c.sp b else 0 := by
      split
      · exact h.sp b
      · exact Int.le_refl _
    rw [smN]
    omega
  have o1 := h.o1
  by_cases hb : b = 0
  · subst hb
    rw [if_pos rfl]
    have e0 : smN (fun j => if c.k ^ j ≤ 0 then c.sp j else 0) 0 = 0 := rfl
    have e2 : c.la 0 ≤ fq c (0 + 1) (0 + 1) := by
      have h3 := fq_step h 1 0
      have h4 := fq_nn h 1 0
      exact Int.le_trans (by omega) h3
    have ae := h.ae
    omega
  · rw [if_neg hb]
    have e2 : fq c b b + c.la 0 ≤ fq c (b + 1) (b + 1) := by
      have h3 := fq_step h (b + 1) b
      rw [fq_ext h (Nat.le_succ b) (Nat.lt_trans (lt_pow hk b) (Nat.pow_lt_pow_right (by omega) (Nat.lt_succ_self b)))] at h3
      exact h3
    omega
theorem pl_step (hk : 2 ≤ k) (hs : ∀ j, 0 ≤ s j) (hl : ∀ j, 0 ≤ l j) (h0 : 0 < l 0) (h b : Nat) : pl k s l h b + lab s l h (b + 1) ≤ pl k s l h (b + 1) := by
  have := pp_step (ct_ok hk hs hl h0 h) b
  unfold lab
  rw [if_neg (Nat.succ_ne_zero b)]
  exact this
theorem pl_lab (hk : 2 ≤ k) (hs : ∀ j, 0 ≤ s j) (hl : ∀ j, 0 ≤ l j) (h0 : 0 < l 0) (h b : Nat) : lab s l h b ≤ pl k s l h b := by
  cases b with
  | zero =>
    rw [pl_zero]
    unfold lab fp
    rw [if_pos rfl]
    split
    · omega
    · have := ed_nn hk hs hl h0 (h - 1)
      omega
  | succ b =>
    have h1 := pl_step hk hs hl h0 h b
    have h2 := pl_nn hk hs hl h0 h b
    omega
theorem pl_mono (hk : 2 ≤ k) (hs : ∀ j, 0 ≤ s j) (hl : ∀ j, 0 ≤ l j) (h0 : 0 < l 0) (h : Nat) {b c : Nat} (hb : b ≤ c) : pl k s l h b ≤ pl k s l h c := by
  induction c with
  | zero => rw [Nat.le_zero.mp hb]; exact Int.le_refl _
  | succ c ih =>
    rcases Nat.lt_or_ge c b with z | z
    · rw [show b = c + 1 by omega]
      exact Int.le_refl _
    · have h1 := pl_step hk hs hl h0 h c
      have h2 := ih z
      have h3 : 0 ≤ lab s l h (c + 1) := by
        unfold lab
        rw [if_neg (Nat.succ_ne_zero c)]
        exact hl h
      omega
/-- where a node begins -/
def pb (k : Nat) (s l : Nat → Int) (h b : Nat) : Int := pl k s l h b - max (lab s l h b - 1) 0
/-- how many have begun: v finished ones and perhaps the next -/
theorem begun_ge (hk : 2 ≤ k) (hs : ∀ j, 0 ≤ s j) (hl : ∀ j, 0 ≤ l j) (h0 : 0 < l 0) {h b : Nat} {v : Int} (hv : Cnt k s l h (pb k s l h b) v) : (b : Int) + 1 ≤ v + if pb k s l h v.toNat ≤ pb k s l h b then 1 else 0 := by
  have v0 := hv.1
  rcases Int.lt_or_le (b : Int) v with z | z
  · split <;> omega
  · -- the nodes before are finished
    have hb : (b : Int) ≤ v := by
      cases b with
      | zero => exact v0
      | succ b =>
        have h1 := (hv.2 b).mpr (by
          have h2 := pl_step hk hs hl h0 h b
          unfold pb
          have h3 : 0 ≤ lab s l h (b + 1) := by
            unfold lab
            rw [if_neg (Nat.succ_ne_zero b)]
            exact hl h
          omega)
        omega
    have e : v.toNat = b := by omega
    rw [e, if_pos (Int.le_refl _)]
    omega
theorem begun_lt (hk : 2 ≤ k) (hs : ∀ j, 0 ≤ s j) (hl : ∀ j, 0 ≤ l j) (h0 : 0 < l 0) {h b : Nat} {v : Int} (hv : Cnt k s l h (pb k s l h b - 1) v) : v + (if pb k s l h v.toNat ≤ pb k s l h b - 1 then 1 else 0) < (b : Int) + 1 := by
  have v0 := hv.1
  have h1 : v ≤ b := by
    rcases Int.lt_or_le (b : Int) v with z | z
    · have h2 := (hv.2 b).mp z
      unfold pb at h2
      omega
    · exact z
  rcases Int.lt_or_le v (b : Int) with z | z
  · split <;> omega
  · have e : v.toNat = b := by omega
    rw [e, if_neg (by omega)]
    omega
end Sm
namespace Sm
theorem pp_step2 {c : Ct} (h : CtOk c) {b : Nat} (hb : 0 < b) : pp c b + c.la 0 ≤ pp c (b + 1) := by
  unfold pp
  rw [if_neg (Nat.succ_ne_zero b), if_neg (by omega)]
  have hk := h.k2
  have e1 : smN (fun j => if c.k ^ j ≤ b then c.sp j else 0) b ≤ smN (fun j => if c.k ^ j ≤ b + 1 then c.sp j else 0) (b + 1) := by
    have h1 : smN (fun j => if c.k ^ j ≤ b then c.sp j else 0) b ≤ smN (fun j => if c.k ^ j ≤ b + 1 then c.sp j else 0) b := smN_le fun j _ => by
      have := h.sp j
      split
      · rw [if_pos (by omega)]
        exact Int.le_refl _
      · split
        · exact this
        · exact Int.le_refl _
    have h2 : 0 ≤ if c.k ^ b ≤ b + 1 then c.sp b else 0 := by
      split
      · exact h.sp b
      · exact Int.le_refl _
    rw [smN]
    omega
  have e2 : fq c b b + c.la 0 ≤ fq c (b + 1) (b + 1) := by
    have h3 := fq_step h (b + 1) b
    rw [fq_ext h (Nat.le_succ b) (Nat.lt_trans (lt_pow hk b) (Nat.pow_lt_pow_right (by omega) (Nat.lt_succ_self b)))] at h3
    exact h3
  omega
theorem pl_ge {k : Nat} {s l : Nat → Int} (hk : 2 ≤ k) (hs : ∀ j, 0 ≤ s j) (hl : ∀ j, 0 ≤ l j) (h0 : 0 < l 0) (h b : Nat) : (b : Int) ≤ pl k s l h b + 1 := by
  induction b with
  | zero =>
    have := pl_nn hk hs hl h0 h 0
    omega
  | succ b ih =>
    rcases Nat.eq_zero_or_pos b with z | z
    · subst z
      have := pl_nn hk hs hl h0 h 1
      show ((0 + 1 : Nat) : Int) ≤ pl k s l h 1 + 1
      omega
    · have h1 := pp_step2 (ct_ok hk hs hl h0 h) z
      have h2 : 0 < (ctO k s l h).la 0 := (ct_ok hk hs hl h0 h).l0
      have h3 : pl k s l h b + (ctO k s l h).la 0 ≤ pl k s l h (b + 1) := h1
      omega
theorem Cnt.le {k : Nat} {s l : Nat → Int} (hk : 2 ≤ k) (hs : ∀ j, 0 ≤ s j) (hl : ∀ j, 0 ≤ l j) (h0 : 0 < l 0) {h : Nat} {n v : Int} (n0 : 0 ≤ n) (hv : Cnt k s l h n v) : v ≤ n + 2 := by
  rcases Int.lt_or_le (n + 2) v with z | z
  · have h1 := (hv.2 (n + 2).toNat).mp (by omega)
    have h2 := pl_ge hk hs hl h0 h (n + 2).toNat
    omega
  · exact z
end Sm

namespace K09
open PySem L2 Ab Sm
/-! ### the streams of draws in boxes -/
def st3 (p : Addr) (N : Nat) : Cell := .box fun B => ∃ (cs : List Int) (t y : Int), B = [(p, .dk [(.inr "cells", .lst (cs.map .int)), (.inr "at", .int t), (.inr "left", .int y)])] ∧ cs ≠ [] ∧ cs.length ≤ 1000 ∧ 0 ≤ t ∧ t ≤ (N : Int)
theorem sd_open {p : Addr} {N : Nat} {B : Mem0} {M : Mem} (h : ∃ (cs : List Int) (t y : Int), B = [(p, .dk [(.inr "cells", .lst (cs.map .int)), (.inr "at", .int t), (.inr "left", .int y)])] ∧ cs ≠ [] ∧ cs.length ≤ 1000 ∧ 0 ≤ t ∧ t ≤ (N : Int)) : SD (bs B ++ M) 0 p N := by
  obtain ⟨cs, t, y, rfl, h1, h2, h3, h4⟩ := h
  exact ⟨cs, t, y, rfl, h1, h2, h3, h4⟩
theorem sd_close {p : Addr} {N : Nat} {M : Mem} (h : SD M 0 p N) : ∃ B M2, M = bs B ++ M2 ∧ p ∈ B.map (·.1) ∧ ∃ (cs : List Int) (t y : Int), B = [(p, .dk [(.inr "cells", .lst (cs.map .int)), (.inr "at", .int t), (.inr "left", .int y)])] ∧ cs ≠ [] ∧ cs.length ≤ 1000 ∧ 0 ≤ t ∧ t ≤ (N : Int) := by
  obtain ⟨cs, t, y, h1, h2, h3, h4, h5⟩ := h
  cases M with
  | nil => cases h1
  | cons x M =>
    cases h1
    exact ⟨_, M, rfl, List.mem_cons_self, cs, t, y, rfl, h2, h3, h4, h5⟩
theorem sd_tail {p : Addr} {N c : Nat} {B : Mem0} {E M' : Mem} (h : ∃ (cs : List Int) (t y : Int), B = [(p, .dk [(.inr "cells", .lst (cs.map .int)), (.inr "at", .int t), (.inr "left", .int y)])] ∧ cs ≠ [] ∧ cs.length ≤ 1000 ∧ 0 ≤ t ∧ t ≤ (N : Int)) (d : Dq 0 p c (bs B ++ E) M') :
    ∃ B', M' = bs B' ++ E ∧ (∃ (cs : List Int) (t y : Int), B' = [(p, .dk [(.inr "cells", .lst (cs.map .int)), (.inr "at", .int t), (.inr "left", .int y)])] ∧ cs ≠ [] ∧ cs.length ≤ 1000 ∧ 0 ≤ t ∧ t ≤ ((N + c : Nat) : Int)) ∧ p ∈ B'.map (·.1) := by
  have hs := (sd_open (M := E) h).dq d
  obtain ⟨cs0, t0, y0, rfl, _⟩ := h
  obtain ⟨cs1, t1, y1, cs2, t2, y2, hm, rfl, _⟩ := d
  obtain ⟨cs, t, y, h1, h2, h3, h4, h5⟩ := hs
  have e : (p, stD cs2 t2 y2) = (p, stD cs t y) := Option.some.inj h1
  have e2 : stD cs2 t2 y2 = stD cs t y := (Prod.mk.inj e).2
  refine ⟨[(p, .dk [(.inr "cells", .lst (cs.map .int)), (.inr "at", .int t), (.inr "left", .int y)])], ?_, ⟨cs, t, y, rfl, h2, h3, h4, h5⟩, List.mem_cons_self⟩
  show (p, stD cs2 t2 y2) :: E = (p, stD cs t y) :: E
  rw [e2]
section
variable {P : Program} {w : World} {K : PySem.W.Frag} {mg : Str → Option Value} {base : Heap} {k : Nat} {f C C2 : Addr}
/-- a promise over a stream, told over its box -/
theorem gd_box3 {n : Nat} {x : Str} {s s' : ASp} (G : Gd P w K mg base n x [] fun ds _ => s ds)
    (h : ∀ ds M R, s' ds M R → ∃ (i : Nat) (p : Addr) (N : Nat), M[i]? = some (p, st3 p N) ∧ ∀ M1, SD M1 0 p N → s ds M1 fun d M' => ∃ c, Dq 0 p c M1 M' ∧ R d (M.set i (p, st3 p (N + c)))) : Gd P w K mg base n x [] fun ds _ => s' ds := by
  obtain ⟨f, F, hm, hk⟩ := G.ex
  refine ⟨f, F.weak fun vs zs H Q ⟨Hi, M, ds, es, R, r1, r2, ok, hs, q⟩ => ?_, hm, hk⟩
  obtain ⟨i, p, N, hi, hr⟩ := h ds M R hs
  obtain ⟨B, h1, h2, ok'⟩ := ok.opn hi
  refine ⟨Hi, bs B ++ M.eraseIdx i, ds, es, _, r1, r2, ok', hr _ (sd_open h1), fun d M' v Hi' H' hd s' ok2 r => ?_⟩
  obtain ⟨c, hdq, hR⟩ := hd
  obtain ⟨B', rfl, h3, h4⟩ := sd_tail h1 hdq
  exact q d _ v Hi' H' hR s' (ok2.clsAt hi h3 h4) r
def aNx3 : ASp := fun ds M R => ∃ (p : Addr) (i N : Nat) (n : Int), ds = [.ptr p, .int n] ∧ M[i]? = some (p, st3 p N) ∧ N ≤ 1000000 ∧ 0 < n ∧ n ≤ 1000000000 ∧ ∀ v, 0 ≤ v → v < n → R (.int v) (M.set i (p, st3 p (N + 1)))
def aHu3 : ASp := fun ds M R => ∃ (p : Addr) (i N : Nat), ds = [.ptr p] ∧ M[i]? = some (p, st3 p N) ∧ N ≤ 900000 ∧ ∀ v, 0 ≤ v → v < 2 ^ 900 → R (.int v) (M.set i (p, st3 p (N + 9)))
def aRs3 : ASp := fun ds M R => ∃ (p : Addr) (i N : Nat) (lo : Int), ds = [.ptr p, .int lo] ∧ M[i]? = some (p, st3 p N) ∧ N ≤ 900000 ∧ 0 ≤ lo ∧ lo ≤ 1 ∧ ∀ s, Sq3 lo s → R (stV s) (M.set i (p, st3 p (N + 9)))
abbrev GNx3 (P : Program) (w : World) (K : PySem.W.Frag) (mg : Str → Option Value) (base : Heap) : Prop := Gd P w K mg base 1 "_law_next" [] fun ds _ => aNx3 ds
abbrev GHu3 (P : Program) (w : World) (K : PySem.W.Frag) (mg : Str → Option Value) (base : Heap) : Prop := Gd P w K mg base 2 "_law_huge" [] fun ds _ => aHu3 ds
abbrev GRs3 (P : Program) (w : World) (K : PySem.W.Frag) (mg : Str → Option Value) (base : Heap) : Prop := Gd P w K mg base 2 "_law_random_stream" [] fun ds _ => aRs3 ds
theorem big8 {n : Int} (h0 : 0 < n) (h1 : n ≤ 1000000000) : n.natAbs < 2 ^ 8000 := by
  have : n.natAbs < 2 ^ 30 := by omega
  exact Nat.lt_of_lt_of_le this (Nat.pow_le_pow_right (by decide) (by decide))
theorem nx3 (G : GNx P w K mg base) : GNx3 P w K mg base := gd_box3 G fun ds M R ⟨p, i, N, n, e, hi, hN, h0, h1, hp⟩ => ⟨i, p, N, hi, fun M1 hs => ⟨p, 0, N, n, e, hs, hN, h0, big8 h0 h1, fun v M' v0 v1 d => ⟨1, d, hp v v0 v1⟩⟩⟩
theorem hu3 (G : GHug P w K mg base) : GHu3 P w K mg base := gd_box3 G fun ds M R ⟨p, i, N, e, hi, hN, hp⟩ => ⟨i, p, N, hi, fun M1 hs => ⟨p, 0, N, e, hs, hN, fun v M' v0 v1 d => ⟨9, d, hp v v0 v1⟩⟩⟩
theorem rs3 (G : GRst P w K mg base) : GRs3 P w K mg base := gd_box3 G fun ds M R ⟨p, i, N, lo, e, hi, hN, h0, h1, hp⟩ => ⟨i, p, N, hi, fun M1 hs => ⟨p, 0, N, lo, e, hs, hN, h0, h1, fun v M' v0 d => ⟨9, d, hp v v0⟩⟩⟩
/-- streams with their counts, in front of others -/
def qM (q : List (Addr × Nat)) (M : Mem) : Mem := q.map (fun x => (x.1, st3 x.1 x.2)) ++ M
theorem ok_sts {K : PySem.W.Frag} {Hi H : Hp} {M : Mem} {N : Nat} : ∀ {ps : List Addr} {Ds A : Mem}, Sts Ds ps N → Ds.length = ps.length → Ok K Hi (A ++ (Ds ++ M)) H → Ok K Hi (A ++ qM (ps.map fun p => (p, N)) M) H
  | [], Ds, A, _, hl, ok => by
    have : Ds = [] := List.length_eq_zero_iff.mp hl
    subst this
    exact ok
  | p :: ps, Ds, A, hs, hl, ok => by
    cases Ds with
    | nil => cases hl
    | cons x Ds =>
      have hx : SD [x] 0 p N := by
        obtain ⟨cs, t, y, h1, h2⟩ := hs 0 p rfl
        exact ⟨cs, t, y, h1, h2⟩
      obtain ⟨B, M2, e, hp, hB⟩ := sd_close hx
      obtain ⟨cs, t, y, rfl, h2⟩ := hB
      have ex : x = (p, .b (.dk [(.inr "cells", .lst (cs.map .int)), (.inr "at", .int t), (.inr "left", .int y)])) := (List.cons.inj e).1
      subst ex
      have ok1 := ok.perm (M' := bs [(p, Cell0.dk [(.inr "cells", .lst (cs.map .int)), (.inr "at", .int t), (.inr "left", .int y)])] ++ (A ++ (Ds ++ M))) (List.perm_middle (l₁ := A)).symm
      have ok2 := ok1.cls (φ := fun B => ∃ (cs : List Int) (t y : Int), B = [(p, Cell0.dk [(.inr "cells", .lst (cs.map .int)), (.inr "at", .int t), (.inr "left", .int y)])] ∧ cs ≠ [] ∧ cs.length ≤ 1000 ∧ 0 ≤ t ∧ t ≤ (N : Int)) ⟨cs, t, y, rfl, h2⟩ hp
      have pm : ((A ++ [(p, st3 p N)]) ++ (Ds ++ M)).Perm ((p, st3 p N) :: (A ++ (Ds ++ M))) := by
        rw [List.append_assoc]
        exact List.perm_middle
      have ok3 : Ok K Hi ((A ++ [(p, st3 p N)]) ++ (Ds ++ M)) H := ok2.perm pm
      have ok4 := ok_sts (ps := ps) (A := A ++ [(p, st3 p N)]) (fun j p' hj => hs (j + 1) p' hj) (Nat.succ.inj hl) ok3
      rw [List.append_assoc] at ok4
      exact ok4
def aSt3 : ASp := fun ds M R => ∃ ns : List Int, ds = [.lst (ns.map .int)] ∧ ns.length ≤ 63 ∧ ∀ ps : List Addr, ps ≠ [] → ps.length ≤ 6 → R (.lst (ps.map .ptr)) (qM (ps.map fun p => (p, 600)) M)
abbrev GSt3 (P : Program) (w : World) (K : PySem.W.Frag) (mg : Str → Option Value) (base : Heap) : Prop := Gd P w K mg base 1 "_law_streams" [] fun ds _ => aSt3 ds
theorem gst3 (G : GSts P w K mg base) : GSt3 P w K mg base := by
  obtain ⟨f, F, hm, hk⟩ := G.ex
  refine ⟨f, F.weak fun vs zs H Q ⟨Hi, M, ds, es, R, r1, r2, ok, ⟨ns, e, hl, hp⟩, q⟩ => ?_, hm, hk⟩
  refine ⟨Hi, M, ds, es, fun d M' => ∃ (ps : List Addr) (Ds : Mem), d = .lst (ps.map .ptr) ∧ M' = Ds ++ M ∧ ps ≠ [] ∧ ps.length ≤ 6 ∧ Ds.length = ps.length ∧ Sts Ds ps 600, r1, r2, ok, ⟨ns, e, hl, fun ps Ds h1 h2 h3 h4 => ⟨ps, Ds, rfl, rfl, h1, h2, h3, h4⟩⟩, fun d M' v Hi' H' hd s' ok2 r => ?_⟩
  obtain ⟨ps, Ds, rfl, rfl, h1, h2, h3, h4⟩ := hd
  exact q _ _ v Hi' H' (hp ps h1 h2) s' (ok_sts (A := []) h4 h3 ok2) r
/-- a stream is brought to the front -/
theorem q_front {q : List (Addr × Nat)} {M : Mem} {i : Nat} {x : Addr × Nat} (h : q[i]? = some x) : ((x.1, st3 x.1 x.2) :: qM (q.eraseIdx i) M).Perm (qM q M) := by
  have h1 := perm_at h
  have h2 := (h1.map (fun x : Addr × Nat => ((x.1, st3 x.1 x.2) : Addr × Cell))).append_right M
  exact h2.symm
end
end K09

namespace K09
open PySem L2 Ab Sm
section
variable {P : Program} {w : World} {K : PySem.W.Frag} {mg : Str → Option Value} {base : Heap} {k : Nat} {f C C2 : Addr}
/-! ### the draws of stage 2 -/
theorem b__law_next (B : Bt mg) : BodyOk P w K mg base k f n__law_next "_law_next" (defScope s__law_next) (defBody s__law_next) aNxt := by
  rintro cdv A outer s0 H E hr ds M R ⟨a, i, N, n, rfl, ⟨cs, t, y, hm, hne, hl, ht0, htN⟩, hN, hn, hn2, hp⟩
  have hil := (List.getElem?_eq_some_iff.mp hm).1
  have hlen : 0 < cs.length := List.length_pos_iff.mpr hne
  refine as_cons (as_dput hr.u1 (v_ 0) s_ (av_add (av_dget hr.u1 (v_ 0) s_ hm (d := .int t) rfl) i_) hm (szl (Nat.le_of_ble_eq_true rfl)) ?_)
  have hm2 : (M.set i (a, stD cs (t + 1) y))[i]? = some (a, .dk [(.inr "cells", .lst (cs.map .int)), (.inr "at", .int (t + 1)), (.inr "left", .int y)]) := List.getElem?_set_self hil
  show aSs _ _ _ (M.set i (a, stD cs (t + 1) y)) _
  refine as_cons (as_ifp (tp_cmp (av_dget hr.u1 (v_ 0) s_ hm2 (d := .int y) rfl) i_ cp_gt) (fun hx => ?_) (fun hx => as_nil ?_))
  · refine as_cons (as_setv 2 q__law_next.nd (av_mod (av_dget hr.u1 (v_ 0) s_ hm2 (d := .int y) rfl) (v_ 1) hn) ?_)
    refine as_cons (as_dput hr.u1 (v_ 0) s_ (av_fdivU (av_dget hr.u1 (v_ 0) s_ hm2 (d := .int y) rfl) (v_ 1) (cdw hn hn2)) hm2 (szl (Nat.le_of_ble_eq_true rfl)) ?_)
    rw [List.set_set]
    refine as_one (as_retv (v_ 2) (.ok ?_))
    exact hp _ _ (Int.emod_nonneg _ (by omega)) (Int.emod_lt_of_pos _ hn) ⟨cs, t, y, cs, t + 1, y / n, hm, rfl, fun h => h, fun h => h, fun _ => by omega, by omega⟩
  · refine as_cons (as_par 3 4 q__law_next.nd rfl (by decide) (aA.val (avs_cons (av_dget hr.u1 (v_ 0) s_ hm2 (d := .int (t + 1)) rfl) (avs_cons (av_dget hr.u1 (v_ 0) s_ hm2 (d := .lst (cs.map .int)) rfl) avs_nil)) ⟨_, _, rfl, ?_⟩))
    have j0 : 0 ≤ (t + 1) % (cs.length : Int) := Int.emod_nonneg _ (by omega)
    have j1 : (t + 1) % (cs.length : Int) < (cs.length : Int) := Int.emod_lt_of_pos _ (by omega)
    have o1 : (7901 : Int) * (t + 1) * (t + 1) ≤ 7901 * 1000001 * 1000001 := by
      have h1 : (7901 : Int) * (t + 1) ≤ 7901 * 1000001 := by omega
      exact Int.mul_le_mul h1 (by omega) (by omega) (by decide)
    have o0 : 0 ≤ (7901 : Int) * (t + 1) * (t + 1) := Int.mul_nonneg (by omega) (by omega)
    refine as_cons (as_setv 2 q__law_next.nd (av_add (av_add (av_add (av_mod (av_ix (v_ 4) (av_mod (v_ 3) (av_lenN B.len (v_ 4) (by first | exact .iT _ | exact .iL _ | exact .mT _ _ | exact .mL _ _ | exact .cm 0 rfl | exact .cm 1 rfl | exact .cm 2 rfl | exact .c 0 rfl | exact .c 1 rfl | exact .t _ | exact .l _ | exact .cm _ (by assumption))) (by first | omega | assumption)) (by first | exact .iT (by omega) (by omega) | exact .iL (by omega) (by omega) | exact .ci 0 rfl (by omega) (by omega) | exact .ci 1 rfl (by omega) (by omega) | exact .t rfl | exact .l rfl | exact .c 0 rfl rfl | exact .c 1 rfl rfl | assumption | exact .ci _ (by assumption) (by omega) (by omega))) i_ (by first | omega | assumption)) (av_mulU (av_mulU i_ (v_ 3) (by first | exact .inl (.inl ⟨by omega, by omega⟩) | exact .inl (.inr ⟨by omega, by omega⟩) | assumption)) (v_ 3) (by first | exact .inl (.inl ⟨by omega, by omega⟩) | exact .inl (.inr ⟨by omega, by omega⟩) | assumption))) (av_mulU i_ (v_ 3) (by first | exact .inl (.inl ⟨by omega, by omega⟩) | exact .inl (.inr ⟨by omega, by omega⟩) | assumption))) i_) ?_)
    generalize at0 cs ((t + 1) % (cs.length : Int)) = z
    have z0 := Int.emod_nonneg z (show (2147483629 : Int) ≠ 0 by decide)
    have z1 := Int.emod_lt_of_pos z (show (0 : Int) < 2147483629 by decide)
    have hpw : CPow (z % 2147483629 + (7901 : Int) * (t + 1) * (t + 1) + 104711 * (t + 1) + 13) 5 := ⟨by decide, by decide, by omega⟩
    refine as_one (as_retv (av_mod (av_fdivU (av_mod (av_mulU (av_mod (av_pow (v_ 2) i_ (by first | exact ⟨by omega, by omega, by decide⟩ | assumption)) i_ (by first | omega | assumption)) i_ (by first | exact .inl (.inl ⟨by omega, by omega⟩) | exact .inl (.inr ⟨by omega, by omega⟩) | assumption)) i_ (by first | omega | assumption)) i_ (by first | exact .inl ⟨by omega, by omega⟩ | assumption)) (v_ 1) (by first | omega | assumption)) ?_)
    exact .ok (hp _ _ (Int.emod_nonneg _ (by omega)) (Int.emod_lt_of_pos _ hn) ⟨cs, t, y, cs, t + 1, y, hm, rfl, fun h => h, fun h => h, fun _ => by omega, by omega⟩)

/-! ### _law_row -/
theorem b__law_row (B : Bt mg) (D : GNx P w K mg base) : BodyOk P w K mg base 1 f n__law_row "_law_row" (defScope s__law_row) (defBody s__law_row) aRst := by
  rintro cdv A outer s0 H E hr ds M R ⟨p, i, N, lo, rfl, hs, hN, h0, h1, hp⟩
  have hu := hr.u64
  refine as_cons (as_set 2 q__law_row.nd (ae_bin (i_.val (ae_next D hr (by decide) (v_ 0) i_ hs (by omega) (by decide) (by decide) fun wd M1 w0 w1 d1 => bv_add ?_))))
  have hs1 := hs.dq d1
  have hw2 : (1 + wd).natAbs < 2 ^ 8000 := Nat.lt_of_lt_of_le (show (1 + wd).natAbs < 2 ^ 3 by omega) (Nat.pow_le_pow_right (by decide) (by decide))
  refine as_cons (as_lcJ 3 [("_law_k", 4)] rfl q__law_row.nd (blkOk_by (N := n__law_row) (sc := defScope s__law_row) (by decide +kernel)) (aj_range1 B.range (ae_next D hr (by decide) (v_ 0) i_ hs1 (by omega) (by decide) (by decide) fun c M2 c0 c1 d2 => ⟨_, rfl, by omega, by omega, ?_⟩)))
  have hs2 := hs1.dq d2
  refine ⟨by omega, fun t acc M' => ∃ xs : List Int, acc = xs.map .int ∧ xs.length = t ∧ (∀ v ∈ xs, 0 ≤ v ∧ v ≤ 3) ∧ Dq i p t M2 M', ⟨[], rfl, rfl, (fun _ h => nomatch h), hs2.refl⟩, ?_, ?_⟩
  · rintro t acc M' D' ht hl ⟨xs, rfl, hxl, hx, dt⟩ s H C' cl fp
    have hst := hs2.dq dt
    refine agw_name 4 q__law_row.nd fun s H C' cl fp => ats_nil ⟨fun _ s H C' cl fp => ?_, ntf⟩
    refine ae_next D hr (by decide) (v_ 0) (v_ 2) hst.cons (by omega) (by omega) hw2 fun v M3 v0 v1 d3 => ?_
    obtain ⟨M4, rfl, d4⟩ := d3.cons
    refine ⟨M4, rfl, xs ++ [v], by rw [List.map_append]; rfl, by rw [List.length_append, hxl]; rfl, fun u hu => ?_, dt.trans d4⟩
    rcases List.mem_append.mp hu with z | z
    · exact hx u z
    · rw [List.mem_singleton.mp z]
      omega
  rintro q acc M3 ⟨xs, rfl, hxl, hx, d3⟩
  have hs3 := hs2.dq d3
  refine as_cons (as_lcJ 5 [("_law_k", 4)] rfl q__law_row.nd (blkOk_by (N := n__law_row) (sc := defScope s__law_row) (by decide +kernel)) (aj_range1 B.range (ae_bin (i_.val (ae_next D hr (by decide) (v_ 0) i_ hs3.cons (by omega) (by decide) (by decide) fun e M4 e0 e1 d4 => bv_add ⟨_, rfl, by omega, by omega, ?_⟩)))))
  obtain ⟨M5, rfl, d5⟩ := d4.cons
  have hs5 := hs3.dq d5
  refine ⟨by omega, fun t acc M' => ∃ (ys : List Int) (M6 : Mem), acc = ys.map .int ∧ M' = (q, .lst (xs.map .int)) :: M6 ∧ ys.length = t ∧ (∀ v ∈ ys, 0 ≤ v ∧ v ≤ 3) ∧ Dq i p t M5 M6, ⟨[], M5, rfl, rfl, rfl, (fun _ h => nomatch h), hs5.refl⟩, ?_, ?_⟩
  · rintro t acc M' D' ht hl ⟨ys, M6, rfl, rfl, hyl, hy, dt⟩ s H C' cl fp
    have hst := hs5.dq dt
    refine agw_name 4 q__law_row.nd fun s H C' cl fp => ats_nil ⟨fun _ s H C' cl fp => ?_, ntf⟩
    refine ae_next D hr (by decide) (v_ 0) (v_ 2) hst.cons.cons (by omega) (by omega) hw2 fun v M7 v0 v1 d7 => ?_
    obtain ⟨M8, rfl, d8⟩ := d7.cons
    obtain ⟨M9, rfl, d9⟩ := d8.cons
    refine ⟨_, rfl, ys ++ [v], M9, by rw [List.map_append]; rfl, rfl, by rw [List.length_append, hyl]; rfl, fun u hu => ?_, dt.trans d9⟩
    rcases List.mem_append.mp hu with z | z
    · exact hy u z
    · rw [List.mem_singleton.mp z]
      omega
  rintro q2 acc M' ⟨ys, M6, rfl, rfl, hyl, hy, d6⟩
  have dd : Dq i p 9 M M6 := (((((d1.trans d2).trans d3).trans d5).trans d6)).mono (by omega)
  have y13 : 1 ≤ ys.length ∧ ys.length ≤ 3 := by omega
  have y6 : ys.length ∣ 6 := by
    rcases (show ys.length = 1 ∨ ys.length = 2 ∨ ys.length = 3 by omega) with e | e | e <;> rw [e] <;> decide
  have fin : ∀ (s : Stm), Sq3 lo s → aSs (bcx P w K mg base n__law_row "_law_row" (defScope s__law_row) f cdv A outer s0 H E) [(defBody s__law_row).getD 4 (.Pass ⟨0, 0, 0, 0⟩)] [some (.ptr p), some (.int lo), none, some (.ptr q), none, some (.ptr q2)] ((q2, .lst (s.2.map .int)) :: (q, .lst (s.1.map .int)) :: M6) (kOf R) := fun s hq => by
    exact as_one (as_ret (aE.val (av_tup (avs_cons (av_tuple B.tuple (v_ 3) (.l (.lst 1 rfl))) (avs_cons (av_tuple B.tuple (v_ 5) (.l (.lst 0 rfl))) avs_nil)) szb) (.drop (.drop (.ok (hp s M6 hq dd))))))
  have yne : ys ≠ [] := fun z' => by
    rw [z'] at y13
    simp at y13
  have sy : ∀ v ∈ ys, sm v := fun v hv => by have := hy v hv; unfold sm; omega
  have sx : ∀ v ∈ xs, sm v := fun v hv => by have := hx v hv; unfold sm; omega
  refine as_cons (as_ifp (tp_cmp (v_ 3) (av_lst avs_nil szb) (cp_neL0 (by first | exact .self _ | exact .lst 0 rfl | exact .lst 1 rfl | exact .lst 2 rfl | exact .lst 3 rfl) hr.u64)) (fun cnd => ?_) (fun cnd => ?_))
  · have hx1 : 0 < xs.length := List.length_pos_iff.mpr cnd
    refine as_one (as_asg (aE.val (av_max2 B.max rfl (av_ix (v_ 3) i_ (by first | exact .iT (by omega) (by omega) | exact .iL (by omega) (by omega) | exact .ci 0 rfl (by omega) (by omega) | exact .ci 1 rfl (by omega) (by omega) | exact .t rfl | exact .l rfl | exact .c 0 rfl rfl | exact .c 1 rfl rfl | assumption | exact .ci _ (by assumption) (by omega) (by omega))) (v_ 1)) (ag_sub (n := 1) (jj := 0) (v_ 3) i_ rfl ?_ ?_)))
    · rw [List.length_map]
      unfold ixN
      rw [if_pos (by decide), if_pos (by omega)]
      rfl
    · show aSs _ _ _ ((q2, .lst (ys.map Val.int)) :: (q, .lst ((xs.map Val.int).set 0 _)) :: M6) _
      rw [map_set0]
      have hm0 : at0 xs 0 ∈ xs := by show xs.getD 0 0 ∈ xs; rw [gd_eq hx1]; exact List.getElem_mem _
      have hm := max_sm3 h0 h1 (hx _ hm0).1 (hx _ hm0).2
      refine as_le (by repeat' first | exact le_nil | refine le_skip ?_ | refine le_keep rfl ?_) (fin (xs.set 0 _, ys) ⟨⟨by rw [List.length_set]; omega, y6, yne, fun v hv => ?_, sy, ?_⟩, fun v hv => ?_, fun v hv => (hy v hv).2, by rw [List.length_set]; omega⟩)
      · rcases set0_mem hv with rfl | hv
        · exact hm.1.1
        · exact sx v hv
      · rw [item_lt (by rw [List.length_set]; exact hx1), gd_eq (by rw [List.length_set]; exact hx1), List.getElem_set_self]
        exact hm.2
      · rcases set0_mem hv with rfl | hv
        · exact hm.1.2
        · exact (hx v hv).2
  · have hx0 : xs = [] := by simpa using cnd
    subst hx0
    have hy1 : 0 < ys.length := by omega
    refine as_one (as_asg (aE.val (av_max2 B.max rfl (av_ix (v_ 5) i_ (by first | exact .iT (by omega) (by omega) | exact .iL (by omega) (by omega) | exact .ci 0 rfl (by omega) (by omega) | exact .ci 1 rfl (by omega) (by omega) | exact .t rfl | exact .l rfl | exact .c 0 rfl rfl | exact .c 1 rfl rfl | assumption | exact .ci _ (by assumption) (by omega) (by omega))) (v_ 1)) (ag_sub (n := 0) (jj := 0) (v_ 5) i_ rfl ?_ ?_)))
    · rw [List.length_map]
      unfold ixN
      rw [if_pos (by decide), if_pos (by omega)]
      rfl
    · show aSs _ _ _ ((q2, .lst ((ys.map Val.int).set 0 _)) :: (q, .lst (([] : List Int).map .int)) :: M6) _
      rw [map_set0]
      have hm0 : at0 ys 0 ∈ ys := by show ys.getD 0 0 ∈ ys; rw [gd_eq hy1]; exact List.getElem_mem _
      have hm := max_sm3 h0 h1 (hy _ hm0).1 (hy _ hm0).2
      refine as_le (by repeat' first | exact le_nil | refine le_skip ?_ | refine le_keep rfl ?_) (fin ([], ys.set 0 _) ⟨⟨Nat.zero_le _, by rw [List.length_set]; exact y6, fun z' => yne (by simpa using z'), (fun _ h => nomatch h), fun v hv => ?_, ?_⟩, (fun _ h => nomatch h), fun v hv => ?_, Nat.zero_le _⟩)
      · rcases set0_mem hv with rfl | hv
        · exact hm.1.1
        · exact sy v hv
      · show lo ≤ item ([], ys.set 0 _) 0
        rw [item_ge (by exact Nat.le_refl _)]
        show lo ≤ lp (ys.set 0 _) 0
        rw [lp_lt (by rw [List.length_set]; exact hy1), gd_eq (by rw [List.length_set]; exact hy1), List.getElem_set_self]
        exact hm.2
      · rcases set0_mem hv with rfl | hv
        · exact hm.1.2
        · exact (hy v hv).2

abbrev GRow (P : Program) (w : World) (K : PySem.W.Frag) (mg : Str → Option Value) (base : Heap) : Prop := Gd P w K mg base 2 "_law_row" [] fun ds _ => aRst ds
abbrev GRow3 (P : Program) (w : World) (K : PySem.W.Frag) (mg : Str → Option Value) (base : Heap) : Prop := Gd P w K mg base 2 "_law_row" [] fun ds _ => aRs3 ds
theorem row3 (G : GRow P w K mg base) : GRow3 P w K mg base := gd_box3 G fun ds M R ⟨p, i, N, lo, e, hi, hN, h0, h1, hp⟩ => ⟨i, p, N, hi, fun M1 hs => ⟨p, 0, N, lo, e, hs, hN, h0, h1, fun v M' v0 d => ⟨9, d, hp v v0⟩⟩⟩
/-! ### _law_streams -/
theorem cut_len3 {g : List Int} : (cutI g none (some 3)).length = min 3 g.length := by
  unfold cutI
  rw [show (some (3 : Int)) = some ((3 : Nat) : Int) from rfl, HT.sIx_nat, HT.sIx_none, List.length_take]
  simp
theorem b__law_streams (B : Bt mg) : BodyOk P w K mg base k f n__law_streams "_law_streams" (defScope s__law_streams) (defBody s__law_streams) aSts := by
  rintro cdv A outer s0 H E hr ds M R ⟨ns, rfl, hl, hp⟩
  obtain ⟨cs, hcs, hcne, hcl⟩ : ∃ cs : List Int, cs = (if ns = [] then [0] else ns) ∧ cs ≠ [] ∧ cs.length ≤ 63 := by
    refine ⟨_, rfl, ?_, ?_⟩
    · split
      · simp
      · assumption
    · split
      · simp
      · exact hl
  refine as_cons (as_set 1 q__law_streams.nd (ae_ifp (P := fun d M' => d = iL cs ∧ M' = M) (tp_cmp (v_ 0) (av_lst avs_nil szb) (cp_neL0 (by first | exact .self _ | exact .lst 0 rfl | exact .lst 1 rfl | exact .lst 2 rfl | exact .lst 3 rfl) hr.u64)) (fun c => aE.val (av_list B.list (v_ 0) (by first | exact .t | exact .l (by first | exact .self _ | exact .lst 0 rfl | exact .lst 1 rfl | exact .lst 2 rfl | exact .lst 3 rfl))) ⟨?_, rfl⟩) (fun c => aE.val (av_lst (avs_cons i_ avs_nil) szb) ⟨?_, rfl⟩) |>.mono ?_))
  · rw [hcs, if_neg c]
    rfl
  · rw [hcs, if_pos (by simpa using c)]
    rfl
  rintro d M' ⟨rfl, rfl⟩
  refine as_cons (as_set 2 q__law_streams.nd (ae_lstC (aa_nil ⟨szb, fun q => ?_⟩)))
  refine as_cons (as_forW PassesOwn.never rfl (aj_ai (R := fun M1 => M1 = (q, .lst []) :: M') (ai_enumL (xs := (cutI cs none (some 3)).map .int) B.enumerate (aE.val (av_sliceL (v_ 1) ao_none (ao_some i_) (by first | exact .self _ | exact .lst 0 rfl | exact .lst 1 rfl | exact .lst 2 rfl | exact .lst 3 rfl)) ⟨?_, rfl⟩)) fun M1 e => ?_))
  · rw [cut_map]
  subst e
  have h6 := cut_len3 (g := cs)
  have hc1 : 0 < cs.length := List.length_pos_iff.mpr hcne
  refine ⟨fun j Γ M1 => ∃ (ps : List Addr) (Ds : Mem), M1 = (q, .lst (ps.map .ptr)) :: (Ds ++ M') ∧ ps.length = j ∧ Ds.length = j ∧ Sts Ds ps 600 ∧ Γ = [none, some (iL cs), some (.ptr q), none, none], ⟨_, _, ⟨[], [], rfl, rfl, rfl, (fun j p h => by simp at h), rfl⟩, (by repeat' first | exact le_nil | refine le_skip ?_ | refine le_keep rfl ?_), (by repeat' first | exact List.Sublist.refl _ | exact List.sublist_append_right _ _ | apply List.Sublist.cons₂ | apply List.Sublist.cons)⟩, ?_, ?_⟩
  · rintro j Γ M1 hj ⟨ps, Ds, rfl, hpl, hdl, hst, rfl⟩
    have hj' : j < (cutI cs none (some 3)).length := by simpa using hj
    show aG _ _ (Val.tup [Val.int (j : Int), ((cutI cs none (some 3)).map Val.int).getD j .non]) _ _ _
    rw [getD_int hj']
    generalize (cutI cs none (some 3))[j] = it at *
    refine ag_tup rfl (ags_cons (ag_name 3 q__law_streams.nd (ags_cons (ag_name 4 q__law_streams.nd (ags_nil ?_)))))
    refine as_one (as_expr (ae_append (n0 := 0) (v_ 2) rfl (ae_perm (ae_dict3 fun p => ap_cons s_ (d := iL (cs.drop j ++ cs.take j)) ?_ (ap_cons s_ (av_mulU i_ (v_ 3) (by first | exact .inl (.inl ⟨by omega, by omega⟩) | exact .inl (.inr ⟨by omega, by omega⟩) | assumption)) (ap_cons s_ (av_ifI (tp_cmp (v_ 4) (av_powC (v := 1000000000000000000) i_ i_ ⟨by decide, by decide, by decide⟩ (by decide)) cp_ge) (fun _ => (v_ 4)) (fun _ => i_)) (ap_nil ⟨_, rfl, Nat.le_of_ble_eq_true rfl, ?_⟩)))))))
    · have h : ∀ {X : Cx} {Γ : Gam} {M : Mem} {e : Expr}, aV X e Γ M (.lst (cutA (cs.map Val.int) (some (j : Int)) none ++ cutA (cs.map Val.int) none (some (j : Int)))) → aV X e Γ M (iL (cs.drop j ++ cs.take j)) := fun h => by
        rw [cut_map, cut_map, cut_loN (by omega), cut_hi (by omega) (by omega), Int.toNat_natCast, ← List.map_append] at h
        exact h
      refine h (av_catL (av_sliceL (v_ 1) (ao_some (v_ 3)) ao_none (by first | exact .self _ | exact .lst 0 rfl | exact .lst 1 rfl | exact .lst 2 rfl | exact .lst 3 rfl)) (av_sliceL (v_ 1) ao_none (ao_some (v_ 3)) (by first | exact .self _ | exact .lst 0 rfl | exact .lst 1 rfl | exact .lst 2 rfl | exact .lst 3 rfl)) (.self _) (.self _) (Ab.sz ?_))
      rw [cut_map, cut_map, List.length_map, List.length_map]
      have := cut_len (g := cs) (lo := some (j : Int)) (hi := none)
      have := cut_len (g := cs) (lo := none) (hi := some (j : Int))
      omega
    · refine ⟨(q, .lst (ps.map .ptr)) :: ((Ds ++ [(p, stD (cs.drop j ++ cs.take j) (83 * (j : Int)) (if (10 : Int) ^ (18 : Int).toNat ≤ it then it else 0))]) ++ M'), ?_, 0, _, rfl, szl (by rw [List.length_map]; omega), ?_⟩
      · rw [List.append_assoc]
        exact ((List.perm_middle.cons _).trans (List.Perm.swap _ _ _))
      · generalize (if (10 : Int) ^ (18 : Int).toNat ≤ it then it else 0) = lf
        show Wk _ _ ((q, Cell.lst (ps.map .ptr ++ [.ptr p])) :: ((Ds ++ [(p, stD (cs.drop j ++ cs.take j) (83 * (j : Int)) lf)]) ++ M'))
        rw [show ps.map Val.ptr ++ [.ptr p] = (ps ++ [p]).map Val.ptr by rw [List.map_append]; rfl]
        refine ⟨_, _, ⟨ps ++ [p], Ds ++ [(p, stD (cs.drop j ++ cs.take j) (83 * (j : Int)) lf)], rfl, by rw [List.length_append, hpl]; rfl, by rw [List.length_append, hdl]; rfl, fun j' p' h => ?_, rfl⟩, (by repeat' first | exact le_nil | refine le_skip ?_ | refine le_keep rfl ?_), (by repeat' first | exact List.Sublist.refl _ | exact List.sublist_append_right _ _ | apply List.Sublist.cons₂ | apply List.Sublist.cons)⟩
        rcases Nat.lt_or_ge j' ps.length with z | z
        · rw [List.getElem?_append_left z] at h
          obtain ⟨c1, t1, y1, g1, g2⟩ := hst j' p' h
          exact ⟨c1, t1, y1, by rw [List.getElem?_append_left (by omega)]; exact g1, g2⟩
        · have hlt := (List.getElem?_eq_some_iff.mp h).1
          rw [List.length_append] at hlt
          have e : j' = ps.length := by have : j' < ps.length + 1 := hlt; omega
          subst e
          rw [List.getElem?_append_right (Nat.le_refl _), Nat.sub_self] at h
          have e2 : p = p' := by simpa using h
          subst e2
          refine ⟨cs.drop j ++ cs.take j, 83 * (j : Int), _, by rw [List.getElem?_append_right (by omega), show ps.length - Ds.length = 0 by omega]; rfl, fun z => ?_, ?_, by omega, by omega⟩
          · have := congrArg List.length z
            simp at this
            omega
          · rw [List.length_append, List.length_drop, List.length_take]
            omega
  · rintro Γ M1 ⟨ps, Ds, rfl, hpl, hdl, hst, rfl⟩
    have hpl2 : ps.length = min 3 cs.length := by rw [hpl, List.length_map]; exact h6
    refine as_one (as_ret ((v_ 2).val (.frz (.ok (hp ps Ds (fun z => ?_) (by omega) (by omega) hst)))))
    rw [z] at hpl2
    simp at hpl2
    omega

/-! ### _law_plan -/
def aPlan (C : Addr) : ASp := fun ds M R => ∃ (p : Addr) (i N : Nat) (mo : Int), ds = [.ptr p, .int mo] ∧ M[i]? = some (p, st3 p N) ∧ N ≤ 800000 ∧ 2 ≤ mo ∧ mo ≤ 9 ∧ ∀ (a : Int) (s l : Stm), 2 ≤ a → a ≤ mo → Sq3 0 s → Sq3 1 l → R (.tup [.int a, stV s, stV l, scV C ⟨a, nf s, nf l⟩]) (M.set i (p, st3 p (N + 19)))
theorem Sq3.lim {lo : Int} {s : Stm} (h : Sq3 lo s) : Lim s := ⟨by have := h.l3; omega, Nat.le_of_dvd (by decide) h.sq.l2, h.sq.ne, fun v hv => ⟨(h.sq.a1 v hv).1, by have := h.a1 v hv; omega⟩, fun v hv => ⟨(h.sq.a2 v hv).1, by have := h.a2 v hv; omega⟩⟩
theorem b__law_plan (T : Rs K mg C) (I : Mks P w K mg base C) (g__law_next : GNx3 P w K mg base) (g__law_row : GRow3 P w K mg base) : BodyOk P w K mg base 5 f n__law_plan "_law_plan" (defScope s__law_plan) (defBody s__law_plan) (aPlan C) := by
  rintro cdv A outer s0 H E hr ds M R ⟨p, i, N, mo, rfl, hi, hN, m2, m9, hp⟩
  refine as_cons (as_set 2 q__law_plan.nd (ae_bin (aE.val i_ (ae_g g__law_next hr (by decide) (aa_cons (aE.val (v_ 0) (aa_cons (aE.val (av_sub (v_ 1) i_) (aa_nil (ak_nil ⟨rfl, p, i, _, _, rfl, (by first | exact hi | exact bx_get hi | exact bx_get (bx_get hi) | exact bx_get (bx_get (bx_get hi)) | exact bx_get (bx_get (bx_get (bx_get hi)))), (by omega), (by omega), (by omega), fun a a0 a1 => (bv_add ?_)⟩))))))))))
  refine as_cons (as_par 3 4 q__law_plan.nd rfl (by decide) (aa_cons (ae_g g__law_row hr (by decide) (aa_cons (aE.val (v_ 0) (aa_cons (aE.val i_ (aa_nil (ak_nil ⟨rfl, p, i, _, _, rfl, (by first | exact hi | exact bx_get hi | exact bx_get (bx_get hi) | exact bx_get (bx_get (bx_get hi)) | exact bx_get (bx_get (bx_get (bx_get hi)))), (by omega), (by decide), (by decide), fun s sh => (aa_cons (ae_g g__law_row hr (by decide) (aa_cons (aE.val (v_ 0) (aa_cons (aE.val i_ (aa_nil (ak_nil ⟨rfl, p, i, _, _, rfl, (by first | exact hi | exact bx_get hi | exact bx_get (bx_get hi) | exact bx_get (bx_get (bx_get hi)) | exact bx_get (bx_get (bx_get (bx_get hi)))), (by omega), (by decide), (by decide), fun l lh => (aa_nil ⟨_, _, rfl, ?_⟩)⟩))))))))⟩)))))))))
  simp only [List.set_set]
  have h0 : item l 0 ≠ 0 := by have := lh.sq.lo; omega
  refine as_one (as_ret (ae_tup (aa_cons (aE.val (v_ 2) (aa_cons (aE.val (v_ 3) (aa_cons (aE.val (v_ 4) (aa_cons (ae_sch T I hr (by decide) (aE.val (v_ 2) (aE.val (v_ 3) (aE.val (v_ 4) ⟨_, _, _, rfl, rfl, rfl, by omega, by omega, sh.lim, lh.lim, h0, aa_nil ⟨szb, ?_⟩⟩)))) ))))))))) 
  exact .ok (hp (2 + a) s l (by omega) (by omega) sh lh)
abbrev GPlan (P : Program) (w : World) (K : PySem.W.Frag) (mg : Str → Option Value) (base : Heap) (C : Addr) : Prop := Gd P w K mg base 6 "_law_plan" [] fun ds _ => aPlan C ds
end
end K09

/-! methods of instances that stand in boxes -/
namespace Ab
open PySem PySem.Spec PyProof.Rows L2
/-- d is an instance of the class at C without an attribute m of its own -/
def ObM (M : Mem) (C : Addr) (d : Val) (m : Str) : Prop := ∀ K Hi H v, Ok K Hi M H → Rep K Hi d v → ∃ p dx gs, v = .ref p ∧ H p = some (.ins C dx gs) ∧ gs.lookup m = none
theorem Ob.obM {M : Mem} {C : Addr} {d : Val} {fs : List (Str × Val)} {m : Str} (h : Ob M C d fs) (hl : fs.lookup m = none) : ObM M C d m := fun K Hi H v ok r => by
  obtain ⟨p, dx, gs, h1, h2, h3⟩ := h.rep ok r
  exact ⟨p, dx, gs, h1, h2, h3.none hl⟩
theorem obm_box {M : Mem} {i : Nat} {c C : Addr} {m : Str} {φ : Mem0 → Prop} (hi : M[i]? = some (c, .box φ)) (hφ : ∀ B, φ B → ∃ fs, (c, Cell0.ins C fs) ∈ B ∧ fs.lookup m = none) : ObM M C (.ptr c) m := fun K Hi H v ok r => by
  obtain ⟨B, h1, _, ok'⟩ := ok.opn hi
  obtain ⟨fs, h3, h4⟩ := hφ B h1
  have hm : (c, Cell.b (.ins C fs)) ∈ bs B ++ M.eraseIdx i := List.mem_append_left _ (List.mem_map.mpr ⟨_, h3, rfl⟩)
  obtain ⟨_, o, ho, dx, gs, rfl, rf⟩ := ok'.ce c _ hm
  cases r
  exact ⟨c, dx, gs, rfl, ho, rf.none h4⟩
section
variable {X : Cx} {Γ : Gam} {M : Mem} {P : Val → Mem → Prop} {e a b c o : Expr} {es : List Expr} {kws : List Keyword} {pos p1 p2 apos kpos : Pos} {k : AK} {d d1 d2 d3 : Val} {i j : Int} {x y m : Str} {n : Nat} {f C : Addr} {ks : List Str} {sx : ASx}
theorem ae_methG {pl : Sem Bool} (c : Cls X.K C) (hm : Meth X.K C m f) (F : FnX X.prog X.w X.K X.mg X.base n f ks (spX X.K sx)) (hr : Rm n X.A)
    (h : aE X o Γ M fun d M0 => ObM M0 C d m ∧ aA X (e :: es) Γ M0 fun ds M1 => aKw X kws Γ M1 fun zs M2 => zs.length = ks.length ∧ sx (d :: ds) zs M2 P)
    (hall : (backToKw pos (keywordEach kws X.env)).all (·.1.isSome) = true := by rfl) (hks : (backToKw pos (keywordEach kws X.env)).filterMap (·.1) = ks := by rfl)
    (he : starEach (e :: es) X.env = (false, eval e X.env) :: starEach es X.env := by rfl) (hpl : ((backTo pos (starEach (e :: es) X.env)).any (·.1) || (backToKw pos (keywordEach kws X.env)).any (·.1.isNone)) = false := by rfl)
    (ht : eval (.Call (.Attribute o m apos) (e :: es) kws pos) X.env = (do
      let ov ← eval o X.env
      standAt apos.atName
      let (f, first) ← holding [ov] (getMethod ov m pl)
      callWith pos f first (backTo pos (starEach (e :: es) X.env)) (backToKw pos (keywordEach kws X.env))) := by rfl) : aE X (.Call (.Attribute o m apos) (e :: es) kws pos) Γ M P := fun Hi H σ ok en Q q => by
  refine ⟨fun σ H Q => WE X o σ H fun x H0 => ∃ a dx fs, x = .ref a ∧ H0 a = some (.ins C dx fs) ∧ fs.lookup m = none ∧ WA X (e :: es) σ H0 fun vs H1 => WK X kws σ H1 fun zs H2 => zs.length = ks.length ∧ spX X.K sx (x :: vs) zs H2 Q, ⟨fun pins s σ H Q I h => ?_⟩, ?_⟩
  · refine PySem.W.methodCall_KW (pl := pl) (thn (pe_we.run pins s σ H _ I h) fun u s1 ⟨x, H1, I1, rx, a, dx, fs, ex, ea, l, q⟩ => ?_) ht
    subst ex
    obtain rfl : u = Value.ref a := rx
    refine getmeth_ok I1 ea c hm l ?_
    refine PySem.W.callWith_KW (first := [.ref a]) (h₀ := X.base) I.ok.mod.kin hm.kp hall (thn (pa_wa.run pos pins s1 σ H1 _ I1 q) fun us s2 ⟨vs, H2, I2, r, q2⟩ => ?_) hpl he
    refine thn (pk_wk.run pos pins s2 σ H2 _ I2 q2) fun ws s3 ⟨zs, H3, I3, rz, l2, q3⟩ => ⟨I3.kIn, ?_⟩
    rw [hks]
    exact run_x (us := .ref a :: us) (vs := .ref a :: vs) F hr I3 (.cons rfl r) rz l2 q3
  · refine h Hi H σ ok en _ fun x M0 v0 Hi0 H0 h0 s0 ok0 r0 => ?_
    obtain ⟨hob, h0⟩ := h0
    obtain ⟨p, dx, gs, rfl, hp, hn⟩ := hob _ _ _ _ ok0 r0
    refine ⟨p, dx, gs, rfl, hp, hn, ?_⟩
    refine h0 Hi0 H0 σ ok0 (en.mono s0) _ fun ds M1 vs Hi1 H1 h1 s1 ok1 r1 => ?_
    refine h1 Hi1 H1 σ ok1 (en.mono (s0.trans s1)) _ fun zs M2 ws Hi2 H2 h2 s2 ok2 r2 => ?_
    exact ⟨r2.length.symm.trans h2.1, Hi2, M2, _ :: ds, zs, P, .cons (r0.mono (s1.trans s2)) (r1.mono s2), r2, ok2, h2.2, q.up ((s0.trans s1).trans s2)⟩
theorem ae_methG0 {pl : Sem Bool} (c : Cls X.K C) (hm : Meth X.K C m f) (F : FnX X.prog X.w X.K X.mg X.base n f ks (spX X.K sx)) (hr : Rm n X.A)
    (h : aE X o Γ M fun d M0 => ObM M0 C d m ∧ aKw X kws Γ M0 fun zs M2 => zs.length = ks.length ∧ sx [d] zs M2 P)
    (hall : (backToKw pos (keywordEach kws X.env)).all (·.1.isSome) = true := by rfl) (hks : (backToKw pos (keywordEach kws X.env)).filterMap (·.1) = ks := by rfl)
    (hpl : ((backTo pos (starEach [] X.env)).any (·.1) || (backToKw pos (keywordEach kws X.env)).any (·.1.isNone)) = false := by rfl)
    (ht : eval (.Call (.Attribute o m apos) [] kws pos) X.env = (do
      let ov ← eval o X.env
      standAt apos.atName
      let (f, first) ← holding [ov] (getMethod ov m pl)
      callWith pos f first (backTo pos (starEach [] X.env)) (backToKw pos (keywordEach kws X.env))) := by rfl) : aE X (.Call (.Attribute o m apos) [] kws pos) Γ M P := fun Hi H σ ok en Q q => by
  refine ⟨fun σ H Q => WE X o σ H fun x H0 => ∃ a dx fs, x = .ref a ∧ H0 a = some (.ins C dx fs) ∧ fs.lookup m = none ∧ WK X kws σ H0 fun zs H2 => zs.length = ks.length ∧ spX X.K sx [x] zs H2 Q, ⟨fun pins s σ H Q I h => ?_⟩, ?_⟩
  · refine PySem.W.methodCall_KW (pl := pl) (thn (pe_we.run pins s σ H _ I h) fun u s1 ⟨x, H1, I1, rx, a, dx, fs, ex, ea, l, q⟩ => ?_) ht
    subst ex
    obtain rfl : u = Value.ref a := rx
    refine getmeth_ok I1 ea c hm l ?_
    refine PySem.W.callWith_KW0 (first := [.ref a]) (h₀ := X.base) I.ok.mod.kin hm.kp hall ?_ hpl
    refine thn (pk_wk.run pos pins s1 σ H1 _ I1 q) fun ws s3 ⟨zs, H3, I3, rz, l2, q3⟩ => ⟨I3.kIn, ?_⟩
    rw [hks]
    exact run_x (us := [.ref a]) (vs := [.ref a]) F hr I3 (.cons rfl .nil) rz l2 q3
  · refine h Hi H σ ok en _ fun x M0 v0 Hi0 H0 h0 s0 ok0 r0 => ?_
    obtain ⟨hob, h0⟩ := h0
    obtain ⟨p, dx, gs, rfl, hp, hn⟩ := hob _ _ _ _ ok0 r0
    refine ⟨p, dx, gs, rfl, hp, hn, ?_⟩
    refine h0 Hi0 H0 σ ok0 (en.mono s0) _ fun zs M2 ws Hi2 H2 h2 s2 ok2 r2 => ?_
    exact ⟨r2.length.symm.trans h2.1, Hi2, M2, [_], zs, P, .cons (r0.mono s2) .nil, r2, ok2, h2.2, q.up (s0.trans s2)⟩
/-- o.m(), o.m(e), o.m(e, b), o.m(k = e), by a promise that hides the address -/
theorem ae_m0 {n q : Nat} {s : ASp} {pl : Sem Bool} (c : Cls X.K C) (F : ∃ f, Meth X.K C m f ∧ FX X.prog X.w X.K X.mg X.base n f fun ds _ => s ds) (hr : Rm q X.A) (hq : n ≤ q) (h : aE X o Γ M fun d M0 => ObM M0 C d m ∧ s [d] M0 P)
    (ht : eval (.Call (.Attribute o m apos) [] [] pos) X.env = (do
      let ov ← eval o X.env
      standAt apos.atName
      let (f, first) ← holding [ov] (getMethod ov m pl)
      callWith pos f first (backTo pos (starEach [] X.env)) (backToKw pos (keywordEach [] X.env))) := by rfl) : aE X (.Call (.Attribute o m apos) [] [] pos) Γ M P := by
  obtain ⟨f, mt, F⟩ := F
  exact ae_methG0 c mt F (hr.mono hq) (h.mono fun d M0 ⟨h1, h2⟩ => ⟨h1, ak_nil ⟨rfl, h2⟩⟩) rfl rfl rfl ht
theorem ae_m1 {n q : Nat} {s : ASp} {pl : Sem Bool} (c : Cls X.K C) (F : ∃ f, Meth X.K C m f ∧ FX X.prog X.w X.K X.mg X.base n f fun ds _ => s ds) (hr : Rm q X.A) (hq : n ≤ q) (h : aE X o Γ M fun d M0 => ObM M0 C d m ∧ aE X e Γ M0 fun x M1 => s [d, x] M1 P)
    (hst : starEach [e] X.env = (false, eval e X.env) :: starEach [] X.env := by rfl)
    (ht : eval (.Call (.Attribute o m apos) [e] [] pos) X.env = (do
      let ov ← eval o X.env
      standAt apos.atName
      let (f, first) ← holding [ov] (getMethod ov m pl)
      callWith pos f first (backTo pos (starEach [e] X.env)) (backToKw pos (keywordEach [] X.env))) := by rfl) : aE X (.Call (.Attribute o m apos) [e] [] pos) Γ M P := by
  obtain ⟨f, mt, F⟩ := F
  exact ae_methG c mt F (hr.mono hq) (h.mono fun d M0 ⟨h1, h2⟩ => ⟨h1, aa_cons (h2.mono fun x M1 hx => aa_nil (ak_nil ⟨rfl, hx⟩)) hst⟩) rfl rfl hst (by rw [hst]; rfl) ht
theorem ae_m2 {n q : Nat} {s : ASp} {pl : Sem Bool} (c : Cls X.K C) (F : ∃ f, Meth X.K C m f ∧ FX X.prog X.w X.K X.mg X.base n f fun ds _ => s ds) (hr : Rm q X.A) (hq : n ≤ q) (h : aE X o Γ M fun d M0 => ObM M0 C d m ∧ aE X e Γ M0 fun x M1 => aE X b Γ M1 fun y M2 => s [d, x, y] M2 P)
    (hst : starEach [e, b] X.env = (false, eval e X.env) :: starEach [b] X.env := by rfl) (hst2 : starEach [b] X.env = (false, eval b X.env) :: starEach [] X.env := by rfl)
    (ht : eval (.Call (.Attribute o m apos) [e, b] [] pos) X.env = (do
      let ov ← eval o X.env
      standAt apos.atName
      let (f, first) ← holding [ov] (getMethod ov m pl)
      callWith pos f first (backTo pos (starEach [e, b] X.env)) (backToKw pos (keywordEach [] X.env))) := by rfl) : aE X (.Call (.Attribute o m apos) [e, b] [] pos) Γ M P := by
  obtain ⟨f, mt, F⟩ := F
  exact ae_methG c mt F (hr.mono hq) (h.mono fun d M0 ⟨h1, h2⟩ => ⟨h1, aa_cons (h2.mono fun x M1 hx => aa_cons (hx.mono fun y M2 hy => aa_nil (ak_nil ⟨rfl, hy⟩)) hst2) hst⟩) rfl rfl hst (by rw [hst, hst2]; rfl) ht
theorem ae_mK {n q : Nat} {s : ASp} {kw : Str} {pl : Sem Bool} (c : Cls X.K C) (F : ∃ f, Meth X.K C m f ∧ FnX X.prog X.w X.K X.mg X.base n f [kw] (spX X.K fun ds es M R => ds.length = 1 ∧ s (ds ++ es) M R)) (hr : Rm q X.A) (hq : n ≤ q) (h : aE X o Γ M fun d M0 => ObM M0 C d m ∧ aE X e Γ M0 fun x M1 => s [d, x] M1 P)
    (ht : eval (.Call (.Attribute o m apos) [] [⟨some kw, e, kpos⟩] pos) X.env = (do
      let ov ← eval o X.env
      standAt apos.atName
      let (f, first) ← holding [ov] (getMethod ov m pl)
      callWith pos f first (backTo pos (starEach [] X.env)) (backToKw pos (keywordEach [⟨some kw, e, kpos⟩] X.env))) := by rfl) : aE X (.Call (.Attribute o m apos) [] [⟨some kw, e, kpos⟩] pos) Γ M P := by
  obtain ⟨f, mt, F⟩ := F
  exact ae_methG0 c mt F (hr.mono hq) (h.mono fun d M0 ⟨h1, h2⟩ => ⟨h1, ak_cons (h2.mono fun x M1 hx => ak_nil ⟨rfl, rfl, hx⟩)⟩) rfl rfl rfl ht
/-- max(a, b), min(a, b), their parts changing cells -/
theorem ae_maxM (hm : X.mg "max" = none) (hc : X.calm = true) (h : aE X a Γ M fun x M1 => aE X b Γ M1 fun y M2 => ∃ i j, x = .int i ∧ y = .int j ∧ P (.int (max i j)) M2) (hg : Gl X "max" := by rfl)
    (hs : starEach [a, b] X.env = (false, eval a X.env) :: starEach [b] X.env := by rfl) (hs2 : starEach [b] X.env = (false, eval b X.env) :: starEach [] X.env := by rfl) (hpl : (backTo pos (starEach [b] X.env)).any (·.1) = false := by rfl) : aE X (.Call (.Name "max" p1) [a, b] [] pos) Γ M P := by
  refine ae_callB (call_max2 hc) hm boot_max (aa_cons (h.mono fun x M1 h1 => aa_cons (h1.mono fun y M2 h2 => aa_nil ?_) hs2) hs) hg (he := hs) (hpl := hpl)
  obtain ⟨i, j, rfl, rfl, hp⟩ := h2
  intro Hi H vs ok r Q q
  cases r with
  | cons r1 r =>
    cases r with
    | cons r2 r =>
      cases r
      cases r1
      cases r2
      refine ⟨i, j, rfl, q _ _ _ Hi H hp (Same.refl _) ok ?_⟩
      have : (if j > i then j else i) = max i j := by split <;> omega
      rw [this]
      exact .int _
end
end Ab

/-! two keywords in the other order -/
namespace Ab
open PySem PySem.Spec PyProof.Rows L2
def swp {α : Type} : List α → List α
  | [a, b] => [b, a]
  | xs => xs
theorem vals_swp : ∀ {xs : List V} {us : List Value}, Vals xs us → Vals (swp xs) (swp us)
  | _, _, .nil => .nil
  | _, _, .cons h .nil => .cons h .nil
  | _, _, .cons h1 (.cons h2 .nil) => .cons h2 (.cons h1 .nil)
  | _, _, .cons h1 (.cons h2 (.cons h3 r)) => .cons h1 (.cons h2 (.cons h3 r))
theorem repa_swp {K : PySem.W.Frag} {H : Hp} : ∀ {xs : List Val} {us : List V}, RepA K H xs us → RepA K H (swp xs) (swp us)
  | _, _, .nil => .nil
  | _, _, .cons h .nil => .cons h .nil
  | _, _, .cons h1 (.cons h2 .nil) => .cons h2 (.cons h1 .nil)
  | _, _, .cons h1 (.cons h2 (.cons h3 r)) => .cons h1 (.cons h2 (.cons h3 r))
section
variable {P : Program} {w : World} {K : PySem.W.Frag} {mg : Str → Option Value} {base : Heap} {x qual : Str} {f : Addr} {fd : FuncData}
theorem fnx_kwS {params : Arguments} {body : List Stmt} {sc : Scope} {kws : List (Str × V)} {N ps ks : List Str} {k n : Nat} {s0 : ASp} (F : FunD K x qual params body sc [] kws f fd) (S : FnScope N ps sc)
    (h : ∀ (kV doc pm : Value) (an : Option Addr) (cdv ct : Value) (us ws : List Value), us.length = n → ws.length = ks.length → bindArgs (PySem.W.fnOf x qual params body sc .none kV doc pm an cdv ct) ⟨us, ks.zip ws⟩ = pure (ps.zip (us ++ swp ws)))
    (len : ∀ ds M R, s0 ds M R → ds.length = ps.length) (hb : BodyOk P w K mg base k f N qual sc body s0) : FnX P w K mg base (k + 1) f ks (spX K fun ds es M R => ds.length = n ∧ s0 (ds ++ swp es) M R) := by
  refine fnx_kbn (n := n) (g := fun us ws => us ++ swp ws) (gV := fun us ws => us ++ swp ws) (fun ds es => ds ++ swp es) F S ?_ (fun H ds vs es zs r1 r2 _ _ => r1.append (repa_swp r2)) len hb
  obtain ⟨oc, od, dV, kV, doc, pm, an, cdv, ct, osl, rfl, lk, hcd, hD, _⟩ := F.ex
  obtain ⟨_, rfl⟩ : ([] : List V) = [] ∧ dV = .none := by
    rcases hD with h | ⟨e, _⟩
    · exact h
    · exact absurd rfl e
  exact ⟨fun s us ws _ h1 h2 => .of_eq (h kV doc pm an cdv ct us ws h1 h2), fun r1 r2 => r1.append (vals_swp r2)⟩
end
end Ab

/-! list.extend -/
namespace Ab
open PySem PySem.Spec PyProof.Rows L2
section
variable {X : Cx} {Γ : Gam} {M : Mem} {a e : Expr} {pos apos : Pos} {P : Val → Mem → Prop}
theorem ae_extend {n0 : Nat} {p : Addr} {xs0 : List Val} (ha : aV X a Γ M (.ptr p)) (hm0 : M[n0]? = some (p, .lst xs0)) (he : aE X e Γ M fun y M2 => ∃ (n n2 : Nat) (q : Addr) (xs ys : List Val), y = .ptr q ∧ M2[n]? = some (p, Cell.lst xs) ∧ M2[n2]? = some (q, Cell.lst ys) ∧ xs.length + ys.length ≤ sizeLine ∧ P .non (M2.set n (p, .lst (xs ++ ys))))
    (hbase : attributeBase a "extend" X.env (eval a X.env) = eval a X.env := by rfl)
    (hfew : ((backTo pos (starEach [e] X.env)).all (fun x => !x.1) && (backToKw pos (keywordEach [] X.env)).all (fun x => x.1.isSome)
      && decide (([e] : List Expr).length + ([] : List Keyword).length + (if ([] : List Keyword).isEmpty then 0 else 1) < 30)) = true := by rfl)
    (hline : (apos.endLine == pos.line) = true := by rfl) (hs : starEach [e] X.env = (false, eval e X.env) :: starEach [] X.env := by rfl) : aE X (.Call (.Attribute a "extend" apos) [e] [] pos) Γ M P := fun Hi H σ ok en Q q => by
  refine ⟨_, pe_bm PySem.F.plainAttrs_list PySem.F.slot_list_extend PySem.F.type_list_extend mt_extend pe_we (pa_cons pe_we pa_nil hs) hbase hfew hline hs rfl, ?_⟩
  refine ha Hi H σ ok en _ fun d M1 v Hi1 H1 h1 s1 ok1 r1 => ?_
  obtain ⟨rfl, rfl⟩ := h1
  cases r1
  obtain ⟨_, o, ho, ys, rfl, ra⟩ := ok1.get hm0
  refine ⟨.inl ⟨rfl, _, SqL.of ho⟩, ?_⟩
  refine he Hi1 H1 σ ok1 (en.mono s1) _ fun y M2 w Hi2 H2 h2 s2 ok2 r2 => ?_
  obtain ⟨n, n2, q2, xs, ys, rfl, hm, hm2, hl, hp⟩ := h2
  obtain ⟨_, o, ho2, zs, rfl, rz⟩ := ok2.get hm
  obtain ⟨_, o, ho3, zs2, rfl, rz2⟩ := ok2.get hm2
  cases r2
  exact ⟨p, q2, zs, zs2, rfl, rfl, ho2, ho3, by rw [← rz.length, ← rz2.length]; exact hl, q _ _ _ Hi2 _ hp (s1.trans s2) (ok2.set hm ⟨_, rfl, rz.append rz2⟩) .non⟩
end
end Ab

/-! Ab35: statements that end in more than one way are joined; boxes are weakened. -/
namespace Ab
open PySem PySem.Spec PyProof.Rows L2
section
variable {X : Cx} {Γ Γ1 : Gam} {M : Mem} {k : AK} {st : Stmt} {sts : List Stmt} {p : Addr} {φ φ' : Mem0 → Prop}
theorem aS.mono {k' : AK} (h : aS X st Γ M k) (f1 : ∀ Γ M, k.nx Γ M → k'.nx Γ M) (f2 : ∀ d M, k.rt d M → k'.rt d M) (f3 : ∀ Γ M, k.bk Γ M → k'.bk Γ M) (f4 : ∀ Γ M, k.ct Γ M → k'.ct Γ M) : aS X st Γ M k' := fun Hi H σ ok en D q =>
  h Hi H σ ok en D ⟨fun Γ M σ Hi' H' p => q.nx Γ M σ Hi' H' (f1 Γ M p), fun d M v Hi' H' p => q.rt d M v Hi' H' (f2 d M p), fun Γ M σ Hi' H' p => q.bk Γ M σ Hi' H' (f3 Γ M p), fun Γ M σ Hi' H' p => q.ct Γ M σ Hi' H' (f4 Γ M p)⟩
/-- behind the statement J holds, whichever way it went -/
theorem as_consJ (J : Gam → Mem → Prop) (h : aS X st Γ M { k with nx := J }) (h2 : ∀ Γ' M', J Γ' M' → aSs X sts Γ' M' k) : aSs X (st :: sts) Γ M k :=
  as_cons (h.mono (fun Γ M p => h2 Γ M p) (fun _ _ p => p) (fun _ _ p => p) (fun _ _ p => p))
theorem as_box (hφ : ∀ B, φ B → φ' B) (h : aSs X sts Γ ((p, .box φ') :: M) k) : aSs X sts Γ ((p, .box φ) :: M) k :=
  as_tr (fun K Hi H ok => by
    obtain ⟨B, h1, h2, ok'⟩ := ok.opn (i := 0) rfl
    exact ok'.cls (hφ B h1) h2) h
end
end Ab

/-! Ab36: own exception classes over any built-in base: made by an own __init__ that calls the base's and stores fields. -/
namespace Ab
open PySem PySem.Spec PyProof.Rows L2
structure XCl (K : PySem.W.Frag) (C : Addr) (B newId initId : String) (tl : List Value) : Prop where
  fb : ExcBaseFacts B newId initId tl
  sf : StoreFacts B tl "object.__setattr__" "object"
  ini : PySem.W.excInitIn K C tl newId = true
  ovr : PySem.W.excOver K C tl = true
  hd : PySem.W.hasDictIn K C = true
  sa : PySem.W.findIn K (.ref C) "__setattr__" = some (some (.builtin "object.__setattr__"))
  exC : PySem.W.subIn K (.ref C) (.type "BaseException") = some true
  tyC : PySem.W.typeIn K (.ref C) = some (.type "type")
  kC : PySem.W.keepIn K (.ref C) = true
section
open Builtin.ObjectAttr
variable {prog : Program} {w : World} {A : Around} {E : Value → Shared → Prop} {R : Result → Shared → Prop} {hp : Heap} {g : Array GenState} {d : Drawn} {t : Nat} {os : OsState}
variable {K : PySem.W.Frag} {C : Addr} {B newId initId : String} {tl : List Value}
theorem XCl.cd (T : XCl K C B newId initId tl) : ∃ cd, PySem.W.clsIn K C = some cd ∧ cd.hasDict = true := by
  have h0 := T.hd
  unfold PySem.W.hasDictIn at h0
  cases e : PySem.W.clsIn K C with
  | none => simp [e] at h0
  | some c0 => exact ⟨c0, rfl, by simpa [e] using h0⟩
/-- the first field -/
theorem xo_new {nm : Str} {tk : Tok} {v : Value} {x : Addr} {fv : Array Value} (T : XCl K C B newId initId tl) (KX : K.In hp) (hx : hp.get? x = some { cls := .ref C, data := .fields fv }) (ha : PySem.W.findIn K (.ref C) nm = some none)
    (hq : ∀ h' tk' dx, (∀ b o, b ≠ x → hp.get? b = some o → h'.get? b = some o) → hp.objs.size ≤ dx → dx ≠ x → h'.get? x = some { cls := .ref C, dict := some dx, data := .fields fv } → h'.Ns1 dx (fun y => if y = nm then some v else none) → R (.ok (.ret .none)) ⟨h', g, d, tk', os⟩) :
    codeAny (model prog w) A (.call (.builtin "object.__setattr__") ⟨[.ref x, .str nm tk, v], []⟩) R ⟨hp, g, d, t, os⟩ := by
  obtain ⟨cd, hcd, hdd⟩ := T.cd
  have hxs : x ≠ hp.objs.size := Nat.ne_of_lt (Heap.lt_size hx)
  have Lc : PySem.W.Looks (model prog w) hp (classData C) cd := PySem.W.looks_clsIn KX hcd
  refine PySem.W.osa_openX (od := none) T.sf KX (⟨hx, rfl, rfl, trivial⟩ : PySem.W.InstAt hp x { cls := .ref C, data := .fields fv } C none) T.ovr (r := none) (by unfold PySem.W.takerIn; rw [ha]; rfl) fun b0 => ?_
  show wpAny _ _ (storeInOwnDict (.ref x) (.ref C) (.str nm tk) nm v b0) _ _ _
  obtain ⟨n0, b1, b2, b3, b4, b5, b6, b7, b8, b9, b10⟩ := cd
  dsimp only at hdd
  subst hdd
  unfold storeInOwnDict ownDictForStores
  repeat (first | with_reducible refine PySem.HandSPX.store_in_new ?_ ?_ | with_reducible refine wpAny_loadPart_at hx ?_ | with_reducible refine Lc.at ?_ | wp_step)
  · exact ⟨_, #[], _, (Heap.get?_update_ne _ _ _ _ hxs.symm).trans (Heap.get?_push_at rfl rfl), rfl, fun z1 z2 => absurd z2 (by simp), fun _ => rfl⟩
  · intro h' tk' hn' hs
    have hx1 : (hp.push { cls := .type "dict", data := .dict #[] }).get? x = some { cls := .ref C, data := .fields fv } := Heap.get?_push_of_some _ hx
    refine hq h' tk' hp.objs.size (fun b1 o1 z1 z2 => ?_) (Nat.le_refl _) hxs.symm ?_ hn'
    · exact (hs.2 b1 (Nat.ne_of_lt (Heap.lt_size z2))).trans ((Heap.get?_update_ne _ _ _ _ z1).trans (Heap.get?_push_of_some _ z2))
    · exact (hs.2 x hxs).trans (Heap.get?_update_self _ hx1 rfl)
/-- a further field -/
theorem xo_old {nm : Str} {tk : Tok} {v : Value} {x dx : Addr} {fv : Array Value} {m0 : Str → Option Value} {nl : List Str} (T : XCl K C B newId initId tl) (KX : K.In hp) (hx : hp.get? x = some { cls := .ref C, dict := some dx, data := .fields fv }) (hns : hp.Ns1 dx m0) (hw : Within m0 nl) (hz : nl.length ≤ 1000) (ha : PySem.W.findIn K (.ref C) nm = some none)
    (hq : ∀ h' tk', (∀ b o, b ≠ dx → hp.get? b = some o → h'.get? b = some o) → h'.Ns1 dx (fun y => if y = nm then some v else m0 y) → R (.ok (.ret .none)) ⟨h', g, d, tk', os⟩) :
    codeAny (model prog w) A (.call (.builtin "object.__setattr__") ⟨[.ref x, .str nm tk, v], []⟩) R ⟨hp, g, d, t, os⟩ := by
  obtain ⟨cd, hcd, hdd⟩ := T.cd
  obtain ⟨o2, _, _, ho2, _, _⟩ := hns.count hw
  have Lc : PySem.W.Looks (model prog w) hp (classData C) cd := PySem.W.looks_clsIn KX hcd
  refine PySem.W.osa_openX (od := some o2) T.sf KX (⟨hx, rfl, rfl, ho2⟩ : PySem.W.InstAt hp x { cls := .ref C, dict := some dx, data := .fields fv } C (some o2)) T.ovr (r := none) (by unfold PySem.W.takerIn; rw [ha]; rfl) fun b0 => ?_
  show wpAny _ _ (storeInOwnDict (.ref x) (.ref C) (.str nm tk) nm v b0) _ _ _
  obtain ⟨n0, b1, b2, b3, b4, b5, b6, b7, b8, b9, b10⟩ := cd
  dsimp only at hdd
  subst hdd
  unfold storeInOwnDict ownDictForStores
  repeat (first | with_reducible refine PySem.OEX.store_in_old hns hw hz ?_ | with_reducible refine wpAny_loadPart_at hx ?_ | with_reducible refine Lc.at ?_ | wp_step)
  intro h' tk' hn' hs
  exact hq h' tk' (fun b1 o1 z1 z2 => (hs.2 b1 z1).trans z2) hn'
end
section
variable {X : Cx} {pins : List (Addr × Obj)} {σ : L2.St} {H : Hp} {s : Shared} {a C dx : Addr} {f : Str} {y : V} {u : Value} {fs : List (Str × V)} {E : Value → Shared → Prop} {A : Around} {B newId initId : String} {tl : List Value}
/-- Base.__init__(self, ..): nothing of it is told -/
theorem x_init {us : List Value} {Q : Value → Shared → Prop} (T : XCl X.K C B newId initId tl) (I : Inv X pins σ H s) (e : H a = some (exo a C none)) (hl : us.length ≤ sizeLine) (h : ∀ s', Inv X pins σ H s' → Q .none s') :
    wpAny (model X.prog X.w) A (call (.builtin initId) (.ref a :: us)) Q E s := by
  obtain ⟨t1, w1⟩ := exo_at I.hok e
  obtain ⟨n1, n2, n3, n4, bm, n5, n6, n7, n8, n9, n10, n11, n12, n13, n14, n15, hC, hT⟩ := PySem.W.excInit_of I.kIn T.ini
  obtain ⟨hp, g, d, t, os⟩ := s
  refine wpAny_call (PySem.HandSPX.init_base T.fb hT hC w1 hl fun h' t2 k1 w2 => ?_)
  have J := Inv.write (t' := t) (x := a) (o := exo a C none) I (by rw [e]; exact True.intro) (.inl rfl) k1 ⟨_, w2⟩ (exo_ok w2)
  rw [show upd H a (exo a C none) = H from funext fun b => by
    by_cases hb : b = a
    · subst hb; rw [upd_same, e]
    · exact upd_ne hb] at J
  exact h _ J
/-- self.f = y, the first field -/
theorem x_new {Q : Unit → Shared → Prop} (T : XCl X.K C B newId initId tl) (I : Inv X pins σ H s) (e : H a = some (exo a C none)) (hno : PySem.W.findIn X.K (.ref C) f = some none) (ry : RelV y u)
    (h : ∀ dx s', H dx = none → dx ≠ a → Inv X pins σ (upd (upd H dx (exd dx [(f, y)])) a (exo a C (some dx))) s' → Q () s') : wpAny (model X.prog X.w) A (setAttr (.ref a) f u) Q E s := by
  obtain ⟨t1, w1⟩ := exo_at I.hok e
  obtain ⟨hp, g, d, t, os⟩ := s
  refine PySem.W.set_plain I.kIn (od := none) (ox := { cls := .ref C, dict := none, data := .fields #[.ref t1, .none, .none, .none, .bool false, .none] }) ⟨w1, rfl, rfl, trivial⟩ T.sa ?_
  refine xo_new T I.kIn w1 hno (fun h' tk' dx k1 dn dne w2 hn => ?_)
  have hnd : H dx = none := I.hok.fresh dn
  have nd : ∀ {b : Addr} {o : Obj}, hp.get? b = some o → b ≠ dx := fun {b o} z => Nat.ne_of_lt (Nat.lt_of_lt_of_le (Heap.lt_size z) dn)
  have na : ∀ {b : Addr}, H b = none → b ≠ a := fun {b} z1 z2 => by
    subst z2
    rw [e] at z1
    cases z1
  refine h dx _ hnd dne (I.un (t' := tk') ⟨fun b o z z2 _ _ => k1 b o (na z2) z, fun b o z z2 _ _ => ⟨o.slots, k1 b o (na z2) z⟩, fun b o z z2 _ => by rw [upd_ne (na z2), upd_ne (nd z)]; exact z2, fun b o z _ => ?_, fun b xs z => ?_, fun b o v z => ?_, fun b ps z => ?_⟩ fun b o z => ?_)
  · by_cases hb : b = a
    · subst hb
      exact ⟨_, w2⟩
    · exact ⟨o, k1 b o hb z⟩
  · rw [upd_ne (at_ne e z exo_tup), upd_ne (ne_of_none z hnd)]
    exact z
  · rw [upd_ne (at_ne e z exo_frz), upd_ne (ne_of_none z hnd)]
    exact z
  · refine ⟨#[], ?_⟩
    rw [upd_ne (at_ne e z exo_tbl), upd_ne (ne_of_none z hnd), z]
    simp
  · by_cases hb : b = a
    · subst hb
      rw [upd_same] at z
      cases z
      exact exo_ok w2
    · rw [upd_ne hb] at z
      by_cases hd : b = dx
      · subst hd
        rw [upd_same] at z
        cases z
        exact exd_ok hn (relO_put (fs := []) ry fun _ => True.intro)
      · rw [upd_ne hd] at z
        refine (I.hok b o z).stay (fun c v hc z2 => k1 c v ?_ z2) (fun c hc => ?_) (fun c xs hc => ?_)
        · rcases hc with z3 | z3
          · rw [z3]; exact hb
          · exact at_ne e z3 exo_own
        · rw [upd_ne (at_ne e hc exo_own), upd_ne (ne_of_none hc hnd)]
          exact hc
        · rw [upd_ne (at_ne e hc exo_tup), upd_ne (ne_of_none hc hnd)]
          exact hc
/-- self.f = y, a further field -/
theorem x_old {Q : Unit → Shared → Prop} (T : XCl X.K C B newId initId tl) (I : Inv X pins σ H s) (e : H a = some (exo a C (some dx))) (ed : H dx = some (exd dx fs)) (hl : fs.length ≤ 900) (hno : PySem.W.findIn X.K (.ref C) f = some none) (ry : RelV y u)
    (h : ∀ s', Inv X pins σ (upd H dx (exd dx ((f, y) :: fs))) s' → Q () s') : wpAny (model X.prog X.w) A (setAttr (.ref a) f u) Q E s := by
  obtain ⟨t1, w1⟩ := exo_at I.hok e
  obtain ⟨mA, hns, rel⟩ := exd_at I.hok ed
  obtain ⟨o2, _, _, ho2, _, _⟩ := hns.count (within_of rel)
  obtain ⟨hp, g, d, t, os⟩ := s
  refine PySem.W.set_plain I.kIn (od := some o2) (ox := { cls := .ref C, dict := some dx, data := .fields #[.ref t1, .none, .none, .none, .bool false, .none] }) ⟨w1, rfl, rfl, ho2⟩ T.sa ?_
  refine xo_old T I.kIn w1 hns (within_of rel) (by rw [List.length_map]; omega) hno (fun h' tk' k1 hn => ?_)
  refine h _ (Inv.write (t' := tk') (x := dx) (e := dx) (o := exd dx ((f, y) :: fs)) I (by rw [ed]; exact True.intro) (.inl rfl) k1 ?_ (exd_ok hn (relO_put ry rel)))
  obtain ⟨o3, _, _, w3, _⟩ := hn
  exact ⟨o3, w3⟩
end
end Ab

/-! Ab37: the __init__ of an own exception class; C(..) makes an exception. -/
namespace Ab
open PySem PySem.Spec PyProof.Rows L2
section
variable {X : Cx} {B newId initId : String} {tl : List Value} {o e : Expr} {es : List Expr} {to te : TE} {ta : TA} {f : Str} {p p' p1 p2 pos : Pos}
/-- Base.__init__(self, ..), Base an own class -/
theorem px_init {C0 : Addr} {xb : Str} {pl : Sem Bool} (hh : PySem.W.handedIn (.builtin initId) = true) (r : ClX.CRead X.K C0 (.type "type")) (fv : PySem.W.findCls X.K (.ref C0) (.type "type") "__init__" = some (.val (.builtin initId))) (hg : Gl X xb) (hm : X.mg xb = some (.ref C0)) (ha : PA X (e :: es) ta)
    (hc : eval (.Call (.Attribute (.Name xb p1) "__init__" p2) (e :: es) [] pos) X.env = (do
      let v0 ← eval (.Name xb p1) X.env
      standAt p2.atName
      let (f0, first) ← holding [v0] (getMethod v0 "__init__" pl)
      callWith pos f0 first (backTo pos (starEach (e :: es) X.env)) (backToKw pos (keywordEach [] X.env))) := by rfl)
    (he : starEach (e :: es) X.env = (false, eval e X.env) :: starEach es X.env := by rfl) (hpl : (backTo pos (starEach es X.env)).any (·.1) = false := by rfl) (hdb : (xb == ("__debug__" : Str)) = false := by decide) :
    PE X (.Call (.Attribute (.Name xb p1) "__init__" p2) (e :: es) [] pos) (fun σ H Q => ta σ H fun vs H1 => ∃ (a C : Addr) (ws : List V), vs = .ref a :: ws ∧ ws.length ≤ 1000 ∧ XCl X.K C B newId initId tl ∧ H1 a = some (exo a C none) ∧ Q .non H1) := by
  refine ⟨fun pins s σ H Q I h => PySem.W.methodCall_KW (pl := pl) (ld_glob I hg hm ?_ hdb) hc⟩
  refine PySem.W.method_cls I.kIn r.ga (PySem.W.cls_value I.kIn r.rd fv hh ?_)
  show wpAny _ _ (callWith pos (Value.builtin initId) [] (backTo pos (starEach (e :: es) X.env)) []) _ _ _
  refine PyProof.Rows.callWith_method1 (thn (ha.run pos pins _ σ H _ (I.tok _) h) fun us s1 ⟨vs, H1, I1, r1, a, C, ws, ev, hl, T, ea, q⟩ => ?_) he hpl
  subst ev
  cases r1 with
  | @cons _ u0 _ ur ra rr =>
    obtain rfl : u0 = Value.ref a := ra
    exact x_init T I1 ea (by rw [← Paired.length rr, sizeLine_eq]; omega) fun s' J => ⟨.non, H1, J, rfl, q⟩
/-- self.f = e -/
theorem qx_set (ho : PE X o to) (he : PE X e te) (hs : swapsWith e (some (.Attribute o f p')) pos.line X.env = pure false := by rfl) :
    PS X (.Assign [.Attribute o f p'] e pos) (fun D σ H => te σ H fun y H1 => to σ H1 fun x H2 => ∃ a C : Addr, x = .ref a ∧ XCl X.K C B newId initId tl ∧ PySem.W.findIn X.K (.ref C) f = some none ∧
      ((H2 a = some (exo a C none) ∧ ∀ dx, H2 dx = none → dx ≠ a → D.nx σ (upd (upd H2 dx (exd dx [(f, y)])) a (exo a C (some dx)))) ∨
        ∃ (dx : Addr) (fs : List (Str × V)), H2 a = some (exo a C (some dx)) ∧ H2 dx = some (exd dx fs) ∧ fs.length ≤ 900 ∧ D.nx σ (upd H2 dx (exd dx ((f, y) :: fs))))) := by
  refine ⟨fun pins s σ H D I h => plainObj_wpAny_Assign_Attribute (thn (he.run pins s σ H _ I h) fun v s1 ⟨y, H1, I1, r1, q1⟩ => thn (ho.run pins s1 σ H1 _ I1 q1) fun u s2 ⟨x, H2, I2, r2, a, C, ex, T, hno, q⟩ => ?_) hs⟩
  subst ex
  obtain rfl : u = Value.ref a := r2
  rcases q with ⟨ea, q⟩ | ⟨dx, fs, ea, ed, hl, q⟩
  · exact x_new T I2 ea hno r1 fun dx s' n1 n2 J => ⟨σ, _, J, q dx n1 n2⟩
  · exact x_old T I2 ea ed hl hno r1 fun s' J => ⟨σ, _, J, q⟩
end
/-! ### a def told by readings -/
section
variable {P : Program} {w : World} {K : PySem.W.Frag} {mg : Str → Option Value} {base : Heap} {x qual : Str} {f : Addr} {fd : FuncData}
theorem fnx_raw {params : Arguments} {body : List Stmt} {sc : Scope} {kws : List (Str × V)} {N ps : List Str} {k : Nat} {sp : List V → Hp → VK → Prop} (F : FunD K x qual params body sc [] kws f fd) (S : FnScope N ps sc)
    (h : ∀ (kV doc pm : Value) (an : Option Addr) (cdv ct : Value) (us : List Value), us.length = ps.length → bindArgs (PySem.W.fnOf x qual params body sc .none kV doc pm an cdv ct) ⟨us, []⟩ = pure (ps.zip us))
    (hb : ∀ cdv A outer s H, Rm k (A.deeper (envOfC qual sc s.heap.objs.size f cdv)) → Mod K mg base → ∀ vs Q, sp vs H Q → ∃ t, PSs (cxOf CX0 P w K mg base N qual sc f cdv A outer s H E0) body t ∧ t { nx := fun _ H' => Q .non H', rt := Q } (L2.start N vs) H) :
    FnX P w K mg base (k + 1) f [] fun vs _ H Q => vs.length = ps.length ∧ sp vs H Q := by
  refine ⟨fun A outer s H us ws vs zs Q hr e0 r rz hz ⟨hl, hs⟩ => ?_⟩
  obtain ⟨oc, od, dV, kV, doc, pm, an, cdv, ct, osl, rfl, lk, hcd, hD, _⟩ := F.ex
  obtain ⟨_, rfl⟩ : ([] : List V) = [] ∧ dV = .none := by
    rcases hD with h | ⟨e, _⟩
    · exact h
    · exact absurd rfl e
  obtain rfl : ws = [] := by
    have : zs = [] := List.length_eq_zero_iff.mp hz
    subst this
    cases rz
    rfl
  refine StX.run_bnd (CX := CX0) (E := E0) (G := fun vs' H2 => vs' = vs ∧ H2 = H) lk hcd S hr.room e0 (fun A' Ex Q' h' => ?_) fun s2 H2 vs' hG hr' => ?_
  · exact BindsTo.of_eq (h kV doc pm an cdv ct us (by rw [← r.length]; exact hl)) _ _ _ _ (h' s H vs us e0 Un.refl rfl (fun _ _ z => z) r hl ⟨rfl, rfl⟩)
  · obtain ⟨rfl, rfl⟩ := hG
    exact hb cdv A outer s2 H2 (hr.deeper _) e0.mod vs' Q hs
end
/-! ### C(e, ..) -/
/-- what C(..) wants and gives: fs the fields, the last one first -/
abbrev SpI (C : Addr) (g : List V → List (Str × V)) (n : Nat) : List V → List V → Hp → VK → Prop := fun vs _ H Q => ∃ a ws, vs = .ref a :: ws ∧ ws.length = n ∧ H a = some (exo a C none) ∧ ∀ dx, H dx = none → dx ≠ a → Q .non (upd (upd H dx (exd dx (g ws))) a (exo a C (some dx)))
section
variable {X : Cx} {B newId initId : String} {tl : List Value} {x : Str} {C fI : Addr} {k n : Nat} {g : List V → List (Str × V)} {e : Expr} {es : List Expr} {p pos : Pos}
theorem pmk_x (T : XCl X.K C B newId initId tl) (iC : PySem.W.findIn X.K (.ref C) "__init__" = some (some (.ref fI))) (tI : PySem.W.typeIn X.K (.ref fI) = some (.type "function"))
    (F : FnX X.prog X.w X.K X.mg X.base k fI [] (SpI C g n)) (hr : Rm (k + 1) X.A) (hg : Gl X x) (hm : X.mg x = some (.ref C)) (hn : n ≤ 900)
    (hdb : (x == ("__debug__" : Str)) = false := by decide) (he : starEach (e :: es) X.env = (false, eval e X.env) :: starEach es X.env := by rfl) (hpl : (backTo pos (starEach es X.env)).any (·.1) = false := by rfl) :
    PMk X (.Call (.Name x p) (e :: es) [] pos) (fun σ H Q => WA X (e :: es) σ H fun vs H1 => vs.length = n ∧ ∀ d, H1 d = none → Q (.ref C) (some d) (upd H1 d (.xd (g vs)))) := by
  intro pins s σ H Q I h
  obtain ⟨n1, n2, n3, n4, bm, n5, n6, n7, n8, n9, n10, n11, n12, n13, n14, n15, hC, hT⟩ := PySem.W.excInit_of I.kIn T.ini
  refine wpAny_Call_Name_kw (ld_glob I hg hm ?_ hdb)
  refine PySem.W.callWith_K (h₀ := X.base) I.ok.mod.kin T.kC (thn (pa_wa.run pos pins s σ H _ I h) fun us s1 ⟨vs, H1, I1, r1, hz, q1⟩ => ⟨I1.kIn, ?_⟩) he hpl
  show wpAny _ _ (call (.ref C) us) _ _ _
  obtain ⟨m1, m2, m3, m4, bm', m5, m6, m7, m8, m9, m10, m11, m12, m13, m14, m15, hC1, hT1⟩ := PySem.W.excInit_of I1.kIn T.ini
  obtain ⟨hp, g0, dr, tk, os⟩ := s1
  have hsz : hp.objs.size ≤ hp.objs.size + 1 := Nat.le_succ _
  have hnA : H1 (hp.objs.size + 1) = none := I1.hok.fresh hsz
  have kk : ∀ b u, hp.get? b = some u → ((hp.push (PySem.W.kdv_tup us)).push (PySem.HandSPX.excO C hp.objs.size)).get? b = some u := fun b u z => Heap.get?_push_of_some _ (Heap.get?_push_of_some _ z)
  have hgt : ((hp.push (PySem.W.kdv_tup us)).push (PySem.HandSPX.excO C hp.objs.size)).get? (hp.objs.size + 1) = some (PySem.HandSPX.excO C hp.objs.size) := by heap_get
  have I2 : Inv X pins σ (upd H1 (hp.objs.size + 1) (exo (hp.objs.size + 1) C none)) ⟨(hp.push (PySem.W.kdv_tup us)).push (PySem.HandSPX.excO C hp.objs.size), g0, dr, tk, os⟩ :=
    Inv.laid (t' := tk) I1 kk hsz (exo_ok hgt)
  have r2 : Vals (V.ref (hp.objs.size + 1) :: vs) (Value.ref (hp.objs.size + 1) :: us) := .cons rfl r1
  have hus : us.length ≤ sizeLine := by
    rw [← Paired.length r1, sizeLine_eq, hz]
    omega
  have hq : SpI C g n (V.ref (hp.objs.size + 1) :: vs) [] (upd H1 (hp.objs.size + 1) (exo (hp.objs.size + 1) C none)) (fun v H2 => v = .non ∧ ∃ (d : Addr) (fs : List (Str × V)), H2 (hp.objs.size + 1) = some (exo (hp.objs.size + 1) C (some d)) ∧ H2 d = some (exd d fs) ∧ H1 d = none ∧ Q (.ref C) (some d) (upd (del H2 (hp.objs.size + 1)) d (.xd fs))) := by
    refine ⟨_, vs, rfl, hz, upd_same, fun d hd hda => ⟨rfl, d, g vs, upd_same, ?_, ?_, ?_⟩⟩
    · rw [upd_ne hda, upd_same]
    · rw [upd_ne hda] at hd
      exact hd
    · rw [upd_ne hda] at hd
      have ee : upd (del (upd (upd (upd H1 (hp.objs.size + 1) (exo (hp.objs.size + 1) C none)) d (exd d (g vs))) (hp.objs.size + 1) (exo (hp.objs.size + 1) C (some d))) (hp.objs.size + 1)) d (.xd (g vs)) = upd H1 d (.xd (g vs)) := funext fun b => by
        by_cases h1 : b = d
        · rw [h1, upd_same, upd_same]
        · rw [upd_ne h1, upd_ne h1]
          by_cases h2 : b = hp.objs.size + 1
          · rw [h2, del_same, hnA]
          · rw [del_ne h2, upd_ne h2, upd_ne h1, upd_ne h2]
      rw [ee]
      exact q1 d hd
  refine wpAny_call (PySem.HandSPX.call_own T.fb hT1 hC1 (PySem.W.looks_findIn I1.kIn iC) (fun self => PySem.W.bind_fn I1.kIn self tI) hus
    (codeAny_mono (F.run _ X.stack _ _ (Value.ref (hp.objs.size + 1) :: us) [] _ [] _ (hr.make C us []) (I2.env0.make C us []) r2 .nil rfl hq) fun r s' hq' => ?_))
  cases r with
  | error er => exact False.elim hq'
  | ok fl =>
    cases fl with
    | ret u =>
      obtain ⟨v, H2, os2, bare2, un2, hok2, rv, ev, d, fs, ea, ed, hd1, q2⟩ := hq'
      subst ev
      obtain ⟨h2, g2, d2, t2, os'⟩ := s'
      exact ⟨rv, mk_end (raises_own T.exC T.tyC) I1 hsz kk un2 hok2 os2 bare2 ea ed hd1 q2⟩
    | next => exact False.elim hq'
    | brk => exact False.elim hq'
    | cont => exact False.elim hq'
end
end Ab

/-! Ab38: pieces that may raise: yE, yS, ySs; raise; calls of defs that may raise; the promise of such a def. -/
namespace Ab
open PySem PySem.Spec PyProof.Rows L2
def XRep (K : PySem.W.Frag) (H : Hp) (cls : Value) (d : Option Addr) (C : Addr) (fs : List (Str × Val)) : Prop := cls = .ref C ∧ ((d = none ∧ fs = []) ∨ ∃ dd gs, d = some dd ∧ H dd = some (.xd gs) ∧ RepF K H fs gs)
theorem XRep.mono {K : PySem.W.Frag} {H H' : Hp} {cls : Value} {d : Option Addr} {C : Addr} {fs : List (Str × Val)} (e : Same H H') (h : XRep K H cls d C fs) : XRep K H' cls d C fs := by
  obtain ⟨h1, h2 | ⟨dd, gs, h2, h3, h4⟩⟩ := h
  · exact ⟨h1, .inl h2⟩
  · exact ⟨h1, .inr ⟨dd, gs, h2, e _ _ h3, h4.mono e⟩⟩
/-- an exception's class, fields, the memory -/
abbrev XP := Addr → List (Str × Val) → Mem → Prop
abbrev XG := Gam → XP
def XPost (K : PySem.W.Frag) (Hi : Hp) (PE : XP) (E : XK) : Prop := ∀ C fs M' Hi' H' cls d, PE C fs M' → Same Hi Hi' → Ok K Hi' M' H' → XRep K Hi' cls d C fs → E cls d H'
theorem XPost.up {K : PySem.W.Frag} {Hi Hi1 : Hp} {PE : XP} {E : XK} (h : XPost K Hi PE E) (e : Same Hi Hi1) : XPost K Hi1 PE E := fun C fs M' Hi' H' cls d p s => h C fs M' Hi' H' cls d p (e.trans s)
def XReal (K : PySem.W.Frag) (Hi : Hp) (ex : XG) (W : WX) : Prop := ∀ Γ C fs M' σ Hi' H' cls d, ex Γ C fs M' → Same Hi Hi' → Ok K Hi' M' H' → EnvR K Hi' Γ σ → XRep K Hi' cls d C fs → W cls d σ H'
theorem XReal.up {K : PySem.W.Frag} {Hi Hi1 : Hp} {ex : XG} {W : WX} (h : XReal K Hi ex W) (e : Same Hi Hi1) : XReal K Hi1 ex W := fun Γ C fs M' σ Hi' H' cls d p s => h Γ C fs M' σ Hi' H' cls d p (e.trans s)
theorem XReal.at {K : PySem.W.Frag} {Hi : Hp} {ex : XG} {W : WX} {Γ : Gam} {σ : L2.St} (h : XReal K Hi ex W) (en : EnvR K Hi Γ σ) : XPost K Hi (ex Γ) fun cls d H => W cls d σ H := fun C fs M' Hi' H' cls d p s ok => h Γ C fs M' σ Hi' H' cls d p s ok (en.mono s)
abbrev Po (X : Cx) : Prop := PassesOwn (model X.prog X.w) X.A X.env X.xe
def yE (X : Cx) (e : Expr) (Γ : Gam) (M : Mem) (P : Val → Mem → Prop) (PE : XP) : Prop := ∀ W, Takes X W → Po X → ∀ Hi H σ, Ok X.K Hi M H → EnvR X.K Hi Γ σ → ∀ Q : VK, Post X.K Hi P Q → XPost X.K Hi PE (fun cls d H' => W cls d σ H') → WE X e σ H Q
def yS (X : Cx) (s : Stmt) (Γ : Gam) (M : Mem) (k : AK) (ex : XG) : Prop := ∀ W, Takes X W → Po X → ∀ Hi H σ, Ok X.K Hi M H → EnvR X.K Hi Γ σ → ∀ D, Real X.K Hi k D → XReal X.K Hi ex W → WS X s D σ H
def ySs (X : Cx) (s : List Stmt) (Γ : Gam) (M : Mem) (k : AK) (ex : XG) : Prop := ∀ W, Takes X W → Po X → ∀ Hi H σ, Ok X.K Hi M H → EnvR X.K Hi Γ σ → ∀ D, Real X.K Hi k D → XReal X.K Hi ex W → WB X s D σ H
/-- a block that ends by an exception -/
abbrev k0 : AK := { nx := fun _ _ => False, rt := fun _ _ => False }
section
variable {X : Cx} {Γ : Gam} {M : Mem} {P : Val → Mem → Prop} {PE : XP} {ex : XG} {e c : Expr} {es : List Expr} {pos p1 : Pos} {k : AK} {st : Stmt} {sts s1 s2 : List Stmt} {x : Str} {n : Nat}
theorem ye_of (h : aE X e Γ M P) : yE X e Γ M P PE := fun _ _ _ Hi H σ ok en Q q _ => h Hi H σ ok en Q q
theorem ys_of (h : aS X st Γ M k) : yS X st Γ M k ex := fun _ _ _ Hi H σ ok en D q _ => h Hi H σ ok en D q
theorem yss_of (h : aSs X sts Γ M k) : ySs X sts Γ M k ex := fun _ _ _ Hi H σ ok en D q _ => h Hi H σ ok en D q
/-- .. knowing that loops pass exceptions on -/
theorem ys_po (h : Po X → yS X st Γ M k ex) : yS X st Γ M k ex := fun W tk po => h po W tk po
theorem ys_nil (h : k.nx Γ M) : ySs X [] Γ M k ex := yss_of (as_nil h)
theorem ys_cons (h : yS X st Γ M { k with nx := fun Γ' M' => ySs X sts Γ' M' k ex } ex) : ySs X (st :: sts) Γ M k ex := fun W tk po Hi H σ ok en D q y =>
  ⟨_, pss_cons ps_ws pss_wb, h W tk po Hi H σ ok en { D with nx := WB X sts D } ⟨fun Γ' M' σ' Hi' H' hn s ok' en' => hn W tk po Hi' H' σ' ok' en' D (q.up s) (y.up s), q.rt, q.bk, q.ct⟩ y⟩
theorem ys_one (h : yS X st Γ M k ex) : ySs X [st] Γ M k ex := fun W tk po Hi H σ ok en D q y => ⟨_, pss_one ps_ws, h W tk po Hi H σ ok en D q y⟩
theorem ys_expr (h : yE X e Γ M (fun _ M' => k.nx Γ M') (ex Γ)) (hs : swapsWith e none pos.line X.env = pure false := by rfl) : yS X (.Expr e pos) Γ M k ex := fun W tk po Hi H σ ok en D q y =>
  ⟨_, ps_expr pe_we hs, h W tk po Hi H σ ok en _ (fun d M1 v Hi1 H1 h1 s1 ok1 r1 => q.nx _ _ _ Hi1 H1 h1 s1 ok1 (en.mono s1)) (y.at en)⟩
theorem ys_ret (h : yE X e Γ M k.rt (ex Γ)) : yS X (.Return (some e) pos) Γ M k ex := fun W tk po Hi H σ ok en D q y =>
  ⟨_, ps_ret pe_we, h W tk po Hi H σ ok en _ (fun d M1 v Hi1 H1 h1 s1 ok1 r1 => q.rt _ _ _ Hi1 H1 h1 s1 ok1 r1) (y.at en)⟩
theorem ys_set {ps : Pos} (n : Nat) (hN : X.N.Nodup) (he : yE X e Γ M (fun d M' => k.nx (Γ.set n (some d)) M') (ex Γ)) (hi : X.N[n]? = some x := by rfl) (hx : Loc X.env.scope x := by first | exact Or.inl rfl | exact Or.inr rfl)
    (hs : swapsWith e (some (.Name x ps)) pos.line X.env = pure false := by rfl) (hf : X.fn x = true ∨ X.env.scope.names.lookup x = some .local := by first | exact .inl rfl | exact .inr rfl | assumption) : yS X (.Assign [.Name x ps] e pos) Γ M k ex := fun W tk po Hi H σ ok en D q y =>
  ⟨_, ps_set hN hi hx pe_we hs hf, he W tk po Hi H σ ok en _ (fun d M1 v Hi1 H1 h1 s1 ok1 r1 => q.nx _ _ _ Hi1 H1 h1 s1 ok1 ((en.mono s1).set r1)) (y.at en)⟩
theorem ys_asg {tg : Expr} (he : yE X e Γ M (fun d M' => aG X tg d Γ M' k.nx) (ex Γ)) (hs : swapsWithSole [tg] e pos.line X.env = pure false := by rfl) (hw : swappedStores [tg] e X.env = pure none := by rfl) (h1 : (assignEach [tg] X.env).map (·.2) = [assign tg X.env] := by rfl) : yS X (.Assign [tg] e pos) Γ M k ex := fun W tk po Hi H σ ok en D q y =>
  ⟨_, ps_asg pe_we pg_wg hs hw h1, he W tk po Hi H σ ok en _ (fun d M1 v Hi1 H1 h2 s1 ok1 r1 => h2 Hi1 H1 σ v ok1 (en.mono s1) r1 _ fun Γ2 M2 σ2 Hi2 H2 h3 s2 ok2 en2 => q.nx _ _ _ Hi2 H2 h3 (s1.trans s2) ok2 en2) (y.at en)⟩
theorem ys_if (h : aT X c Γ M fun b M' => (b = true → ySs X s1 Γ M' k ex) ∧ (b = false → ySs X s2 Γ M' k ex)) : yS X (.If c s1 s2 pos) Γ M k ex := fun W tk po Hi H σ ok en D q y => by
  refine ⟨_, ps_if pt_wt pss_wb pss_wb, h Hi H σ ok en _ fun b M1 Hi1 H1 h1 z1 ok1 => ?_⟩
  cases b with
  | true => exact iteT (h1.1 rfl W tk po Hi1 H1 σ ok1 (en.mono z1) D (q.up z1) (y.up z1))
  | false => exact iteF (h1.2 rfl W tk po Hi1 H1 σ ok1 (en.mono z1) D (q.up z1) (y.up z1))
theorem ys_ifp {p : Prop} (h : TP X c Γ M p) (h1 : p → ySs X s1 Γ M k ex) (h2 : ¬ p → ySs X s2 Γ M k ex) : yS X (.If c s1 s2 pos) Γ M k ex := by
  obtain ⟨b, hb, hi⟩ := h
  exact ys_if (hb.val ⟨fun z => h1 (hi.mp z), fun z => h2 fun y => by rw [hi.mpr y] at z; cases z⟩)
theorem yE.mono {P' : Val → Mem → Prop} {PE' : XP} (h : yE X e Γ M P PE) (f : ∀ d M', P d M' → P' d M') (f2 : ∀ C fs M', PE C fs M' → PE' C fs M') : yE X e Γ M P' PE' := fun W tk po Hi H σ ok en Q q y => h W tk po Hi H σ ok en Q (fun d M1 v Hi1 H1 p => q d M1 v Hi1 H1 (f d M1 p)) fun C fs M' Hi' H' cls d p => y C fs M' Hi' H' cls d (f2 C fs M' p)
end
/-! ### raise C(e, ..) -/
/-- an exception class as its name says: n arguments, their fields g -/
structure XMk (P : Program) (w : World) (K : PySem.W.Frag) (mg : Str → Option Value) (base : Heap) (x : Str) (C : Addr) (n : Nat) (g : List Val → List (Str × Val)) : Prop where
  ex : ∃ B newId initId tl fI gV, XCl K C B newId initId tl ∧ PySem.W.findIn K (.ref C) "__init__" = some (some (.ref fI)) ∧ PySem.W.typeIn K (.ref fI) = some (.type "function") ∧ FnX P w K mg base 1 fI [] (SpI C gV n) ∧ mg x = some (.ref C) ∧ ∀ H ds vs, RepA K H ds vs → ds.length = n → RepF K H (g ds) (gV vs)
  n9 : n ≤ 900
section
variable {X : Cx} {Γ : Gam} {M : Mem} {ex : XG} {e : Expr} {es : List Expr} {pos p1 pos' : Pos} {k : AK} {x : Str} {n m : Nat} {C : Addr} {g : List Val → List (Str × Val)}
theorem ys_raise (T : XMk X.prog X.w X.K X.mg X.base x C n g) (hr : Rm m X.A) (hm : 2 ≤ m) (hc : X.calm = true) (h : aA X (e :: es) Γ M fun ds M1 => ds.length = n ∧ ex Γ C (g ds) M1) (hg : Gl X x := by rfl)
    (hdb : (x == ("__debug__" : Str)) = false := by decide) (he : starEach (e :: es) X.env = (false, eval e X.env) :: starEach es X.env := by rfl) (hpl : (backTo pos (starEach es X.env)).any (·.1) = false := by rfl) :
    yS X (.Raise (some (.Call (.Name x p1) (e :: es) [] pos)) none pos') Γ M k ex := fun W tk po Hi H σ ok en D q y => by
  obtain ⟨B, newId, initId, tl, fI, gV, T1, iC, tI, F, mx, rel⟩ := T.ex
  refine ⟨_, ps_raise hc tk (pmk_x T1 iC tI F (hr.mono hm) hg mx T.n9 hdb he hpl), ?_⟩
  refine h Hi H σ ok en _ fun ds M1 vs Hi1 H1 h1 z1 ok1 r1 => ⟨r1.length.symm.trans h1.1, fun d hd => ?_⟩
  have z2 := same_upd (o := .xd (gV vs)) (Ok.none ok1 hd)
  exact y Γ C (g ds) M1 σ (upd Hi1 d (.xd (gV vs))) _ _ _ h1.2 (z1.trans z2) (ok1.imm hd) ((en.mono z1).mono z2) ⟨rfl, .inr ⟨d, gV vs, rfl, upd_same, (rel Hi1 ds vs r1 h1.1).mono z2⟩⟩
end
end Ab

/-! Ab39: calls of defs that may raise, their promises. -/
namespace Ab
open PySem PySem.Spec PyProof.Rows L2
abbrev ASe := List Val → Mem → (Val → Mem → Prop) → XP → Prop
abbrev ASxe := List Val → List Val → Mem → (Val → Mem → Prop) → XP → Prop
def spE (K : PySem.W.Frag) (s : ASxe) (vs zs : List V) (H : Hp) (Q : VK) (E : XK) : Prop := ∃ Hi M ds es P PE, RepA K Hi ds vs ∧ RepA K Hi es zs ∧ Ok K Hi M H ∧ s ds es M P PE ∧ Post K Hi P Q ∧ XPost K Hi PE E
structure FnE (P : Program) (w : World) (K : PySem.W.Frag) (mg : Str → Option Value) (base : Heap) (k : Nat) (f : Addr) (ks : List Str) (sp : List V → List V → Hp → VK → XK → Prop) : Prop where
  run : ∀ (A : Around) (outer : List Env) (s : Shared) (H : Hp) (us ws : List Value) (vs zs : List V) (Q : VK) (E : XK), Rm k A → Env0 P w K mg base A outer s H → Vals vs us → Vals zs ws → zs.length = ks.length → sp vs zs H Q E →
    codeAny (model P w) A (.call (.ref f) ⟨us, ks.zip ws⟩) (CR (L2.CX P w) outer P w H s Q E) s
/-- the cells of a def may be dropped when it raises -/
inductive RetX (PE : XP) : XP
  | ok {C : Addr} {fs : List (Str × Val)} {M : Mem} : PE C fs M → RetX PE C fs M
  | drop {C : Addr} {fs : List (Str × Val)} {c : Addr × Cell} {M : Mem} : RetX PE C fs M → RetX PE C fs (c :: M)
theorem RetX.post {K : PySem.W.Frag} {PE : XP} {E : XK} {Hi : Hp} (q : XPost K Hi PE E) {C : Addr} {fs : List (Str × Val)} {M : Mem} (h : RetX PE C fs M) : ∀ {Hi' H' : Hp} {cls : Value} {d : Option Addr}, Same Hi Hi' → Ok K Hi' M H' → XRep K Hi' cls d C fs → E cls d H' := by
  induction h with
  | ok p => exact fun s ok r => q _ _ _ _ _ _ _ p s ok r
  | drop _ ih => exact fun s ok r => ih s ok.tail r
abbrev ecx (P : Program) (w : World) (K : PySem.W.Frag) (mg : Str → Option Value) (base : Heap) (N : List Str) (qual : Str) (sc : Scope) (f : Addr) (cdv : Value) (A : Around) (outer : List Env) (s : Shared) (H : Hp) (E : XK) : Cx := cxOf (L2.CX P w) P w K mg base N qual sc f cdv A outer s H E
abbrev BodyE (P : Program) (w : World) (K : PySem.W.Frag) (mg : Str → Option Value) (base : Heap) (k : Nat) (f : Addr) (N : List Str) (qual : Str) (sc : Scope) (body : List Stmt) (s0 : ASe) : Prop :=
  ∀ cdv A outer s H E, Rm k (A.deeper (envOfC qual sc s.heap.objs.size f cdv)) → Po (ecx P w K mg base N qual sc f cdv A outer s H E) → ∀ ds M R PE, s0 ds M R PE → ySs (ecx P w K mg base N qual sc f cdv A outer s H E) body (gam N ds) M (kOf R) fun _ => RetX PE
section
variable {P : Program} {w : World} {K : PySem.W.Frag} {mg : Str → Option Value} {base : Heap} {x qual : Str} {f : Addr} {fd : FuncData}
theorem fne_kbn {params : Arguments} {body : List Stmt} {sc : Scope} {dvs : List V} {kws : List (Str × V)} {N ps ks : List Str} {k n : Nat} {s0 : ASe} {g : List Value → List Value → List Value} {gV : List V → List V → List V} (gA : List Val → List Val → List Val)
    (F : FunD K x qual params body sc dvs kws f fd) (S : FnScope N ps sc) (b : KBn K fd ps n ks g gV)
    (hrel : ∀ H ds vs es zs, RepA K H ds vs → RepA K H es zs → ds.length = n → es.length = ks.length → RepA K H (gA ds es) (gV vs zs)) (len : ∀ ds M R PE, s0 ds M R PE → ds.length = ps.length)
    (hb : BodyE P w K mg base k f N qual sc body s0) : FnE P w K mg base (k + 1) f ks (spE K fun ds es M R PE => ds.length = n ∧ s0 (gA ds es) M R PE) := by
  refine ⟨fun A outer s H us ws vs zs Q E hr e0 r rz hz ⟨Hi, M, ds, es, R, PE, ra, re, ok, ⟨hn, hs⟩, q, qx⟩ => ?_⟩
  obtain ⟨oc, od, dV, kV, doc, pm, an, cdv, ct, osl, rfl, lk, hcd, _, _⟩ := F.ex
  have KX : K.In s.heap := e0.mod.kin.keeps fun b1 o1 z1 => (e0.bs b1 o1 z1).1
  have hbt := b.to s us ws KX (by rw [← r.length, ← ra.length]; exact hn) (by rw [← rz.length]; exact hz)
  have rg := hrel Hi ds vs es zs ra re hn (re.length.trans hz)
  have hl : (gV vs zs).length = ps.length := rg.length.symm.trans (len _ _ _ _ hs)
  refine StX.run_bnd (CX := L2.CX P w) (E := E) (G := fun vs' H2 => vs' = gV vs zs ∧ H2 = H) lk hcd S hr.room e0 (fun A' Ex Q' h => ?_) fun s2 H2 vs' hG hr' => ?_
  · exact hbt _ _ _ _ (h s H (gV vs zs) (g us ws) e0 Un.refl rfl (fun _ _ z => z) (b.rel r rz) hl ⟨rfl, rfl⟩)
  · obtain ⟨rfl, rfl⟩ := hG
    obtain ⟨t, p, z⟩ := hb cdv A outer s2 H2 E (hr.deeper _) (passes_of (K := fun e s'' => L2.CX P w outer H2 s2 E e s'') (E₁ := _) rfl) (gA ds es) M R PE hs (fun cls d _ H => E cls d H) (takes_of rfl rfl rfl rfl) (passes_of (K := fun e s'' => L2.CX P w outer H2 s2 E e s'') (E₁ := _) rfl) Hi H2 _ ok (env_start rg)
      { nx := fun _ H' => Q .non H', rt := Q } ⟨fun Γ M' σ Hi' H' h1 s1 ok1 _ => h1.post q s1 ok1 .non, fun d M' v Hi' H' h1 s1 ok1 r1 => h1.post q s1 ok1 r1, fun _ _ _ _ _ z => z.elim, fun _ _ _ _ _ z => z.elim⟩
      (fun Γ C fs M' σ Hi' H' cls d h1 s1 ok1 _ r1 => h1.post qx s1 ok1 r1)
    exact ⟨t, p, z⟩
theorem fne_pos {params : Arguments} {body : List Stmt} {sc : Scope} {kws : List (Str × V)} {N ps : List Str} {k : Nat} {s0 : ASe} (F : FunD K x qual params body sc [] kws f fd) (S : FnScope N ps sc)
    (h : ∀ (kV doc pm : Value) (an : Option Addr) (cdv ct : Value) (us : List Value), us.length = ps.length → bindArgs (PySem.W.fnOf x qual params body sc .none kV doc pm an cdv ct) ⟨us, []⟩ = pure (ps.zip us))
    (len : ∀ ds M R PE, s0 ds M R PE → ds.length = ps.length) (hb : BodyE P w K mg base k f N qual sc body s0) : FnE P w K mg base (k + 1) f [] (spE K fun ds _ => s0 ds) := by
  have F1 := fne_kbn (n := ps.length) (ks := []) (fun ds _ => ds) F S (g := fun us _ => us) (gV := fun vs _ => vs) (by
    obtain ⟨oc, od, dV, kV, doc, pm, an, cdv, ct, osl, rfl, lk, hcd, hD, _⟩ := F.ex
    obtain ⟨_, rfl⟩ : ([] : List V) = [] ∧ dV = .none := by
      rcases hD with z | ⟨z, _⟩
      · exact z
      · exact absurd rfl z
    refine ⟨fun s us ws _ h1 h2 => .of_eq ?_, fun r1 _ => r1⟩
    obtain rfl := List.length_eq_zero_iff.mp h2
    exact h kV doc pm an cdv ct us h1) (fun H ds vs es zs r _ _ _ => r) len hb
  exact ⟨fun A outer s H us ws vs zs Q E hr e0 r rz hz ⟨Hi, M, ds, es, R, PE, ra, re, ok, hs, q, qx⟩ => F1.run A outer s H us ws vs zs Q E hr e0 r rz hz ⟨Hi, M, ds, es, R, PE, ra, re, ok, ⟨len _ _ _ _ hs, hs⟩, q, qx⟩⟩
theorem FnE.weak {k : Nat} {ks : List Str} {sp sp' : List V → List V → Hp → VK → XK → Prop} (F : FnE P w K mg base k f ks sp) (h : ∀ vs zs H Q E, sp' vs zs H Q E → sp vs zs H Q E) : FnE P w K mg base k f ks sp' :=
  ⟨fun A outer s H us ws vs zs Q E hr e0 r rz hz hs => F.run A outer s H us ws vs zs Q E hr e0 r rz hz (h _ _ _ _ _ hs)⟩
theorem FnE.imp {k : Nat} {ks : List Str} {sx sx' : ASxe} (F : FnE P w K mg base k f ks (spE K sx)) (h : ∀ ds es M R PE, sx' ds es M R PE → sx ds es M R PE) : FnE P w K mg base k f ks (spE K sx') :=
  F.weak fun vs zs H Q E ⟨Hi, M, ds, es, R, PE, r1, r2, ok, hs, q⟩ => ⟨Hi, M, ds, es, R, PE, r1, r2, ok, h _ _ _ _ _ hs, q⟩
theorem FnE.mono {j k : Nat} {ks : List Str} {sp : List V → List V → Hp → VK → XK → Prop} (F : FnE P w K mg base j f ks sp) (h : j ≤ k) : FnE P w K mg base k f ks sp := ⟨fun A outer s H us ws vs zs Q E hr => F.run A outer s H us ws vs zs Q E (hr.mono h)⟩
/-- a def that never raises -/
theorem FnX.toE {k : Nat} {ks : List Str} {sx : ASx} (F : FnX P w K mg base k f ks (spX K sx)) : FnE P w K mg base k f ks (spE K fun ds es M R _ => sx ds es M R) :=
  ⟨fun A outer s H us ws vs zs Q E hr e0 r rz hz ⟨Hi, M, ds, es, R, PE, r1, r2, ok, hs, q, _⟩ => codeAny_mono (F.run A outer s H us ws vs zs Q hr e0 r rz hz ⟨Hi, M, ds, es, R, r1, r2, ok, hs, q⟩) fun r s' z => by
    cases r with
    | error e => exact False.elim z
    | ok fl => cases fl <;> exact z⟩
end
/-- a global def that may raise -/
structure GdE (P : Program) (w : World) (K : PySem.W.Frag) (mg : Str → Option Value) (base : Heap) (k : Nat) (x : Str) (ks : List Str) (s : ASxe) : Prop where
  ex : ∃ f, FnE P w K mg base k f ks (spE K s) ∧ mg x = some (.ref f) ∧ PySem.W.keepIn K (.ref f) = true
/-- a method that may raise -/
abbrev MtE (P : Program) (w : World) (K : PySem.W.Frag) (mg : Str → Option Value) (base : Heap) (C : Addr) (n : Nat) (m : Str) (ks : List Str) (s : ASxe) : Prop := ∃ f, Meth K C m f ∧ FnE P w K mg base n f ks (spE K s)
section
variable {X : Cx} {Γ : Gam} {M : Mem} {P : Val → Mem → Prop} {PE : XP} {e o : Expr} {es : List Expr} {kws : List Keyword} {pos p1 apos : Pos} {x m : Str} {n q : Nat} {f C : Addr} {ks : List Str} {sx : ASxe} {W : WX}
theorem run_e {pins : List (Addr × Obj)} {σ : L2.St} {H : Hp} {s : Shared} {Q : VK} {us ws : List Value} {vs zs : List V} {sp : List V → List V → Hp → VK → XK → Prop} (tk : Takes X W) (F : FnE X.prog X.w X.K X.mg X.base n f ks sp) (hr : Rm n X.A)
    (I : Inv X pins σ H s) (r : Vals vs us) (rz : Vals zs ws) (l2 : zs.length = ks.length) (h : sp vs zs H Q fun cls d H' => W cls d σ H') : wpAny (model X.prog X.w) X.A (call (.ref f) us (ks.zip ws)) (EP X pins σ Q) X.xe s := by
  refine wpAny_call (codeAny_mono (F.run X.A X.stack s H us ws vs zs Q _ hr I.env0 r rz l2 h) fun r s' hq => ?_)
  cases r with
  | error e => exact tk e s' (XE.of_call I (fun _ _ _ z => z) hq)
  | ok fl =>
    cases fl with
    | ret u => exact I.after hq
    | next => exact False.elim hq
    | brk => exact False.elim hq
    | cont => exact False.elim hq
/-- f(e, .., k = v, ..) -/
theorem ye_g (G : GdE X.prog X.w X.K X.mg X.base n x ks sx) (hr : Rm q X.A) (hq : n ≤ q) (h : aA X (e :: es) Γ M fun ds M1 => aKw X kws Γ M1 fun zs M2 => zs.length = ks.length ∧ sx ds zs M2 P PE)
    (hg : Gl X x := by rfl) (hall : (backToKw pos (keywordEach kws X.env)).all (·.1.isSome) = true := by rfl) (hks : (backToKw pos (keywordEach kws X.env)).filterMap (·.1) = ks := by rfl) (hdb : (x == ("__debug__" : Str)) = false := by decide)
    (he : starEach (e :: es) X.env = (false, eval e X.env) :: starEach es X.env := by rfl) (hpl : ((backTo pos (starEach (e :: es) X.env)).any (·.1) || (backToKw pos (keywordEach kws X.env)).any (·.1.isNone)) = false := by rfl) :
    yE X (.Call (.Name x p1) (e :: es) kws pos) Γ M P PE := fun W tk po Hi H σ ok en Q q1 y1 => by
  obtain ⟨f, F, hm, hk⟩ := G.ex
  refine ⟨fun σ H Q => WA X (e :: es) σ H fun vs H1 => WK X kws σ H1 fun zs H2 => zs.length = ks.length ∧ spE X.K sx vs zs H2 Q fun cls d H' => W cls d σ H', ⟨fun pins s σ H Q I h => ?_⟩, ?_⟩
  · refine wpAny_Call_Name_kw (ld_glob I hg hm ?_ hdb)
    refine PySem.W.callWith_KW (first := []) (h₀ := X.base) I.ok.mod.kin hk hall (thn (pa_wa.run pos pins s σ H _ I h) fun us s1 ⟨vs, H1, I1, r, z1⟩ => ?_) hpl he
    refine thn (pk_wk.run pos pins s1 σ H1 _ I1 z1) fun ws s2 ⟨zs, H2, I2, rz, l2, z2⟩ => ⟨I2.kIn, ?_⟩
    rw [hks]
    exact run_e tk (F.mono hq) hr I2 r rz l2 z2
  · refine h Hi H σ ok en _ fun ds M1 vs Hi1 H1 h1 s1 ok1 r1 => ?_
    refine h1 Hi1 H1 σ ok1 (en.mono s1) _ fun zs M2 ws Hi2 H2 h2 s2 ok2 r2 => ?_
    exact ⟨r2.length.symm.trans h2.1, Hi2, M2, ds, zs, P, PE, r1.mono s2, r2, ok2, h2.2, q1.up (s1.trans s2), y1.up (s1.trans s2)⟩
/-- o.m(e, .., k = v, ..) -/
theorem ye_m {pl : Sem Bool} (c : Cls X.K C) (F : MtE X.prog X.w X.K X.mg X.base C n m ks sx) (hr : Rm q X.A) (hq : n ≤ q)
    (h : aE X o Γ M fun d M0 => ObM M0 C d m ∧ aA X (e :: es) Γ M0 fun ds M1 => aKw X kws Γ M1 fun zs M2 => zs.length = ks.length ∧ sx (d :: ds) zs M2 P PE)
    (hall : (backToKw pos (keywordEach kws X.env)).all (·.1.isSome) = true := by rfl) (hks : (backToKw pos (keywordEach kws X.env)).filterMap (·.1) = ks := by rfl)
    (he : starEach (e :: es) X.env = (false, eval e X.env) :: starEach es X.env := by rfl) (hpl : ((backTo pos (starEach (e :: es) X.env)).any (·.1) || (backToKw pos (keywordEach kws X.env)).any (·.1.isNone)) = false := by rfl)
    (ht : eval (.Call (.Attribute o m apos) (e :: es) kws pos) X.env = (do
      let ov ← eval o X.env
      standAt apos.atName
      let (f, first) ← holding [ov] (getMethod ov m pl)
      callWith pos f first (backTo pos (starEach (e :: es) X.env)) (backToKw pos (keywordEach kws X.env))) := by rfl) : yE X (.Call (.Attribute o m apos) (e :: es) kws pos) Γ M P PE := fun W tk po Hi H σ ok en Q q1 y1 => by
  obtain ⟨f, hm, F⟩ := F
  refine ⟨fun σ H Q => WE X o σ H fun x H0 => ∃ a dx fs, x = .ref a ∧ H0 a = some (.ins C dx fs) ∧ fs.lookup m = none ∧ WA X (e :: es) σ H0 fun vs H1 => WK X kws σ H1 fun zs H2 => zs.length = ks.length ∧ spE X.K sx (x :: vs) zs H2 Q fun cls d H' => W cls d σ H', ⟨fun pins s σ H Q I h => ?_⟩, ?_⟩
  · refine PySem.W.methodCall_KW (pl := pl) (thn (pe_we.run pins s σ H _ I h) fun u s1 ⟨x, H1, I1, rx, a, dx, fs, ex, ea, l, z⟩ => ?_) ht
    subst ex
    obtain rfl : u = Value.ref a := rx
    refine getmeth_ok I1 ea c hm l ?_
    refine PySem.W.callWith_KW (first := [.ref a]) (h₀ := X.base) I.ok.mod.kin hm.kp hall (thn (pa_wa.run pos pins s1 σ H1 _ I1 z) fun us s2 ⟨vs, H2, I2, r, z2⟩ => ?_) hpl he
    refine thn (pk_wk.run pos pins s2 σ H2 _ I2 z2) fun ws s3 ⟨zs, H3, I3, rz, l2, z3⟩ => ⟨I3.kIn, ?_⟩
    rw [hks]
    exact run_e (us := .ref a :: us) (vs := .ref a :: vs) tk (F.mono hq) hr I3 (.cons rfl r) rz l2 z3
  · refine h Hi H σ ok en _ fun x M0 v0 Hi0 H0 h0 s0 ok0 r0 => ?_
    obtain ⟨hob, h0⟩ := h0
    obtain ⟨p, dx, gs, rfl, hp, hn⟩ := hob _ _ _ _ ok0 r0
    refine ⟨p, dx, gs, rfl, hp, hn, ?_⟩
    refine h0 Hi0 H0 σ ok0 (en.mono s0) _ fun ds M1 vs Hi1 H1 h1 s1 ok1 r1 => ?_
    refine h1 Hi1 H1 σ ok1 (en.mono (s0.trans s1)) _ fun zs M2 ws Hi2 H2 h2 s2 ok2 r2 => ?_
    exact ⟨r2.length.symm.trans h2.1, Hi2, M2, _ :: ds, zs, P, PE, .cons (r0.mono (s1.trans s2)) (r1.mono s2), r2, ok2, h2.2, q1.up ((s0.trans s1).trans s2), y1.up ((s0.trans s1).trans s2)⟩
theorem ye_m0 {pl : Sem Bool} (c : Cls X.K C) (F : MtE X.prog X.w X.K X.mg X.base C n m ks sx) (hr : Rm q X.A) (hq : n ≤ q)
    (h : aE X o Γ M fun d M0 => ObM M0 C d m ∧ aKw X kws Γ M0 fun zs M2 => zs.length = ks.length ∧ sx [d] zs M2 P PE)
    (hall : (backToKw pos (keywordEach kws X.env)).all (·.1.isSome) = true := by rfl) (hks : (backToKw pos (keywordEach kws X.env)).filterMap (·.1) = ks := by rfl)
    (hpl : ((backTo pos (starEach [] X.env)).any (·.1) || (backToKw pos (keywordEach kws X.env)).any (·.1.isNone)) = false := by rfl)
    (ht : eval (.Call (.Attribute o m apos) [] kws pos) X.env = (do
      let ov ← eval o X.env
      standAt apos.atName
      let (f, first) ← holding [ov] (getMethod ov m pl)
      callWith pos f first (backTo pos (starEach [] X.env)) (backToKw pos (keywordEach kws X.env))) := by rfl) : yE X (.Call (.Attribute o m apos) [] kws pos) Γ M P PE := fun W tk po Hi H σ ok en Q q1 y1 => by
  obtain ⟨f, hm, F⟩ := F
  refine ⟨fun σ H Q => WE X o σ H fun x H0 => ∃ a dx fs, x = .ref a ∧ H0 a = some (.ins C dx fs) ∧ fs.lookup m = none ∧ WK X kws σ H0 fun zs H2 => zs.length = ks.length ∧ spE X.K sx [x] zs H2 Q fun cls d H' => W cls d σ H', ⟨fun pins s σ H Q I h => ?_⟩, ?_⟩
  · refine PySem.W.methodCall_KW (pl := pl) (thn (pe_we.run pins s σ H _ I h) fun u s1 ⟨x, H1, I1, rx, a, dx, fs, ex, ea, l, z⟩ => ?_) ht
    subst ex
    obtain rfl : u = Value.ref a := rx
    refine getmeth_ok I1 ea c hm l ?_
    refine PySem.W.callWith_KW0 (first := [.ref a]) (h₀ := X.base) I.ok.mod.kin hm.kp hall ?_ hpl
    refine thn (pk_wk.run pos pins s1 σ H1 _ I1 z) fun ws s3 ⟨zs, H3, I3, rz, l2, z3⟩ => ⟨I3.kIn, ?_⟩
    rw [hks]
    exact run_e (us := [.ref a]) (vs := [.ref a]) tk (F.mono hq) hr I3 (.cons rfl .nil) rz l2 z3
  · refine h Hi H σ ok en _ fun x M0 v0 Hi0 H0 h0 s0 ok0 r0 => ?_
    obtain ⟨hob, h0⟩ := h0
    obtain ⟨p, dx, gs, rfl, hp, hn⟩ := hob _ _ _ _ ok0 r0
    refine ⟨p, dx, gs, rfl, hp, hn, ?_⟩
    refine h0 Hi0 H0 σ ok0 (en.mono s0) _ fun zs M2 ws Hi2 H2 h2 s2 ok2 r2 => ?_
    exact ⟨r2.length.symm.trans h2.1, Hi2, M2, [_], zs, P, PE, .cons (r0.mono s2) .nil, r2, ok2, h2.2, q1.up (s0.trans s2), y1.up (s0.trans s2)⟩
end
end Ab

/-! Ab40: try: .. except C as n: ..; the caught exception is a value from then on. -/
namespace Ab
open PySem PySem.Spec PyProof.Rows L2
theorem exH_ok {P : Program} {w : World} {H : Hp} {h : Heap} {a C : Addr} {d : Option Addr} {oe : Obj} {vs : Array Value} (e : h.get? a = some oe) (z : Zc (.ref C) d oe) (hd : oe.data = .fields vs) : ObjOk P w H h a (exH a C d) :=
  ⟨⟨oe, vs, e, z, hd⟩, ⟨oe, e⟩, fun _ _ ⟨o, v, q, r⟩ k => ⟨o, v, k o q, r⟩⟩
section
variable {X : Cx} {pins : List (Addr × Obj)} {σ : L2.St} {H : Hp} {sI s s' : Shared} {B : Heap} {a C : Addr} {d : Option Addr} {oe : Obj} {vs : Array Value}
/-- landed, and the exception tracked -/
theorem Inv_landV (I : Inv X pins σ H sI) (nb : ∀ b o, sI.heap.get? b = some o → b ∉ frs X.stack → B.get? b = some o) (st : B.StaysIn s'.heap) (up : sI.heap.UpToSlots s'.heap) (os : s'.os = sI.os) (ag : AllBare s'.gens)
    (ha : s'.heap.get? a = some oe) (hz : Zc (.ref C) d oe) (hd : oe.data = .fields vs) (na : H a = none) (sn : sI.heap.get? a = none) : Inv X pins σ (upd H a (exH a C d)) s' := by
  have nf : ∀ b ∈ frs X.stack, ∀ o, sI.heap.get? b = some o → ∃ sl, s'.heap.get? b = some { o with slots := sl } := fun b hb o z => by
    obtain ⟨_, o', z1, z2⟩ := I.stack.mem hb
    rw [z] at z1
    cases z1
    exact up b o z z2
  have ne : ∀ b o, sI.heap.get? b = some o → b ≠ a := fun b o z1 z2 => by
    rw [z2, sn] at z1
    cases z1
  have ok0 : HOk X.prog X.w H s'.heap := (I.inGround nb).kept st
  refine Inv.call' (ch := []) I os ⟨fun b o z _ hb _ => st b o (nb b o z hb), fun b o z _ hb _ => nf b hb o z, fun b o z z2 _ => by rw [upd_ne (ne b o z)]; exact z2, fun b o z _ => ?_, fun b xs z => by rw [upd_ne (ne_of_none z na)]; exact z, fun b o u z => by rw [upd_ne (ne_of_none z na)]; exact z, fun b ps z => ⟨#[], by rw [upd_ne (ne_of_none z na), z]; simp⟩⟩ (fun b o z => ?_) ag (fun _ z => nomatch z)
  · by_cases hb : b ∈ frs X.stack
    · obtain ⟨sl, q⟩ := nf b hb o z
      exact ⟨_, q⟩
    · exact ⟨o, st b o (nb b o z hb)⟩
  · by_cases hb : b = a
    · subst hb
      rw [upd_same] at z
      cases z
      exact exH_ok ha hz hd
    · rw [upd_ne hb] at z
      exact (ok0 b o z).stay (fun _ _ _ q => q) (fun c q => by rw [upd_ne (ne_of_none q na)]; exact q) fun c xs q => by rw [upd_ne (ne_of_none q na)]; exact q
theorem Inv_inS (I : Inv X pins σ H s) (a : Addr) : Inv (X.suite a (X.pn ++ pins)) [] σ H s :=
  ⟨I.ok.suite _ _, I.os, I.bare, I.base, I.loc, I.cell, I.free, I.freeC, fun p hp => I.pin p (by rw [List.append_nil] at hp; exact hp), I.hok, I.len⟩
theorem Inv_outS {pn' : List (Addr × Obj)} (I : Inv (X.suite a (X.pn ++ pins)) pn' σ H s) (ok : X.Ok) : Inv X pins σ H s :=
  ⟨ok, I.os, I.bare, I.base, I.loc, I.cell, I.free, I.freeC, fun p hp => I.pin p (List.mem_append_left _ hp), I.hok, I.len⟩
end
/-- what a clause wishes of an exception of the body -/
def wV (K : PySem.W.Frag) (c : Value) (i : Nat) (ts : Addr → Addr → Option Addr → TS) (Wout : WX) (D : Ends) : WX := fun cls d σ H => ∃ C b, cls = .ref C ∧ PySem.W.exmOne K cls c = some b ∧
  (b = true → ∀ a, H a = none → ts a C d { nx := fun σ' H' => D.nx (σ'.set i none) H', rt := D.rt, bk := fun σ' H' => D.bk (σ'.set i none) H', ct := fun σ' H' => D.ct (σ'.set i none) H' } (σ.set i (some (.ref a))) (upd H a (exH a C d))) ∧ (b = false → Wout cls d σ H)
section
variable {X : Cx} {x n : Str} {c : Value} {i : Nat} {body suite : List Stmt} {b0 : Stmt} {np pos pos' : Pos} {tb : WX → TS} {ts : Addr → Addr → Option Addr → TS} {Wout : WX}
theorem ps_try_v (hs : X.stack = X.env :: X.outer) (hf : X.env.frame = some X.env.locals) (hN : X.N.Nodup) (hi : X.N[i]? = some n) (hln : X.env.kindOf n = some .local) (hc : Names X x c) (tk : Takes X Wout)
    (hb : ∀ (W : WX) (pn : List (Addr × Obj)) (xe : Value → Shared → Prop), Takes (X.tr pn xe) W → PassesOwn (model X.prog X.w) X.A X.env xe → PSs (X.tr pn xe) body (tb W))
    (hsu : ∀ (a C : Addr) (d : Option Addr) (pn : List (Addr × Obj)), PSs (X.suite a pn) (b0 :: suite) (ts a C d)) :
    PS X (.Try body [.ExceptHandler (some (.Name x np)) (some n) (b0 :: suite) pos'] [] [] pos) (fun D σ H => tb (wV X.K c i ts Wout D) D σ H) := by
  refine ⟨fun pins s σ H D I h => wpAny_Try_except ?_⟩
  have ok := I.ok
  have hfr : X.A.frames = some (X.env :: X.outer) := by rw [ok.frames, hs]
  have hloc : Loc X.env.scope n := .inl hln
  refine wpAny_mono ((hb (wV X.K c i ts Wout D) (X.pn ++ pins) (fun e z1 => wpAny (model X.prog X.w) X.A (noteFrame e X.env) (fun _ z2 => wpAny (model X.prog X.w) X.A (setFlight e none) (fun _ z3 =>
    wpAny (model X.prog X.w) X.A (handleBy e X.env [.ExceptHandler (some (.Name x np)) (some n) (b0 :: suite) pos']) (SP X pins D) X.xe z3) X.xe z2) X.xe z1) (fun u s' xx => ?_) PassesOwn.looking).run [] s σ H D (I.toTry _) h) (fun f s1 hsp => ?_) (fun _ _ z => z)
  · obtain ⟨a, B, sI, pins', σ1, H1, cls, d, rfl, J', nb, up, sky, na, os, ag, C, b, rfl, hb1, hyes, hno⟩ := xx
    have J : Inv X pins σ1 H1 sI := J'.ofTry ok
    show wpAny (model X.prog X.w) X.A (noteFrame (.ref a) X.env) _ _ _
    refine Sky.land Zc.steady hfr hf (show Sky B (X.env :: X.outer) a (Zc (.ref C) d) X.env.locals s'.heap by rw [← hs]; exact sky) fun h3 fl3 up3 => ?_
    have J3 : Inv X pins σ1 H1 { s' with heap := h3 } := J.landed nb fl3.1 (up.trans up3) os ag
    obtain ⟨oe3, vs3, he3, hz3, hd3⟩ := fl3.there
    have nfr : a ∉ frs (X.env :: X.outer) := fun hm => by
      obtain ⟨_, o', z1, z2⟩ := fl3.2.2.1.mem hm
      rw [he3] at z1
      cases z1
      exact z2 _ hd3
    have sn : sI.heap.get? a = none := by
      cases z : sI.heap.get? a with
      | none => rfl
      | some o =>
        have y := nb a o z (by rw [hs]; exact nfr)
        rw [fl3.2.1] at y
        cases y
    have nL : a ≠ X.env.locals := fun z => nfr (List.mem_filterMap.mpr ⟨X.env, List.mem_cons_self, by rw [hf, z]⟩)
    have nF : a ∉ X.fs := fun hm => by
      obtain ⟨e, z1, z2⟩ := List.mem_filterMap.mp hm
      exact nfr (List.mem_filterMap.mpr ⟨e, List.mem_cons_of_mem _ z1, z2⟩)
    have S3 := J3.suite he3 hd3 na nL nF
    refine wpAny_handleBy_cons (codeAny_handlers_test ?_) (by intro q; cases q)
    have LT : PySem.W.Looks (model X.prog X.w) h3 (typeOf (.ref a)) (.ref C) := fun A Q E s k q => wpAny_typeOf_ref (k _ _ he3) (by rw [hz3.1]; exact q)
    have test : ∀ {Q : Value → Shared → Prop} {E : Value → Shared → Prop}, Q c { s' with heap := h3 } → wpAny (model X.prog X.w) (X.A.mark (some (.ref a))) (eval (.Name x np) X.env) Q E { s' with heap := h3 } := fun {Q E} q => by
      obtain ⟨hg, hdbg, hm | ⟨hm, hv, hnn⟩⟩ := hc
      · exact ld_glob (X := X.suite a ((a, oe3) :: (X.pn ++ pins))) S3 hg hm q hdbg
      · exact ld_blt (X := X.suite a ((a, oe3) :: (X.pn ++ pins))) S3 hg hm hv q hnn hdbg
    refine test ((PySem.W.exm_one (M := model X.prog X.w) J3.kIn LT hb1).here ?_)
    cases b with
    | true =>
      refine codeAny_handlers_suite_as (HandSPX.lands_againZ fl3 fun h4 fl4 up4 => ?_)
      obtain ⟨oe4, vs4, he4, hz4, hd4⟩ := fl4.there
      have J4 : Inv X pins σ1 (upd H1 a (exH a C d)) { s' with heap := h4 } := Inv_landV (s' := { s' with heap := h4 }) J nb fl4.1 ((up.trans up3).trans up4) os ag he4 hz4 hd4 na sn
      refine store_ok (X := X.suite a (X.pn ++ pins)) (v := .ref a) (Inv_inS J4 a) hN hi hloc rfl (fun s5 S5 => ?_) (.inr hln)
      refine wpAny_mono ((hsu a C d (X.pn ++ pins)).run [] s5 _ _ _ S5 (hyes rfl a na)) (fun f s6 hsp => ?_) (fun _ _ z => False.elim z)
      have fin : ∀ {σ6 : L2.St} {H6 : Hp} {Q : Shared → Prop}, Inv (X.suite a (X.pn ++ pins)) [] σ6 H6 s6 → (∀ s7, Inv X pins (σ6.set i none) H6 s7 → Q s7) →
          wpAny (model X.prog X.w) X.A (do bindName X.env n .none; unbindBehindTheSuite X.env n pos') (fun _ s7 => Q s7) X.xe s6 := fun {σ6 H6 Q} S6 hq => gone_ok (Inv_outS S6 ok) hN hi hln hq
      cases f with
      | next =>
        obtain ⟨σ6, H6, S6, q6⟩ := hsp
        exact fin S6 fun s7 J7 => ⟨_, _, J7, q6⟩
      | brk =>
        obtain ⟨σ6, H6, S6, q6⟩ := hsp
        exact fin S6 fun s7 J7 => ⟨_, _, J7, q6⟩
      | cont =>
        obtain ⟨σ6, H6, S6, q6⟩ := hsp
        exact fin S6 fun s7 J7 => ⟨_, _, J7, q6⟩
      | ret u =>
        obtain ⟨v6, σ6, H6, S6, r6, q6⟩ := hsp
        exact fin S6 fun s7 J7 => ⟨_, _, _, J7, r6, q6⟩
    | false =>
      show wpAny _ X.A (handleBy (.ref a) X.env []) _ _ _
      refine wpAny_handleBy_nil ?_
      obtain ⟨k1, k2, k3, oe, vs, T, oT, t2, w1, w2, w3, w4, w5⟩ := id fl3
      unfold PySem.passOn
      refine wpAny_bind (wpAny_field w1 w3 w4 ?_)
      rw [if_neg (show ¬ ((Value.ref T == Value.none) = true) from by simp)]
      have fin : wpAny (model X.prog X.w) X.A (setFlight (.ref a) X.env.frame) (fun _ s4 => wpAny (model X.prog X.w) X.A (throw (.ref a) : Sem Flow) (SP X pins D) X.xe s4) X.xe { s' with heap := h3 } := by
        rw [hf]
        refine HandSPX.setFlight_upZ fl3 fun h4 hh4 up4 => wpAny_throw (tk _ _ ?_)
        exact ⟨a, B, sI, pins, σ1, H1, .ref C, d, rfl, J, nb, (up.trans up3).trans up4, .inr (.inr (by rw [hs]; exact hh4)), na, os, ag, hno rfl⟩
      first
        | exact wpAny_bind (wpAny_pure (wpAny_bind fin))
        | exact wpAny_bind fin
  · cases f with
    | next =>
      obtain ⟨σ1, H1, J', q⟩ := hsp
      exact wpAny_execs_nil ⟨σ1, H1, J'.ofTry ok, q⟩
    | brk =>
      obtain ⟨σ1, H1, J', q⟩ := hsp
      exact ⟨σ1, H1, J'.ofTry ok, q⟩
    | cont =>
      obtain ⟨σ1, H1, J', q⟩ := hsp
      exact ⟨σ1, H1, J'.ofTry ok, q⟩
    | ret u =>
      obtain ⟨v, σ1, H1, J', r, q⟩ := hsp
      exact ⟨v, σ1, H1, J'.ofTry ok, r, q⟩
end
/-! ### the same over values -/
/-- what the try wishes of the body's exceptions: the clause's suite, or it goes on -/
def exT (X : Cx) (c : Value) (i : Nat) (suite : List Stmt) (k : AK) (ex : XG) : XG := fun Γ C fs M => ∃ b, PySem.W.exmOne X.K (.ref C) c = some b ∧
  (b = true → ∀ a pn, aSs (X.suite a pn) suite (Γ.set i (some (.exc C fs))) M { nx := fun Γ' M' => k.nx (Γ'.set i none) M', rt := k.rt, bk := fun Γ' M' => k.bk (Γ'.set i none) M', ct := fun Γ' M' => k.ct (Γ'.set i none) M' }) ∧ (b = false → ex Γ C fs M)
section
variable {X : Cx} {Γ : Gam} {M : Mem} {k : AK} {ex : XG} {x n : Str} {c : Value} {body suite : List Stmt} {b0 : Stmt} {np pos pos' : Pos}
theorem xrep_rep {K : PySem.W.Frag} {Hi : Hp} {a C : Addr} {cls : Value} {d : Option Addr} {fs : List (Str × Val)} (h : XRep K Hi cls d C fs) (na : Hi a = none) : Rep K (upd Hi a (exH a C d)) (.exc C fs) (.ref a) := by
  obtain ⟨_, ⟨rfl, rfl⟩ | ⟨dd, gs, rfl, h1, h2⟩⟩ := h
  · exact .exc0 upd_same
  · exact .exc upd_same (by rw [upd_ne (ne_of_none h1 na)]; exact h1) (h2.mono (same_upd na))
theorem try_core (i : Nat) (hN : X.N.Nodup) (hc : Names X x c) {W : WX} (tk : Takes X W)
    (hb : ∀ pn xe, Po (X.tr pn xe) → ySs (X.tr pn xe) body Γ M k (exT X c i (b0 :: suite) k ex)) {Hi H : Hp} {σ : L2.St} (ok : Ok X.K Hi M H) (en : EnvR X.K Hi Γ σ) {D : Ends} (q : Real X.K Hi k D) (y : XReal X.K Hi ex W)
    (hs : X.stack = X.env :: X.outer) (hf : X.env.frame = some X.env.locals) (hi : X.N[i]? = some n) (hln : X.env.kindOf n = some .local) :
    WS X (.Try body [.ExceptHandler (some (.Name x np)) (some n) (b0 :: suite) pos'] [] [] pos) D σ H := by
  refine ⟨_, ps_try_v (tb := fun W1 D1 σ1 H1 => ∀ pn xe, Takes (X.tr pn xe) W1 → PassesOwn (model X.prog X.w) X.A X.env xe → WB (X.tr pn xe) body D1 σ1 H1) (ts := fun a C d D1 σ1 H1 => ∀ pn, WB (X.suite a pn) (b0 :: suite) D1 σ1 H1) hs hf hN hi hln hc tk (fun W1 pn xe t1 p1 => ⟨fun pins s σ1 H1 D1 I1 h1 => pss_wb.run pins s σ1 H1 D1 I1 (h1 pn xe t1 p1)⟩) (fun a C d pn => ⟨fun pins s σ1 H1 D1 I1 h1 => pss_wb.run pins s σ1 H1 D1 I1 (h1 pn)⟩), fun pn xe t1 p1 => ?_⟩
  refine hb pn xe p1 _ t1 p1 Hi H σ ok en D q fun Γ1 C fs M1 σ1 Hi1 H1 cls d h1 s1 ok1 en1 r1 => ?_
  obtain ⟨b, hb1, hyes, hno⟩ := h1
  have ec := r1.1
  subst ec
  refine ⟨C, b, rfl, hb1, fun hbt a na pn2 => ?_, fun hbf => y Γ1 C fs M1 σ1 Hi1 H1 _ d (hno hbf) s1 ok1 en1 r1⟩
  have ni : Hi1 a = none := Ok.none ok1 na
  have s2 := same_upd (o := exH a C d) ni
  have q2 := q.up (s1.trans s2)
  refine hyes hbt a pn2 (upd Hi1 a (exH a C d)) _ _ (ok1.imm na) ((en1.mono s2).set (xrep_rep r1 ni)) _ ⟨fun Γ3 M3 σ3 Hi3 H3 h3 s3 ok3 en3 => ?_, fun d3 M3 v3 Hi3 H3 h3 s3 ok3 r3 => ?_, fun Γ3 M3 σ3 Hi3 H3 h3 s3 ok3 en3 => ?_, fun Γ3 M3 σ3 Hi3 H3 h3 s3 ok3 en3 => ?_⟩
  · exact q2.nx _ _ _ Hi3 H3 h3 s3 ok3 (env_none i en3)
  · exact q2.rt _ _ _ Hi3 H3 h3 s3 ok3 r3
  · exact q2.bk _ _ _ Hi3 H3 h3 s3 ok3 (env_none i en3)
  · exact q2.ct _ _ _ Hi3 H3 h3 s3 ok3 (env_none i en3)
/-- try: body except x as n: suite; nothing else leaves -/
theorem as_try (i : Nat) (hN : X.N.Nodup) (hc : Names X x c) (hb : ∀ pn xe, Po (X.tr pn xe) → ySs (X.tr pn xe) body Γ M k (exT X c i (b0 :: suite) k fun _ _ _ _ => False))
    (hs : X.stack = X.env :: X.outer := by rfl) (hf : X.env.frame = some X.env.locals := by rfl) (hi : X.N[i]? = some n := by rfl) (hln : X.env.kindOf n = some .local := by rfl) :
    aS X (.Try body [.ExceptHandler (some (.Name x np)) (some n) (b0 :: suite) pos'] [] [] pos) Γ M k := fun Hi H σ ok en D q =>
  try_core i hN hc takes_none5 hb ok en q (fun _ _ _ _ _ _ _ _ _ z => z.elim) hs hf hi hln
theorem ys_try (i : Nat) (hN : X.N.Nodup) (hc : Names X x c) (hb : ∀ pn xe, Po (X.tr pn xe) → ySs (X.tr pn xe) body Γ M k (exT X c i (b0 :: suite) k ex))
    (hs : X.stack = X.env :: X.outer := by rfl) (hf : X.env.frame = some X.env.locals := by rfl) (hi : X.N[i]? = some n := by rfl) (hln : X.env.kindOf n = some .local := by rfl) :
    yS X (.Try body [.ExceptHandler (some (.Name x np)) (some n) (b0 :: suite) pos'] [] [] pos) Γ M k ex := fun W tk po Hi H σ ok en D q y =>
  try_core i hN hc tk hb ok en q y hs hf hi hln
end
end Ab

/-! Ab41: a caught exception's fields, its class. -/
namespace Ab
open PySem PySem.Spec PyProof.Rows L2
section
variable {X : Cx} {Γ : Gam} {M : Mem} {P : Val → Mem → Prop} {a b : Expr} {pos p1 : Pos} {C : Addr} {f : Str} {d2 : Val} {fs : List (Str × Val)}
/-- e.f, e a caught exception -/
theorem ae_xf (T : XfC X.K C) (hno : PySem.W.findIn X.K (.ref C) f = some none) (ha : aE X a Γ M fun d M' => ∃ fs v, d = .exc C fs ∧ fs.lookup f = some v ∧ P v M') (hb : attributeBase a f X.env (eval a X.env) = eval a X.env := by rfl) : aE X (.Attribute a f pos) Γ M P := fun Hi H σ ok en Q q => by
  refine ⟨fun σ H Q => WE X a σ H fun x H1 => ∃ (p dd : Addr) (gs : List (Str × V)) (v : V), x = .ref p ∧ H1 p = some (exH p C (some dd)) ∧ H1 dd = some (.xd gs) ∧ gs.lookup f = some v ∧ Q v H1, ⟨fun pins s σ H Q I h => attr_of hb (thn (pe_we.run pins s σ H _ I h) fun u s1 hh => ?_)⟩, ?_⟩
  · obtain ⟨x, H1, I1, rx, p, dd, gs, v, rfl, ep, ed, l, q1⟩ := hh
    obtain rfl : u = Value.ref p := rx
    have y1 : ObjOk X.prog X.w H1 s1.heap p (exH p C (some dd)) := I1.hok p _ ep
    obtain ⟨⟨oe, vs, z1, z2, z3⟩, _⟩ := y1
    have y2 : ObjOk X.prog X.w H1 s1.heap dd (.xd gs) := I1.hok dd _ ed
    obtain ⟨mA, hns, hr⟩ := y2
    obtain ⟨od, ho, hl⟩ := lookIn_ns hns
    obtain ⟨u, hu, ru⟩ := RelO.some_of (v := v) (o := mA f) (by rw [← l]; exact hr f)
    have J : PySem.W.InstAt s1.heap p oe C (some od) := ⟨z1, z2.1, by unfold PySem.W.notCls; rw [z3] <;> rfl, by rw [z2.2]; exact ho⟩
    exact HandSPX.exc_get I1.kIn J T.ga T.gg T.exC (PySem.W.findObj_own T.hdC hno rfl (by rw [hl, hu])) (handed_of ru) ⟨v, H1, I1.tok _, ru, q1⟩
  · refine ha Hi H σ ok en _ fun x M1 v Hi1 H1 h1 s1 ok1 r1 => ?_
    obtain ⟨fs, w, rfl, hl, hp⟩ := h1
    cases r1 with
    | exc e1 e2 rf =>
      obtain ⟨v, hv, rv⟩ := rf.lookup hl
      exact ⟨_, _, _, v, rfl, ok1.im _ _ e1, ok1.im _ _ e2, hv, q _ _ _ Hi1 H1 hp s1 ok1 rv⟩
    | exc0 e1 => cases hl
theorem call_isX : CallR X (.builtin "isinstance") (fun xs H Q => ∃ (p C : Addr) (d : Option Addr) (c : V) (u : Value) (b : Bool), xs = [.ref p, c] ∧ H p = some (exH p C d) ∧ (∀ dd, d = some dd → ∃ gs, H dd = some (.xd gs)) ∧ ExcC X.K C ∧ ClsV c u ∧ PySem.W.kitOne X.K (.ref C) u = some b ∧ Q (.bl b) H) := by
  intro pins s σ H xs us Q I r h
  obtain ⟨p, C, d, c, u, b, rfl, hp, hd, EC, k, e, q⟩ := h
  obtain ⟨u1, u2, rfl, r1, r2⟩ := vals2 r
  have e2 := k.eq r2
  subst e2
  cases r1
  have y1 : ObjOk X.prog X.w H s.heap p (exH p C d) := I.hok p _ hp
  obtain ⟨⟨oe, vs, z1, z2, z3⟩, _⟩ := y1
  obtain ⟨od, J⟩ : ∃ od, PySem.W.InstAt s.heap p oe C od := by
    cases d with
    | none => exact ⟨none, z1, z2.1, by unfold PySem.W.notCls; rw [z3] <;> rfl, by rw [z2.2]; trivial⟩
    | some dd =>
      obtain ⟨gs, hg⟩ := hd dd rfl
      have y2 : ObjOk X.prog X.w H s.heap dd (.xd gs) := I.hok dd _ hg
      obtain ⟨mA, hns, _⟩ := y2
      obtain ⟨od, ho, _⟩ := lookIn_ns hns
      exact ⟨some od, z1, z2.1, by unfold PySem.W.notCls; rw [z3] <;> rfl, by rw [z2.2]; exact ho⟩
  have hcl : (PySem.W.clsIn X.K C).isSome = true := by
    have h0 := EC.hd
    unfold PySem.W.hasDictIn at h0
    cases e : PySem.W.clsIn X.K C with
    | none => simp [e] at h0
    | some _ => rfl
  exact PySem.W.kia_one (PySem.W.kitx_exc (od := od) hcl EC.hg EC.hk EC.hs EC.ha EC.hn EC.ht EC.hm) I.kIn J e (fun z => nomatch z) fun tk => ⟨.bl b, H, I.tok tk, rfl, q⟩
/-- isinstance(e, D), e a caught exception -/
theorem ae_isx {u : Value} {bb : Bool} (hm : X.mg "isinstance" = none) (EC : ExcC X.K C) (ha : aV X a Γ M (.exc C fs)) (hb : aV X b Γ M d2) (hc : ClV d2 u) (hk : PySem.W.kitOne X.K (.ref C) u = some bb) (h : P (.bl bb) M) (hg : Gl X "isinstance" := by rfl)
    (hs : starEach [a, b] X.env = (false, eval a X.env) :: starEach [b] X.env := by rfl) (hs2 : starEach [b] X.env = (false, eval b X.env) :: starEach [] X.env := by rfl) (hpl : (backTo pos (starEach [b] X.env)).any (·.1) = false := by rfl) : aE X (.Call (.Name "isinstance" p1) [a, b] [] pos) Γ M P :=
  ae_callB call_isX hm (by decide +kernel) (aa_cons (ha.val (aa_cons (hb.val (aa_nil fun Hi H vs ok r Q q => by
    cases r with
    | cons r1 r2 =>
      cases r2 with
      | cons r2 r3 =>
        cases r3
        have kc : ∀ {v : V}, Rep X.K Hi d2 v → ClsV v u := fun {v} r => by
          cases hc with
          | ty n => cases r; exact .ty n
          | own C => cases r; exact .own C
        cases r1 with
        | exc e1 e2 rf => exact ⟨_, C, _, _, u, bb, rfl, ok.im _ _ e1, (fun dd e => by cases e; exact ⟨_, ok.im _ _ e2⟩), EC, kc r2, hk, q _ _ _ Hi H h (Same.refl _) ok (.bl _)⟩
        | exc0 e1 => exact ⟨_, C, _, _, u, bb, rfl, ok.im _ _ e1, (fun dd e => nomatch e), EC, kc r2, hk, q _ _ _ Hi H h (Same.refl _) ok (.bl _)⟩)) hs2)) hs) hg (he := hs) (hpl := hpl)
end
end Ab

/-! Ab42: loops whose body may raise; slots and cells forgotten. -/
namespace Ab
open PySem PySem.Spec PyProof.Rows L2
section
variable {X : Cx} {Γ : Gam} {M : Mem} {k : AK} {ex : XG} {c : Expr} {pos : Pos} {sts : List Stmt} {st : Stmt}
theorem ys_forJ {tg iter : Expr} {body : List Stmt} (hc : X.calm = true)
    (hi : aJ X tg iter Γ M fun n it M1 => ∃ I : Nat → Gam → Mem → Prop, I 0 Γ M1 ∧ (∀ i Γ M, i < n → I i Γ M → aG X tg (it i) Γ M fun Γ2 M2 => ySs X body Γ2 M2 { k with nx := I (i + 1), ct := I (i + 1), bk := k.nx } ex) ∧ ∀ Γ M, I n Γ M → k.nx Γ M)
    (hf : ∀ x, foldedSetIterable iter X.env x = pure x := by intro _; rfl) : yS X (.For tg iter body [] pos) Γ M k ex := fun W tk po Hi H σ ok en D q y => by
  refine ⟨_, ps_for po hc pi_wi pg_wg pss_wb hf, hi Hi H σ ok en _ fun J n it M1 Hi1 H1 h1 s1 ok1 w => ?_⟩
  obtain ⟨I, h0, hs, hd⟩ := h1
  refine for_it w (fun i σ' H' => ∃ Γ' M' Hi', I i Γ' M' ∧ Same Hi1 Hi' ∧ Ok X.K Hi' M' H' ∧ EnvR X.K Hi' Γ' σ') ⟨Γ, M1, Hi1, h0, Same.refl _, ok1, en.mono s1⟩ ?_ ?_ ?_
  · rintro i σ' H' hi ⟨Γ', M', Hi', h2, s2, ok2, en2⟩
    exact ⟨Hi', M', s2, ok2⟩
  · rintro i v σ' H' H'' hi ⟨Γ', M', Hi', h2, s2, ok2, en2⟩ hy
    obtain ⟨Hi3, s3, ok3, r3⟩ := hy Hi' M' s2 ok2
    refine hs i Γ' M' hi h2 Hi3 H'' σ' v ok3 (en2.mono s3) r3 _ fun Γ4 M4 σ4 Hi4 H4 h4 s4 ok4 en4 => ?_
    have sA := (s2.trans s3).trans s4
    have sB := s1.trans sA
    exact h4 W tk po Hi4 H4 σ4 ok4 en4 _ ⟨fun Γ5 M5 σ5 Hi5 H5 h5 s5 ok5 en5 => ⟨Γ5, M5, Hi5, h5, sA.trans s5, ok5, en5⟩, (q.up sB).rt, (q.up sB).nx, fun Γ5 M5 σ5 Hi5 H5 h5 s5 ok5 en5 => ⟨Γ5, M5, Hi5, h5, sA.trans s5, ok5, en5⟩⟩ (y.up sB)
  · rintro σ' H' ⟨Γ', M', Hi', h2, s2, ok2, en2⟩
    exact q.nx Γ' M' σ' Hi' H' (hd Γ' M' h2) (s1.trans s2) ok2 en2
theorem ys_whileJ {body : List Stmt} (I : Nat → Gam → Mem → Prop) (n : Nat) (h0 : I n Γ M)
    (hs : ∀ n Γ M, I n Γ M → aT X c Γ M fun b M1 => (b = true → ySs X body Γ M1 { k with nx := fun Γ' M' => ∃ m, m < n ∧ I m Γ' M', ct := fun Γ' M' => ∃ m, m < n ∧ I m Γ' M', bk := k.nx } ex) ∧ (b = false → k.nx Γ M1)) : yS X (.While c body [] pos) Γ M k ex := fun W tk po Hi H σ ok en D q y => by
  refine ⟨_, ps_while po pt_wt pss_wb, fun m σ' H' => ∃ Γ' M' Hi', I m Γ' M' ∧ Same Hi Hi' ∧ Ok X.K Hi' M' H' ∧ EnvR X.K Hi' Γ' σ', ⟨n, Γ, M, Hi, h0, Same.refl _, ok, en⟩, ?_⟩
  rintro m σ' H' ⟨Γ', M', Hi', h2, s2, ok2, en2⟩
  refine hs m Γ' M' h2 Hi' H' σ' ok2 en2 _ fun b M3 Hi3 H3 h3 s3 ok3 => ?_
  cases b with
  | true =>
    refine iteT ⟨fun σ5 H5 => ∃ Γ5 M5 Hi5, (∃ m', m' < m ∧ I m' Γ5 M5) ∧ Same Hi3 Hi5 ∧ Ok X.K Hi5 M5 H5 ∧ EnvR X.K Hi5 Γ5 σ5, ?_, ?_⟩
    · rintro σ5 H5 ⟨Γ5, M5, Hi5, ⟨m', hl, h5⟩, s5, ok5, en5⟩
      exact ⟨m', hl, Γ5, M5, Hi5, h5, (s2.trans s3).trans s5, ok5, en5⟩
    · have q3 := q.up (s2.trans s3)
      exact h3.1 rfl W tk po Hi3 H3 σ' ok3 (en2.mono s3) _ ⟨fun Γ5 M5 σ5 Hi5 H5 h5 s5 ok5 en5 => ⟨Γ5, M5, Hi5, h5, s5, ok5, en5⟩, q3.rt, q3.nx, fun Γ5 M5 σ5 Hi5 H5 h5 s5 ok5 en5 => ⟨Γ5, M5, Hi5, h5, s5, ok5, en5⟩⟩ (y.up (s2.trans s3))
  | false => exact iteF (q.nx Γ' M3 σ' Hi3 H3 (h3.2 rfl) (s2.trans s3) ok3 (en2.mono s3))
/-! slots and cells may be forgotten -/
theorem yss_wk {Γ' : Gam} {M' : Mem} (l : Le Γ' Γ) (l2 : M'.Sublist M) (h : ySs X sts Γ' M' k ex) : ySs X sts Γ M k ex := fun W tk po Hi H σ ok en D q y => h W tk po Hi H σ (ok.sub l2) (l.env en) D q y
theorem ySs.mono {k' : AK} (h : ySs X sts Γ M k ex) (f1 : ∀ Γ M, k.nx Γ M → k'.nx Γ M) (f2 : ∀ d M, k.rt d M → k'.rt d M) (f3 : ∀ Γ M, k.bk Γ M → k'.bk Γ M) (f4 : ∀ Γ M, k.ct Γ M → k'.ct Γ M) : ySs X sts Γ M k' ex := fun W tk po Hi H σ ok en D q y =>
  h W tk po Hi H σ ok en D ⟨fun Γ M σ Hi' H' p => q.nx Γ M σ Hi' H' (f1 Γ M p), fun d M v Hi' H' p => q.rt d M v Hi' H' (f2 d M p), fun Γ M σ Hi' H' p => q.bk Γ M σ Hi' H' (f3 Γ M p), fun Γ M σ Hi' H' p => q.ct Γ M σ Hi' H' (f4 Γ M p)⟩ y
theorem ys_forW {tg iter : Expr} {body : List Stmt} (hc : X.calm = true)
    (hi : aJ X tg iter Γ M fun n it M1 => ∃ I : Nat → Gam → Mem → Prop, Wk (I 0) Γ M1 ∧ (∀ i Γ M, i < n → I i Γ M → aG X tg (it i) Γ M fun Γ2 M2 => ySs X body Γ2 M2 { k with nx := Wk (I (i + 1)), ct := Wk (I (i + 1)), bk := k.nx } ex) ∧ ∀ Γ M, I n Γ M → k.nx Γ M)
    (hk : ∀ Γ Γ' M M', Le Γ' Γ → M'.Sublist M → k.nx Γ' M' → k.nx Γ M := by intro _ _ _ _ l l2 h; first | exact yss_wk l l2 h | exact as_wk l l2 h | exact Wk.mono l l2 h | exact h.elim)
    (hf : ∀ x, foldedSetIterable iter X.env x = pure x := by intro _; rfl) : yS X (.For tg iter body [] pos) Γ M k ex :=
  ys_forJ hc (fun Hi H σ ok en R' q => hi Hi H σ ok en R' fun J n it M1 Hi1 H1 ⟨I, h0, hs, hd⟩ => q J n it M1 Hi1 H1 ⟨fun i => Wk (I i), h0, fun i Γ' M' hi' ⟨Γ0, M0, h, l, l2⟩ => fun Hi H σ v ok en r Q q => hs i Γ0 M0 hi' h Hi H σ v (ok.sub l2) (l.env en) r Q q, fun Γ' M' ⟨Γ0, M0, h, l, l2⟩ => hk _ _ _ _ l l2 (hd Γ0 M0 h)⟩) hf
theorem ys_whileW {body : List Stmt} (I : Nat → Gam → Mem → Prop) (n : Nat) (h0 : Wk (I n) Γ M)
    (hs : ∀ n Γ M, I n Γ M → ∃ p, TP X c Γ M p ∧ (p → ySs X body Γ M { k with nx := Wk fun Γ' M' => ∃ m, m < n ∧ I m Γ' M', ct := Wk fun Γ' M' => ∃ m, m < n ∧ I m Γ' M', bk := k.nx } ex) ∧ (¬ p → k.nx Γ M))
    (hk : ∀ Γ Γ' M M', Le Γ' Γ → M'.Sublist M → k.nx Γ' M' → k.nx Γ M := by intro _ _ _ _ l l2 h; first | exact yss_wk l l2 h | exact as_wk l l2 h | exact Wk.mono l l2 h | exact h.elim) : yS X (.While c body [] pos) Γ M k ex :=
  ys_whileJ (fun n => Wk (I n)) n h0 fun n Γ' M' ⟨Γ0, M0, h, l, l2⟩ => by
    obtain ⟨p, ⟨b, hb, i⟩, h1, h2⟩ := hs n Γ0 M0 h
    intro Hi H σ ok en Q q
    refine hb Hi H σ (ok.sub l2) (l.env en) Q fun b' M1 Hi' H' hh => ?_
    obtain ⟨rfl, rfl⟩ := hh
    refine q _ _ Hi' H' ⟨fun z => ?_, fun z => hk _ _ _ _ l (List.Sublist.refl _) (h2 fun y => by rw [i.mpr y] at z; cases z)⟩
    refine yss_wk l (List.Sublist.refl _) ((h1 (i.mp z)).mono ?_ (fun _ _ h => h) (fun _ _ h => h) ?_)
    · rintro Γ5 M5 ⟨Γ6, M6, ⟨m, hm, h6⟩, l6, l7⟩
      exact ⟨m, hm, Γ6, M6, h6, l6, l7⟩
    · rintro Γ5 M5 ⟨Γ6, M6, ⟨m, hm, h6⟩, l6, l7⟩
      exact ⟨m, hm, Γ6, M6, h6, l6, l7⟩
end
end Ab

/-! Ab43: defs that may raise, with defaults or keywords. -/
namespace Ab
open PySem PySem.Spec PyProof.Rows L2
section
variable {P : Program} {w : World} {K : PySem.W.Frag} {mg : Str → Option Value} {base : Heap} {x qual : Str} {f : Addr} {fd : FuncData}
theorem fne_dflG {params : Arguments} {body : List Stmt} {sc : Scope} {dvs : List V} {kws : List (Str × V)} {N ps ks : List Str} {k n : Nat} {s0 : ASe} (g : {α : Type} → List α → List α → List α → List α) (F : FunD K x qual params body sc dvs kws f fd) (S : FnScope N ps sc) (hd : dvs ≠ []) (dd : List Val) (hdd : ∀ H, RepA K H dd dvs)
    (h : ∀ (T : Addr) (kV doc pm : Value) (an : Option Addr) (cdv ct : Value) (us ws its : List Value), us.length = n → ws.length = ks.length → its.length = dvs.length →
      ∃ k, bindArgs (PySem.W.fnOf x qual params body sc (.ref T) kV doc pm an cdv ct) ⟨us, ks.zip ws⟩ = seqItems? (.ref T) >>= k ∧ k (some its.toArray) = pure (ps.zip (g us ws its)))
    (hv : ∀ {vs zs ys : List V} {us ws its : List Value}, Vals vs us → Vals zs ws → Vals ys its → Vals (g vs zs ys) (g us ws its))
    (hr : ∀ {H : Hp} {ds es fs : List Val} {vs zs ys : List V}, RepA K H ds vs → RepA K H es zs → RepA K H fs ys → RepA K H (g ds es fs) (g vs zs ys))
    (len : ∀ ds M R PE, s0 ds M R PE → ds.length = ps.length) (hb : BodyE P w K mg base k f N qual sc body s0) : FnE P w K mg base (k + 1) f ks (spE K fun ds es M R PE => ds.length = n ∧ s0 (g ds es dd) M R PE) := by
  obtain ⟨oc, od, dV, kV, doc, pm, an, cdv, ct, osl, e, lk, hcd, hD, hK⟩ := F.ex
  rcases hD with ⟨z, _⟩ | ⟨_, T, o, its, m, e2, lT, oT, rT⟩
  · exact absurd z hd
  · subst e2
    subst e
    refine fne_kbn (n := n) (ks := ks) (fun ds es => g ds es dd) F S (g := fun us ws => g us ws its) (gV := fun vs zs => g vs zs dvs) ⟨fun s us ws X l2 h2 => ?_, fun r1 r2 => hv r1 r2 rT⟩ (fun H ds vs es zs r1 r2 _ _ => hr r1 r2 (hdd H)) len hb
    obtain ⟨k', w1, w2⟩ := h T kV doc pm an cdv ct us ws its l2 h2 rT.length.symm
    refine BindsTo.of_looks fun M => ?_
    show PySem.W.Looks M s.heap (bindArgs _ ⟨us, ks.zip ws⟩) _
    rw [w1]
    exact looks_items X lT oT (.of_pure w2)
theorem fne_kw {params : Arguments} {body : List Stmt} {sc : Scope} {kws : List (Str × V)} {N ps ks : List Str} {k n : Nat} {s0 : ASe} (F : FunD K x qual params body sc [] kws f fd) (S : FnScope N ps sc)
    (h : ∀ (kV doc pm : Value) (an : Option Addr) (cdv ct : Value) (us ws : List Value), us.length = n → ws.length = ks.length → bindArgs (PySem.W.fnOf x qual params body sc .none kV doc pm an cdv ct) ⟨us, ks.zip ws⟩ = pure (ps.zip (us ++ ws)))
    (len : ∀ ds M R PE, s0 ds M R PE → ds.length = ps.length) (hb : BodyE P w K mg base k f N qual sc body s0) : FnE P w K mg base (k + 1) f ks (spE K fun ds es M R PE => ds.length = n ∧ s0 (ds ++ es) M R PE) :=
  fne_kbn (fun ds es => ds ++ es) F S (kbn_kw F h) (fun H ds vs es zs r1 r2 _ _ => r1.append r2) len hb
end
end Ab

/-! Ab44: repr of a number, a truth value, None, a text -/
namespace Ab
open PySem PySem.Spec PyProof.Rows L2
def scS : V → Option Str
  | .int i => if i.natAbs.log2 < 1920 then some (toString i) else none
  | .bl b => some (if b then "True" else "False")
  | .non => some "None"
  | .str x => if (reprText x).length ≤ sizeLine then some (reprText x) else none
  | _ => none
/-- its text by repr, if it is such a value -/
def rprS : Val → Option Str
  | .int i => if i.natAbs.log2 < 1920 then some (toString i) else none
  | .bl b => some (if b then "True" else "False")
  | .non => some "None"
  | .str x => if (reprText x).length ≤ sizeLine then some (reprText x) else none
  | _ => none
section
variable {X : Cx} {Γ : Gam} {M M' : Mem} {P : Val → Mem → Prop} {e a b c o : Expr} {pos p1 : Pos} {d v : Val} {t : Str} {n : Nat}
theorem call_reprS : CallR X (.builtin "repr") (fun xs H Q => ∃ x t, xs = [x] ∧ scS x = some t ∧ Q (.str t) H) := by
  intro pins s σ H xs us Q I r h
  obtain ⟨x, t, rfl, hx, q⟩ := h
  obtain ⟨u, rfl, r1⟩ := vals1 r
  cases x with
  | int i =>
    obtain ⟨t', rfl⟩ := r1
    have hy : (if i.natAbs.log2 < 1920 then some (Str.ofString (toString i)) else none) = some t := hx
    by_cases c : i.natAbs.log2 < 1920
    · rw [if_pos c] at hy
      cases hy
      exact PySem.P.repr_of_int c ⟨.str _, H, I.tok _, ⟨_, rfl⟩, q⟩
    · rw [if_neg c] at hy
      cases hy
  | bl b =>
    cases hx
    cases r1
    exact PySem.P.repr_of_bool ⟨.str _, H, I.tok _, ⟨_, rfl⟩, q⟩
  | non =>
    cases hx
    cases r1
    exact PySem.P.repr_of_none ⟨.str _, H, I.tok _, ⟨_, rfl⟩, q⟩
  | str y =>
    obtain ⟨t', rfl⟩ := r1
    have hy : (if (reprText y).length ≤ sizeLine then some (reprText y) else none) = some t := hx
    by_cases c : (reprText y).length ≤ sizeLine
    · rw [if_pos c] at hy
      cases hy
      exact PySem.P.repr_of_str ⟨.str _, H, I.tok _, ⟨_, rfl⟩, q⟩ c
    · rw [if_neg c] at hy
      cases hy
  | byt y => exact nomatch hx
  | flt y => exact nomatch hx
  | ref y => exact nomatch hx
  | ty y => exact nomatch hx
theorem av_reprS (hm : X.mg "repr" = none) (ha : aV X a Γ M d) (h : rprS d = some t)
    (hg : Gl X "repr" := by rfl) (hst : starEach [a] X.env = [(false, eval a X.env)] := by rfl) : aV X (.Call (.Name "repr" p1) [a] [] pos) Γ M (.str t) :=
  ae_callB call_reprS hm (by decide +kernel) (aa_cons (ha.val (aa_nil fun Hi H vs ok r Q q => by
    cases r with
    | cons r1 r2 =>
      cases r2
      cases d with
      | int i => cases r1; exact ⟨_, t, rfl, h, q _ _ _ Hi H ⟨rfl, rfl⟩ (Same.refl _) ok (.str _)⟩
      | bl i => cases r1; exact ⟨_, t, rfl, h, q _ _ _ Hi H ⟨rfl, rfl⟩ (Same.refl _) ok (.str _)⟩
      | non => cases r1; exact ⟨_, t, rfl, h, q _ _ _ Hi H ⟨rfl, rfl⟩ (Same.refl _) ok (.str _)⟩
      | str i => cases r1; exact ⟨_, t, rfl, h, q _ _ _ Hi H ⟨rfl, rfl⟩ (Same.refl _) ok (.str _)⟩
      | lst i => exact nomatch h
      | tup i => exact nomatch h
      | ty i => exact nomatch h
      | ptr i => exact nomatch h
      | obj i j => exact nomatch h
      | exc i j => exact nomatch h)) hst) hg (he := hst) (hpl := rfl)
end
end Ab

/-! Ab45: classmethods (with keywords), making an instance through a local name, zip, not in, isinstance of several classes, constants of a class -/
namespace Ab
open PySem PySem.Spec PyProof.Rows L2
/-! ### classmethods -/
theorem callWith_MKW {K : PySem.W.Frag} {M : Model} {A : Around} {s : Shared} {E : Value → Shared → Prop} {env : Env} {pos : Pos} {q g : Addr} {self : Value} {Q : Value → Shared → Prop} {e : Expr} {rest : List Expr} {kws : List Keyword} (hf : PySem.W.fnIn K g = true) (hall : (backToKw pos (keywordEach kws env)).all (·.1.isSome) = true)
    (h : wpAny M A (spliced (backTo pos (starEach (e :: rest) env))) (fun vs s₁ => wpAny M A (evalAll ((backToKw pos (keywordEach kws env)).map (·.2)))
      (fun ks s₂ => PySem.W.MethP K q g self s₂.heap ∧ wpAny M A (call (.ref q) vs (((backToKw pos (keywordEach kws env)).filterMap (·.1)).zip ks)) Q E s₂) E s₁) E s)
    (hplain : ((backTo pos (starEach (e :: rest) env)).any (·.1) || (backToKw pos (keywordEach kws env)).any (·.1.isNone)) = false := by rfl) (he : starEach (e :: rest) env = (false, eval e env) :: starEach rest env := by rfl) :
    wpAny M A (callWith pos (.ref q) [] (backTo pos (starEach (e :: rest) env)) (backToKw pos (keywordEach kws env))) Q E s :=
  PySem.W.callWith_of hplain (PySem.W.keeps_M hf) (PyProof.Rows.evalArgs_kw2 hall h he)
section
variable {X : Cx} {Γ : Gam} {M : Mem} {P : Val → Mem → Prop} {o e a b : Expr} {es : List Expr} {pos p1 apos : Pos} {kws : List Keyword} {n q : Nat} {m x : Str} {C : Addr} {ks : List Str} {sx : ASx} {d d1 d2 : Val}
/-- C.m(e, .., k=..) -/
theorem ae_cmeth {mc : Value} {p g : Addr} {pl : Sem Bool} (r : ClX.CRead X.K C mc) (cm : ClX.CMet X.K C mc m p g) (F : FnX X.prog X.w X.K X.mg X.base n g ks (spX X.K sx)) (hr : Rm q X.A) (hq : n ≤ q) (ho : aV X o Γ M (.ptr C))
    (h : aA X (e :: es) Γ M fun ds M1 => aKw X kws Γ M1 fun zs M2 => zs.length = ks.length ∧ sx (.ptr C :: ds) zs M2 P)
    (hall : (backToKw pos (keywordEach kws X.env)).all (·.1.isSome) = true := by rfl) (hks : (backToKw pos (keywordEach kws X.env)).filterMap (·.1) = ks := by rfl)
    (he : starEach (e :: es) X.env = (false, eval e X.env) :: starEach es X.env := by rfl) (hpl : ((backTo pos (starEach (e :: es) X.env)).any (·.1) || (backToKw pos (keywordEach kws X.env)).any (·.1.isNone)) = false := by rfl)
    (ht : eval (.Call (.Attribute o m apos) (e :: es) kws pos) X.env = (do
      let ov ← eval o X.env
      standAt apos.atName
      let (f, first) ← holding [ov] (getMethod ov m pl)
      callWith pos f first (backTo pos (starEach (e :: es) X.env)) (backToKw pos (keywordEach kws X.env))) := by rfl) : aE X (.Call (.Attribute o m apos) (e :: es) kws pos) Γ M P := fun Hi H σ ok en Q qq => by
  refine ⟨fun σ H Q => WE X o σ H fun x H0 => x = .ref C ∧ WA X (e :: es) σ H0 fun vs H1 => WK X kws σ H1 fun zs H2 => zs.length = ks.length ∧ spX X.K sx (.ref C :: vs) zs H2 Q, ⟨fun pins s σ H Q I h => ?_⟩, ?_⟩
  · refine PySem.W.methodCall_KW (pl := pl) (thn (pe_we.run pins s σ H _ I h) fun u s1 ⟨x, H1, I1, rx, ex, q⟩ => ?_) ht
    subst ex
    obtain rfl : u = Value.ref C := rx
    refine ClX.getmethcm_ok I1 r cm fun s' I2 => ?_
    refine callWith_MKW (self := .ref C) cm.fi hall (thn (pa_wa.run pos _ _ σ H1 _ I2 q) fun us s2 ⟨vs, H2, I3, rv, q2⟩ => ?_) hpl he
    refine thn (pk_wk.run pos _ s2 σ H2 _ I3 q2) fun ws s3 ⟨zs, H3, I4, rz, l2, q3⟩ => ⟨⟨ClX.pin_at I4, I4.kIn⟩, ?_⟩
    rw [hks]
    have z : wpAny (model X.prog X.w) X.A (call (.ref s1.heap.objs.size) us (ks.zip ws)) (EP X ((s1.heap.objs.size, PySem.W.methodObj (.ref g) (.ref C)) :: pins) σ Q) X.xe s3 := by
      refine wpAny_call (PySem.W.method_call (ClX.pin_at I4) (codeAny_mono (F.run X.A X.stack s3 H3 (.ref C :: us) ws (.ref C :: vs) zs Q (hr.mono hq) I4.env0 (.cons rfl rv) rz l2 q3) fun r s'' hq' => ?_))
      cases r with
      | error e => exact False.elim hq'
      | ok fl =>
        cases fl with
        | ret u => exact I4.after hq'
        | next => exact False.elim hq'
        | brk => exact False.elim hq'
        | cont => exact False.elim hq'
    exact thn z fun _ _ y => ClX.unpinE y
  · refine ho Hi H σ ok en _ fun x M0 v0 Hi0 H0 h0 s0 ok0 r0 => ?_
    obtain ⟨rfl, rfl⟩ := h0
    cases r0
    refine ⟨rfl, ?_⟩
    refine h Hi0 H0 σ ok0 (en.mono s0) _ fun ds M1 vs Hi1 H1 h1 s1 ok1 r1 => ?_
    refine h1 Hi1 H1 σ ok1 (en.mono (s0.trans s1)) _ fun zs M2 ws Hi2 H2 h2 s2 ok2 r2 => ?_
    exact ⟨r2.length.symm.trans h2.1, Hi2, M2, _, zs, P, .cons (.ptr C) (r1.mono s2), r2, ok2, h2.2, qq.up ((s0.trans s1).trans s2)⟩
/-- x(e, .., k=..), x a local name that holds the class at C -/
theorem ae_makeL {f : Addr} (i : Nat) (Mk_ : Mk X.K C f) (F : FnX X.prog X.w X.K X.mg X.base n f ks (spX X.K sx)) (hr : Rm q X.A) (hq : n + 1 ≤ q) (hi : Γ[i]? = some (some (.ptr C)))
    (h : aA X (e :: es) Γ M fun ds M1 => aKw X kws Γ M1 fun zs M2 => zs.length = ks.length ∧ ∀ p, p ∉ M2.map (·.1) → sx (.ptr p :: ds) zs ((p, .ins C []) :: M2) (fun v M3 => v = .non ∧ P (.ptr p) M3))
    (hN : X.N[i]? = some x := by rfl) (hv : Vis X.env.scope x := by first | exact Or.inl rfl | exact Or.inr (Or.inl rfl) | exact Or.inr (Or.inr rfl)) (hall : (backToKw pos (keywordEach kws X.env)).all (·.1.isSome) = true := by rfl) (hks : (backToKw pos (keywordEach kws X.env)).filterMap (·.1) = ks := by rfl) (hdb : (x == ("__debug__" : Str)) = false := by decide) (hcd : (x == ("__classdict__" : Str)) = false := by decide)
    (he : starEach (e :: es) X.env = (false, eval e X.env) :: starEach es X.env := by rfl) (hpl : ((backTo pos (starEach (e :: es) X.env)).any (·.1) || (backToKw pos (keywordEach kws X.env)).any (·.1.isNone)) = false := by rfl) : aE X (.Call (.Name x p1) (e :: es) kws pos) Γ M P := fun Hi H σ ok en Q qq => by
  refine ⟨fun σ H Q => σ[i]? = some (some (.ref C)) ∧ WA X (e :: es) σ H fun vs H1 => WK X kws σ H1 fun zs H2 => zs.length = ks.length ∧ ∀ x dx, H2 x = none → H2 dx = none → dx ≠ x → spX X.K sx (.ref x :: vs) zs (upd (upd H2 dx (.own x)) x (.ins C dx [])) (fun v H3 => v = .non ∧ Q (.ref x) H3), ⟨fun pins s σ H Q I h => ?_⟩, ?_⟩
  · obtain ⟨hs, h⟩ := h
    refine wpAny_Call_Name_kw (thn ((pe_var (pos := p1) hN hv hdb hcd).run pins s σ H (fun v H1 => v = .ref C ∧ H1 = H) I ⟨.ref C, hs, rfl, rfl⟩) fun u s0 ⟨v, H0, I0, r0, q0⟩ => ?_)
    obtain ⟨ev, eH⟩ := q0
    subst ev
    rw [eH] at I0
    obtain rfl : u = Value.ref C := r0
    refine PySem.W.callWith_KW (first := []) (h₀ := X.base) I.ok.mod.kin Mk_.kp hall (thn (pa_wa.run pos pins s0 σ H _ I0 h) fun us s1 ⟨vs, H1, I1, r, q⟩ => ?_) hpl he
    refine thn (pk_wk.run pos pins s1 σ H1 _ I1 q) fun ws s2 ⟨zs, H2, I2, rz, l2, q2⟩ => ⟨I2.kIn, ?_⟩
    rw [hks]
    exact run_mk Mk_ F (hr.mono hq) I2 r rz l2 q2
  · have hσ : σ[i]? = some (some (.ref C)) := by
      obtain ⟨v, h1, h2⟩ := en.2 _ _ hi
      cases h2
      exact h1
    refine ⟨hσ, ?_⟩
    refine h Hi H σ ok en _ fun ds M1 vs Hi1 H1 h1 s1 ok1 r1 => ?_
    refine h1 Hi1 H1 σ ok1 (en.mono s1) _ fun zs M2 ws Hi2 H2 h2 s2 ok2 r2 => ?_
    refine ⟨r2.length.symm.trans h2.1, fun x dx hx hdx hne => ?_⟩
    have s3 := same_upd (o := .own x) (ok2.none hdx)
    have ok3 : Ok X.K (upd Hi2 dx (.own x)) M2 (upd H2 dx (.own x)) := ok2.imm hdx
    have hx3 : upd H2 dx (.own x) x = none := by rw [upd_ne hne.symm]; exact hx
    refine ⟨_, (x, .ins C []) :: M2, .ptr x :: ds, zs, _, .cons (.ptr x) (r1.mono (s2.trans s3)), r2.mono s3, ok3.new hx3 ⟨dx, [], rfl, .nil⟩, h2.2 x (ok2.fresh hx), ?_⟩
    rintro d M4 v Hi4 H4 ⟨rfl, hp⟩ s4 ok4 r4
    cases r4
    exact ⟨rfl, qq _ _ _ Hi4 H4 hp (((s1.trans s2).trans s3).trans s4) ok4 (.ptr x)⟩
/-- C.f, a constant of the class -/
theorem av_cval {mc u : Value} {f : Str} {v : V} (r : ClX.CRead X.K C mc) (k : ClX.CVal X.K C mc f v u) (ha : aV X a Γ M (.ptr C)) (rep : ∀ H, Rep X.K H d v) (hb : attributeBase a f X.env (eval a X.env) = eval a X.env := by rfl) : aV X (.Attribute a f pos) Γ M d := fun Hi H σ ok en Q q => by
  refine ⟨_, ClX.pe_cval pe_we hb, ?_⟩
  refine ha Hi H σ ok en _ fun x M1 w Hi1 H1 h1 s1 ok1 r1 => ?_
  obtain ⟨rfl, rfl⟩ := h1
  cases r1
  exact ⟨C, mc, v, u, rfl, r, k, q _ _ v Hi1 H1 ⟨rfl, rfl⟩ s1 ok1 (rep _)⟩
/-! ### zip of two tuples -/
theorem walk_zipT {K : PySem.W.Frag} {p1 p2 : Addr} {xs ys : List V} {n : Nat} (hn : n = min xs.length ys.length) : Walk (RZ.ItzT K p1 p2) n (fun H => SqT K H p1 xs ∧ SqT K H p2 ys) (YPair (fun i => xs[i]?) (fun i => ys[i]?)) := by
  refine ⟨fun i H hi ⟨hx, hy⟩ => ⟨xs, ys, xs[i], ys[i], hx, hy, List.getElem?_eq_getElem (by omega), List.getElem?_eq_getElem (by omega)⟩, fun H ⟨hx, hy⟩ => ⟨xs, ys, hx, hy, by omega⟩, fun i H v H' hi ⟨hx, hy⟩ h => ?_⟩
  obtain ⟨T, x, y, h1, h2, h3, h4, h5⟩ := h
  exact ⟨T, x, y, h1, h2, h3, h4 xs hx, h5 ys hy⟩
theorem ai_zipT {elts : List Expr} {kk : Nat} {tpos : Pos} {R : Mem → Prop} {xs ys : List Val} (hm : X.mg "zip" = none) (ha : aA X [a, b] Γ M fun ds M' => ds = [.tup xs, .tup ys] ∧ R M') (hg : Gl X "zip" := by rfl)
    (hs : starEach [a, b] X.env = (false, eval a X.env) :: starEach [b] X.env := by rfl) (hpl : (backTo pos (starEach [b] X.env)).any (·.1) = false := by rfl) :
    aI X (.Tuple elts kk tpos) (.Call (.Name "zip" p1) [a, b] [] pos) Γ M (min xs.length ys.length) (fun i => .tup [xs.getD i .non, ys.getD i .non]) (fun _ => True) R := fun Hi H σ ok en R' q => by
  refine ⟨_, RZ.pi_zipA hg hm pa_wa hs hpl, ?_⟩
  refine ha Hi H σ ok en _ fun ds M1 vs Hi1 H1 h1 s1 ok1 r1 => ?_
  obtain ⟨rfl, hp⟩ := h1
  cases r1 with
  | cons ra r1 =>
    cases r1 with
    | cons rb r1 =>
      cases r1
      cases ra with
      | @tup p zs _ hq1 ra =>
        cases rb with
        | @tup p' zs' _ hq2 rb =>
          refine ⟨p, p', zs, zs', rfl, .inr ⟨sameT ok1.im hq1, sameT ok1.im hq2, q _ M1 Hi1 H1 hp s1 ok1 ?_⟩⟩
          rw [ra.length, rb.length]
          refine (walk_zipT rfl).mono (fun H' hG => ?_) fun i H' v H'' hi hG hy Hi' M' s2 ok2 _ => ?_
          · obtain ⟨Hi', M', s2, ok2, _⟩ := hG
            exact ⟨sameT ok2.im (sameT s2 hq1), sameT ok2.im (sameT s2 hq2)⟩
          · obtain ⟨T, x, y, rfl, hT, rfl, hx, hy⟩ := hy
            have s3 := same_upd (o := .tup [x, y]) (ok2.none hT)
            exact ⟨_, s3, ok2.imm hT, .tup (SqT.of upd_same) (.cons ((Sq.at ra hx).mono (s2.trans s3)) (.cons ((Sq.at rb hy).mono (s2.trans s3)) .nil))⟩
/-! ### i not in (j, ..) -/
theorem inV_ints {i : Int} : ∀ {ns : List Int}, inV (.int i) (ns.map V.int) = decide (i ∈ ns)
  | [] => rfl
  | n :: ns => by
    have ih := inV_ints (i := i) (ns := ns)
    unfold inV at ih ⊢
    rw [List.map_cons, List.any_cons, ih]
    show (decide (n = i) || decide (i ∈ ns)) = decide (i ∈ n :: ns)
    by_cases h : n = i
    · simp [h]
    · simp [h, Ne.symm h, eq_comm]
theorem flat_ints : ∀ ns : List Int, (ns.map V.int).all flatV = true
  | [] => rfl
  | n :: ns => by rw [List.map_cons, List.all_cons, flat_ints ns]; rfl
theorem cmp_notInT {i : Int} {ns : List Int} : Cmp X .NotIn M (.int i) (.tup (ns.map .int)) (!decide (i ∈ ns)) := ⟨_, op_notIn_seq, fun Hi H v w ok rv rw_ Q q => by
  cases rv
  cases rw_ with
  | @tup p ys _ hq ra =>
    rw [ra.ints] at hq
    refine ⟨p, _, rfl, .inr (sameT ok.im hq), rfl, flat_ints ns, ?_⟩
    rw [inV_ints]
    exact q _ M _ Hi H ⟨rfl, rfl⟩ (Same.refl _) ok (.bl _)⟩
theorem cmp_inT {i : Int} {ns : List Int} : Cmp X .In M (.int i) (.tup (ns.map .int)) (decide (i ∈ ns)) := ⟨_, op_in_seq, fun Hi H v w ok rv rw_ Q q => by
  cases rv
  cases rw_ with
  | @tup p ys _ hq ra =>
    rw [ra.ints] at hq
    refine ⟨p, _, rfl, .inr (sameT ok.im hq), rfl, flat_ints ns, ?_⟩
    show Q (.bl (inV _ _)) H
    rw [inV_ints]
    exact q _ M _ Hi H ⟨rfl, rfl⟩ (Same.refl _) ok (.bl _)⟩
end
end Ab

namespace K09
open PySem L2 Ab Sm
section
variable {P : Program} {w : World} {K : PySem.W.Frag} {mg : Str → Option Value} {base : Heap} {k : Nat} {f C CN : Addr}
/-! ### is_integer of nodes.py, need_schedule -/
def aInn : ASp := fun ds M R => ∃ n lo : Int, ds = [.int n, .int lo] ∧ R (.bl (decide (lo ≤ n))) M
theorem b_is_integer_nodes (B : Bt mg) : BodyOk P w K mg base k f n_is_integer_nodes "is_integer" (defScope s_is_integer_nodes) (defBody s_is_integer_nodes) aInn := by
  rintro cdv A outer s H E hr ds M R ⟨n, lo, rfl, hp⟩
  refine as_one (as_ret (ae_and (ae_isi B.isinstance (v_ 0) (av_ty (T := "int") B.int (by decide +kernel)) (.ty "int") (.int _) (kit_ty (by decide +kernel)) ⟨true, rfl, fun _ => ?_, ntf⟩)))
  refine ae_and (ae_not (ae_isi B.isinstance (v_ 0) (av_ty (T := "bool") B.bool (by decide +kernel)) (.ty "bool") (.int _) (kit_ty (by decide +kernel)) ⟨false, rfl, true, rfl, fun _ => ?_, ntf⟩))
  exact ae_one (ae_cmp (v_ 0) (v_ 1) cmp_ge (.ok hp))
abbrev GInn (P : Program) (w : World) (K : PySem.W.Frag) (mg : Str → Option Value) (base : Heap) : Prop := Gd P w K mg base 1 "is_integer_nodes" [] fun ds _ => aInn ds
def aNsc (C : Addr) : ASp := fun ds M R => ∃ S : Sc, ds = [scV C S] ∧ R .non M
theorem b_need_schedule (B : Bt mg) (T : Rs K mg C) (IS : Isi K C) : BodyOk P w K mg base k f n_need_schedule "need_schedule" (defScope s_need_schedule) (defBody s_need_schedule) (aNsc C) := by
  rintro cdv A outer s0 H E hr ds M R ⟨S, rfl, hp⟩
  exact as_one (as_if (at_not (at_val (ae_isi B.isinstance (v_ 0) (ae_glob T.gC ⟨rfl, rfl⟩) (.own C) (ty_sc T IS) IS.c5 ⟨true, rfl, nft, fun _ => as_nil (.ok hp)⟩))))
abbrev GNsc (P : Program) (w : World) (K : PySem.W.Frag) (mg : Str → Option Value) (base : Heap) (C : Addr) : Prop := Gd P w K mg base 1 "need_schedule" [] fun ds _ => aNsc C ds
/-! ### sizes_up_to, end_of_stage -/
theorem szS_succ {S : Sc} (hS : GoodS S) (t : Nat) : item S.lv (t + 1) + S.a * szS S t = szS S (t + 1) := by
  have := hS.a2
  unfold szS
  rw [siz, Int.toNat_of_nonneg (by omega)]
theorem edS_step {S : Sc} (hS : GoodS S) (t : Nat) : edS S t + item S.sp (t + 1) + (S.a - 1) * szS S t = edS S (t + 1) := by
  have := hS.a2
  unfold edS szS
  rw [ed, Int.toNat_of_nonneg (by omega)]
def aSzu (C : Addr) : ASp := fun ds M R => ∃ (S : Sc) (h : Nat), ds = [scV C S, .int (h : Int)] ∧ GoodS S ∧ h ≤ 8000 ∧ R (.lst ((upL (szS S) h).map .int)) M
theorem b_sizes_up_to (B : Bt mg) (T : Rs K mg C) (Q : Sm2 P w K mg base C) (PA : PrA P w K mg base C) : BodyOk P w K mg base 3 f n_sizes_up_to "sizes_up_to" (defScope s_sizes_up_to) (defBody s_sizes_up_to) (aSzu C) := by
  rintro cdv A outer s0 H E hr ds M R ⟨S, h, rfl, hS, h30, hp⟩
  have a2 := hS.a2
  have a9 := hS.a9
  refine as_cons (as_set 2 q_sizes_up_to.nd (ae_lstC (aa_cons (aE.val (av_la T Q hr (by decide) (v_ 0) i_ (by assumption) (by omega)) (aa_nil ⟨szb, fun q => ?_⟩)))))
  refine as_cons (as_forW PassesOwn.never rfl (aj_range2 B.range (aA.val (avs_cons i_ (avs_cons (av_add (v_ 1) i_) avs_nil)) ⟨_, _, rfl, ⟨by omega, by omega, by omega, by omega⟩, ?_⟩)))
  refine ⟨fun t Γ M' => M' = (q, .lst ((upL (szS S) t).map .int)) :: M ∧ Γ = [some (scV C S), some (.int (h : Int)), some (.ptr q), none], ⟨_, _, ⟨rfl, rfl⟩, (by repeat' first | exact le_nil | refine le_skip ?_ | refine le_keep rfl ?_), (by repeat' first | exact List.Sublist.refl _ | exact List.sublist_append_right _ _ | apply List.Sublist.cons₂ | apply List.Sublist.cons)⟩, ?_, ?_⟩
  · rintro t Γ M' ht ⟨rfl, rfl⟩
    have hl := up_len (g := szS S) (n := t)
    refine ag_name 3 q_sizes_up_to.nd ?_
    refine as_one (as_expr (ae_append (n0 := 0) (v_ 2) rfl (aE.val (av_add (av_la T Q hr (by decide) (v_ 0) (v_ 3) (by assumption) (by omega)) (av_mulU (av_arity T PA hr (by decide) (v_ 0)) (av_ix (v_ 2) (av_sub (v_ 3) i_) (by first | exact .iT (by omega) (by omega) | exact .iL (by omega) (by omega) | exact .ci 0 rfl (by omega) (by omega) | exact .ci 1 rfl (by omega) (by omega) | exact .t rfl | exact .l rfl | exact .c 0 rfl rfl | exact .c 1 rfl rfl | assumption | exact .ci _ (by assumption) (by omega) (by omega))) (by first | exact .inl (.inl ⟨by omega, by omega⟩) | exact .inl (.inr ⟨by omega, by omega⟩) | assumption))) ⟨0, _, rfl, (szl (by rw [List.length_map, hl]; omega)), ?_⟩)))
    have e2 : item S.lv (1 + (t : Int)).toNat + S.a * at0 (upL (szS S) t) (1 + (t : Int) - 1) = szS S (t + 1) := by
      rw [up_at (by omega) (by omega), show (1 + (t : Int)).toNat = t + 1 by omega, show (1 + (t : Int) - 1).toNat = t by omega]
      exact szS_succ hS t
    rw [e2, up_succ]
    exact ⟨_, _, ⟨rfl, rfl⟩, (by repeat' first | exact le_nil | refine le_skip ?_ | refine le_keep rfl ?_), (by repeat' first | exact List.Sublist.refl _ | exact List.sublist_append_right _ _ | apply List.Sublist.cons₂ | apply List.Sublist.cons)⟩
  · rintro Γ M' ⟨rfl, rfl⟩
    rw [show ((h : Int) + 1 - 1).toNat = h by omega]
    exact as_one (as_ret ((v_ 2).val (.frz (.ok hp))))
abbrev GSzu (P : Program) (w : World) (K : PySem.W.Frag) (mg : Str → Option Value) (base : Heap) (C : Addr) : Prop := Gd P w K mg base 4 "sizes_up_to" [] fun ds _ => aSzu C ds
def aEos (C : Addr) : ASp := fun ds M R => ∃ (S : Sc) (n st : Nat), ds = [scV C S, .lst ((upL (szS S) n).map .int), .int (st : Int)] ∧ GoodS S ∧ st ≤ 8000 ∧ st ≤ n + 1 ∧ R (.int (edS S st)) M
theorem b_end_of_stage (B : Bt mg) (T : Rs K mg C) (Q : Sm2 P w K mg base C) (PA : PrA P w K mg base C) : BodyOk P w K mg base 3 f n_end_of_stage "end_of_stage" (defScope s_end_of_stage) (defBody s_end_of_stage) (aEos C) := by
  rintro cdv A outer s0 H E hr ds M R ⟨S, n, st, rfl, hS, h30, hst, hp⟩
  have a2 := hS.a2
  have a9 := hS.a9
  have hl := up_len (g := szS S) (n := n)
  refine as_cons (as_setv 3 q_end_of_stage.nd (av_sa T Q hr (by decide) (v_ 0) i_ (by assumption) (by omega)) ?_)
  refine as_cons (as_forW PassesOwn.never rfl (aj_range2 B.range (aA.val (avs_cons i_ (avs_cons (av_add (v_ 2) i_) avs_nil)) ⟨_, _, rfl, ⟨by omega, by omega, by omega, by omega⟩, ?_⟩)))
  refine ⟨fun t Γ M' => M' = M ∧ Γ = [some (scV C S), some (.lst ((upL (szS S) n).map .int)), some (.int (st : Int)), some (.int (edS S t)), none], ⟨_, _, ⟨rfl, rfl⟩, (by repeat' first | exact le_nil | refine le_skip ?_ | refine le_keep rfl ?_), (by repeat' first | exact List.Sublist.refl _ | exact List.sublist_append_right _ _ | apply List.Sublist.cons₂ | apply List.Sublist.cons)⟩, ?_, ?_⟩
  · rintro t Γ M' ht ⟨rfl, rfl⟩
    refine ag_name 4 q_end_of_stage.nd ?_
    refine as_one (as_setv 3 q_end_of_stage.nd (av_add (av_add (v_ 3) (av_sa T Q hr (by decide) (v_ 0) (v_ 4) (by assumption) (by omega))) (av_mulU (av_sub (av_arity T PA hr (by decide) (v_ 0)) i_) (av_ix (v_ 1) (av_sub (v_ 4) i_) (by first | exact .iT (by omega) (by omega) | exact .iL (by omega) (by omega) | exact .ci 0 rfl (by omega) (by omega) | exact .ci 1 rfl (by omega) (by omega) | exact .t rfl | exact .l rfl | exact .c 0 rfl rfl | exact .c 1 rfl rfl | assumption | exact .ci _ (by assumption) (by omega) (by omega))) (by first | exact .inl (.inl ⟨by omega, by omega⟩) | exact .inl (.inr ⟨by omega, by omega⟩) | assumption))) ?_)
    have e2 : edS S t + item S.sp (1 + (t : Int)).toNat + (S.a - 1) * at0 (upL (szS S) n) (1 + (t : Int) - 1) = edS S (t + 1) := by
      rw [up_at (by omega) (by omega), show (1 + (t : Int)).toNat = t + 1 by omega, show (1 + (t : Int) - 1).toNat = t by omega]
      exact edS_step hS t
    rw [e2]
    exact ⟨_, _, ⟨rfl, rfl⟩, (by repeat' first | exact le_nil | refine le_skip ?_ | refine le_keep rfl ?_), (by repeat' first | exact List.Sublist.refl _ | exact List.sublist_append_right _ _ | apply List.Sublist.cons₂ | apply List.Sublist.cons)⟩
  · rintro Γ M' ⟨rfl, rfl⟩
    rw [show ((st : Int) + 1 - 1).toNat = st by omega]
    exact as_one (as_retv (v_ 3) (.ok hp))
abbrev GEos (P : Program) (w : World) (K : PySem.W.Frag) (mg : Str → Option Value) (base : Heap) (C : Addr) : Prop := Gd P w K mg base 4 "end_of_stage" [] fun ds _ => aEos C ds
/-! ### need_height, branch_size, stage_end -/
structure NdC (K : PySem.W.Frag) (mg : Str → Option Value) (CN : Addr) : Prop where
  gN : mg "Node" = some (.ref CN)
  rd : ClX.CRead K CN (.type "type")
  mh : ∃ t, ClX.CVal K CN (.type "type") "MAX_HEIGHT" (.int 3000) (.int 3000 t)
theorem av_mh {X : Cx} {Γ : Gam} {M : Mem} {p1 pos : Pos} (N : NdC X.K X.mg CN) (hg : Gl X "Node" := by rfl) (hb : attributeBase (.Name "Node" p1) "MAX_HEIGHT" X.env (eval (.Name "Node" p1) X.env) = eval (.Name "Node" p1) X.env := by rfl) : aV X (.Attribute (.Name "Node" p1) "MAX_HEIGHT" pos) Γ M (.int 3000) := by
  obtain ⟨t, v⟩ := N.mh
  exact av_cval N.rd v (ae_glob N.gN ⟨rfl, rfl⟩ hg) (fun _ => .int 3000) hb
def aNht : ASp := fun ds M R => ∃ h : Int, ds = [.int h] ∧ 0 ≤ h ∧ h ≤ 3000 ∧ R .non M
theorem b_need_height (N : NdC K mg CN) (GI : GInn P w K mg base) : BodyOk P w K mg base 1 f n_need_height "need_height" (defScope s_need_height) (defBody s_need_height) aNht := by
  rintro cdv A outer s0 H E hr ds M R ⟨h, rfl, h0, h1, hp⟩
  refine as_one (as_if (at_w (aw_or (at_not (at_val (ae_g GI hr (by decide) (aa_cons ((v_ 0).val (aa_cons (i_.val (aa_nil (ak_nil ⟨rfl, h, 0, rfl, true, ?_, nft, fun _ => ?_⟩)))))))))))) 
  · rw [decide_eq_true h0]
  · exact aw_or1 (at_cmp (v_ 0) (av_mh N) (cmp_gtF h1) ⟨nft, fun _ => as_nil (.ok hp)⟩)
abbrev GNht (P : Program) (w : World) (K : PySem.W.Frag) (mg : Str → Option Value) (base : Heap) : Prop := Gd P w K mg base 2 "need_height" [] fun ds _ => aNht ds
def aBsz (C : Addr) : ASp := fun ds M R => ∃ (S : Sc) (h : Nat), ds = [scV C S, .int (h : Int)] ∧ GoodS S ∧ h ≤ 3000 ∧ R (.int (szS S h)) M
theorem b_branch_size (g_need_schedule : GNsc P w K mg base C) (g_need_height : GNht P w K mg base) (G : GSzu P w K mg base C) : BodyOk P w K mg base 4 f n_branch_size "branch_size" (defScope s_branch_size) (defBody s_branch_size) (aBsz C) := by
  rintro cdv A outer s0 H E hr ds M R ⟨S, h, rfl, hS, h30, hp⟩
  have hl := up_len (g := szS S) (n := h)
  refine as_cons (as_expr (aE.val (ae_g g_need_schedule hr (by decide) (aa_cons (aE.val (v_ 0) (aa_nil (ak_nil ⟨rfl, _, rfl, rfl, rfl⟩))))) ?_))
  refine as_cons (as_expr (aE.val (ae_g g_need_height hr (by decide) (aa_cons (aE.val (v_ 1) (aa_nil (ak_nil ⟨rfl, _, rfl, (by omega), (by omega), rfl, rfl⟩))))) ?_))
  refine as_one (as_ret (ae_ixV (ae_g G hr (by decide) (aa_cons ((v_ 0).val (aa_cons ((v_ 1).val (aa_nil (ak_nil ⟨rfl, S, h, rfl, hS, by omega, (v_ 1).val ⟨_, _, rfl, .iL (by omega) (by omega), ?_⟩⟩)))))))))
  rw [up_at (by omega) (by omega), Int.toNat_natCast]
  exact .ok hp
abbrev GBsz (P : Program) (w : World) (K : PySem.W.Frag) (mg : Str → Option Value) (base : Heap) (C : Addr) : Prop := Gd P w K mg base 5 "branch_size" [] fun ds _ => aBsz C ds
def aSte (C : Addr) : ASp := fun ds M R => ∃ (S : Sc) (h : Nat), ds = [scV C S, .int (h : Int)] ∧ GoodS S ∧ h ≤ 3000 ∧ R (.int (edS S h)) M
theorem b_stage_end (g_need_schedule : GNsc P w K mg base C) (g_need_height : GNht P w K mg base) (G : GSzu P w K mg base C) (GE : GEos P w K mg base C) : BodyOk P w K mg base 4 f n_stage_end "stage_end" (defScope s_stage_end) (defBody s_stage_end) (aSte C) := by
  rintro cdv A outer s0 H E hr ds M R ⟨S, h, rfl, hS, h30, hp⟩
  refine as_cons (as_expr (aE.val (ae_g g_need_schedule hr (by decide) (aa_cons (aE.val (v_ 0) (aa_nil (ak_nil ⟨rfl, _, rfl, rfl, rfl⟩))))) ?_))
  refine as_cons (as_expr (aE.val (ae_g g_need_height hr (by decide) (aa_cons (aE.val (v_ 1) (aa_nil (ak_nil ⟨rfl, _, rfl, (by omega), (by omega), rfl, rfl⟩))))) ?_))
  exact as_one (as_ret (ae_g GE hr (by decide) (aa_cons ((v_ 0).val (aa_cons (ae_g G hr (by decide) (aa_cons ((v_ 0).val (aa_cons ((v_ 1).val (aa_nil (ak_nil ⟨rfl, S, h, rfl, hS, by omega, aa_cons ((v_ 1).val (aa_nil (ak_nil ⟨rfl, S, h, h, rfl, hS, by omega, by omega, .ok hp⟩)))⟩))))))))))))
abbrev GSte (P : Program) (w : World) (K : PySem.W.Frag) (mg : Str → Option Value) (base : Heap) (C : Addr) : Prop := Gd P w K mg base 5 "stage_end" [] fun ds _ => aSte C ds
end
end K09

/-! Ab46: isinstance(x, (C1, C2)) -/
namespace Ab
open PySem PySem.Spec PyProof.Rows L2
section
variable {X : Cx} {Γ : Gam} {M : Mem} {P : Val → Mem → Prop} {a b : Expr} {pos p1 : Pos} {d1 d2 d3 : Val}
theorem call_isiQ : CallR X (.builtin "isinstance") (fun xs H Q => ∃ (x : V) (tp : Addr) (cs : List V) (t : Value) (us : List Value) (b : Bool), xs = [x, .ref tp] ∧ SqT X.K H tp cs ∧ Paired ClsV cs us ∧ TyX X.K H x t ∧ PySem.W.kitAny X.K t us = some b ∧ Q (.bl b) H) := by
  intro pins s σ H xs us Q I r h
  obtain ⟨x, tp, cs, t, ws, b, rfl, hT, k, ty, e, q⟩ := h
  obtain ⟨u1, u2, rfl, r1, r2⟩ := vals2 r
  cases (show u2 = Value.ref tp from r2)
  obtain ⟨P, Z, p, hx⟩ := kit_of I r1 ty
  obtain ⟨its, rv, p', _⟩ := I.tuple hT
  obtain ⟨o, h1, h2, n, h3⟩ := p'
  have e3 := ClsV.all k rv
  subst e3
  obtain ⟨oc, od, dt, sl⟩ := o
  simp only at h2 h3
  subst h2 h3
  exact PySem.W.kia_tup Z I.kIn p h1 e hx fun tk => ⟨.bl b, H, I.tok tk, rfl, q⟩
theorem ae_isi2 {t u1 u2 : Value} {bb : Bool} (hm : X.mg "isinstance" = none) (ha : aV X a Γ M d1) (hb : aV X b Γ M (.tup [d2, d3])) (hc : ClV d2 u1) (hc2 : ClV d3 u2) (ht : TyV X.K M d1 t) (hk : PySem.W.kitAny X.K t [u1, u2] = some bb) (h : P (.bl bb) M) (hg : Gl X "isinstance" := by rfl)
    (hs : starEach [a, b] X.env = (false, eval a X.env) :: starEach [b] X.env := by rfl) (hs2 : starEach [b] X.env = (false, eval b X.env) :: starEach [] X.env := by rfl) (hpl : (backTo pos (starEach [b] X.env)).any (·.1) = false := by rfl) : aE X (.Call (.Name "isinstance" p1) [a, b] [] pos) Γ M P :=
  ae_callB call_isiQ hm (by decide +kernel) (aa_cons (ha.val (aa_cons (hb.val (aa_nil fun Hi H vs ok r Q q => by
    have kc : ∀ {d : Val} {u : Value} {v : V}, ClV d u → Rep X.K Hi d v → ClsV v u := fun {d u v} hc r => by
      cases hc with
      | ty n => cases r; exact .ty n
      | own C => cases r; exact .own C
    cases r with
    | cons r1 r2 =>
      cases r2 with
      | cons r2 r3 =>
        cases r3
        cases r2 with
        | @tup p ys _ hq ra =>
          cases ra with
          | cons q1 ra =>
            cases ra with
            | cons q2 ra =>
              cases ra
              exact ⟨_, p, _, t, _, bb, rfl, sameT ok.im hq, .cons (kc hc q1) (.cons (kc hc2 q2) .nil), ht.tyx ok r1, hk, q _ _ _ Hi H h (Same.refl _) ok (.bl _)⟩)) hs2)) hs) hg (he := hs) (hpl := hpl)
end
end Ab

/-! repr of great ints (up to 12900 binary digits), alone and within lists and tuples -/
namespace Ab
open PySem PySem.Spec PyProof.Rows L2 PySem.Builtin
/-- the limit of digits stands as it was set at the start -/
def DigK (K : PySem.W.Frag) : Prop := PySem.W.nsIn K cStatics "sys.int_max_str_digits" = some none
abbrev DigL (M : Model) (h : Heap) : Prop := PySem.W.Looks M h intMaxStrDigits 4300
theorem digL {K : PySem.W.Frag} {M : Model} {h : Heap} (D : DigK K) (x : K.In h) : DigL M h := fun A Q E s k q => by
  unfold intMaxStrDigits
  refine wpAny_bind (PySem.W.looks_nsIn x D A _ _ s k ?_)
  exact wpAny_pure q
section
variable {prog : Program} {w : World} {A : Around} {E : Value → Shared → Prop} {s : Shared} {h₀ : Heap}
theorem odl_wide {i : Int} {Q : Option Nat → Shared → Prop} (D : DigL (model prog w) h₀) (hk : ∀ b o, h₀.get? b = some o → s.heap.get? b = some o) (hi : i.natAbs.log2 < 12900) (q : Q none s) : wpAny (model prog w) A (overDigitLimit? i) Q E s := by
  by_cases c : i.natAbs.log2 < 1920
  · rw [PySem.overDigitLimit_small c]
    exact wpAny_pure q
  · have e : overDigitLimit? i = (intMaxStrDigits >>= fun n => if i.natAbs.log2 / 30 + 1 > 1000 then (if (n != 0 && decide (n / 90 ≤ ((i.natAbs.log2 / 30 + 1) - 11) / 10)) = true then pure (some n) else unsupported "int:decimal-text-by-_pylong") else if (n == 0 || decide (i.natAbs.log2 < 3 * n)) = true then pure none else pure (if i.natAbs ≥ 10 ^ n then some n else none)) := by
      unfold overDigitLimit?
      rw [if_neg c]
      rfl
    rw [e]
    refine wpAny_bind (D A _ _ s hk ?_)
    have g1 : ¬ i.natAbs.log2 / 30 + 1 > 1000 := by omega
    have g2 : (4300 == 0 || decide (i.natAbs.log2 < 3 * 4300)) = true := by simp; omega
    rw [if_neg g1, if_pos g2]
    exact wpAny_pure q
theorem fits_wide {i : Int} (h : i.natAbs.log2 < 12900) : (Str.ofString (toString i)).length ≤ sizeLine := by
  have e := int_text_length_le (k := 12900) (by decide) h
  have e2 : (Str.ofString (toString i)).length = (toString i).length := PySem.ofString_length _
  rw [e2]
  exact Nat.le_trans e (by decide)
theorem irepr_wide {i : Int} {t : Tok} {Q : Value → Shared → Prop} (D : DigL (model prog w) h₀) (hk : ∀ b o, h₀.get? b = some o → s.heap.get? b = some o) (hi : i.natAbs.log2 < 12900) (q : Q (.str (toString i) s.toks) { s with toks := s.toks + 1 }) :
    wpAny (model prog w) A (call (.builtin "int.__repr__") [.int i t]) Q E s := by
  refine wpAny_call_entry F.slot_int_repr (typeIs_int s i t) F.entry_int_repr ?_ (F.args_int_repr_1 _)
  show wpAny _ A.in1 (overDigitLimit? i >>= _) _ _ s
  refine wpAny_bind (odl_wide D hk hi ?_)
  show wpAny _ A.in1 (mkStr (toString i) >>= fun v => ret v) _ _ s
  exact wpAny_bind (wpAny_mkStr (wpAny_pure ⟨_, rfl, q⟩) (fits_wide hi))
theorem robj_wide {i : Int} {t : Tok} {Q : Value → Shared → Prop} (D : DigL (model prog w) h₀) (hk : ∀ b o, h₀.get? b = some o → s.heap.get? b = some o) (hu : A.units < cLine) (hi : i.natAbs.log2 < 12900) (q : Q (.str (toString i) s.toks) { s with toks := s.toks + 1 }) :
    wpAny (model prog w) A (pyReprObj (.int i t)) Q E s := by
  unfold pyReprObj
  refine wpAny_bind (wpAny_cRoomFor hu ?_)
  refine wpAny_bind (wpAny_specialOf (name := Str.ofString "__repr__") (typeIs_int s i t) F.slot_int_repr.lookup ?_)
  refine wpAny_bind (m := callSpecialIfBound? (.int i t) (Str.ofString "__repr__")) (wpAny_callSpecialIfBound?_slot (name := Str.ofString "__repr__") (typeIs_int s i t) F.slot_int_repr (irepr_wide D hk hi ?_))
  exact wpAny_bind (wpAny_isInstance (T := "str") (b := true) rfl isSubtype_str_str (wpAny_pure q))
theorem rk_int {i : Int} (D : DigL (model prog w) h₀) (t : Tok) (hi : i.natAbs.log2 < 12900) (as : List Addr) (n : Nat) : ReprK prog w as h₀ n (.int i t) (toString i) := by
  intro base hb A g E s Q hg hcl hu hk hQ
  have hb' : base ≤ sizeLine := Nat.le_trans (Nat.le_add_right _ _) hb
  rw [pyReprUnder_leaf (v := .int i t) hb' (fun _ e => nomatch e)]
  unfold pyRepr
  exact wpAny_bind (robj_wide D hk (Nat.lt_of_le_of_lt (Nat.le_add_right _ _) hu) hi (wpAny_pure (hQ s.heap _ fun _ _ e => e)))
mutual
/-- data of which repr can be told -/
def shP : PyData → Prop
  | .none => True
  | .bool _ => True
  | .int i => i.natAbs.log2 < 12900
  | .str _ => True
  | .list xs => shPs xs
  | .tuple xs => shPs xs
  | .dict _ => False
def shPs : List PyData → Prop
  | [] => True
  | x :: xs => shP x ∧ shPs xs
end
def Tells (prog : Program) (w : World) (h₀ : Heap) (v : Value) (p : PyData) : Prop := ∃ bs, ReadAtMost h₀ p.depth bs ∧ ReprK prog w bs h₀ p.depth v p.shown
def TellsA (prog : Program) (w : World) (h₀ : Heap) (vs : List Value) (ps : List PyData) : Prop := ∃ bs, ReadAtMost h₀ (PyData.depthAll ps) bs ∧ ReprAllK prog w bs h₀ (PyData.depthAll ps) vs (PyData.shownAll ps)
theorem Tells.of {v : Value} {p : PyData} (h : ReprK prog w [] h₀ p.depth v p.shown) : Tells prog w h₀ v p := ⟨[], (fun _ z => nomatch z), h⟩
mutual
theorem tells (D : DigL (model prog w) h₀) : ∀ (p : PyData) (v : Value) (as : List Addr), Reads h₀ v p as → shP p → p.shown.length ≤ sizeLine → Tells prog w h₀ v p
  | .none, _, _, r, _, _ => by cases r; exact .of (by unfold PyData.shown; exact .of_is ReprIs.none _ _ _)
  | .bool b, _, _, r, _, _ => by cases r; exact .of (by unfold PyData.shown; exact .of_is (ReprIs.bool b) _ _ _)
  | .int i, _, _, r, h, _ => by
    cases r
    unfold shP at h
    exact .of (by unfold PyData.shown; exact rk_int D _ h _ _)
  | .str x, _, _, r, _, z => by
    cases r
    unfold PyData.shown at z
    exact .of (by unfold PyData.shown; exact .of_is (ReprIs.str x _ z) _ _ _)
  | .list xs, v, as, r0, h, z => by
    unfold shP at h
    unfold PyData.shown at z
    cases r0 with
    | @list a o vs n _ as' c1 c2 c3 c4 =>
      obtain ⟨bs, m1, m2⟩ := tellsA D xs _ _ c4 h fun t ht => Nat.le_trans (listText_mem_le ht) z
      have rd : Reads h₀ (.ref a) (.list xs) _ := .list c1 c2 c3 c4
      have dl : PyData.depthAll xs < (PyData.list xs).depth := by simp only [PyData.depth]; omega
      have out := not_mem_of_deeper rd dl m1
      refine ⟨a :: bs, fun b hb => ?_, ?_⟩
      · rcases List.mem_cons.mp hb with rfl | hb
        · exact ⟨_, _, rd, Nat.le_refl _⟩
        · obtain ⟨d', as2, y1, y2⟩ := m1 b hb
          exact ⟨d', as2, y1, by omega⟩
      · unfold PyData.depth PyData.shown
        obtain ⟨l⟩ := vs
        cases l with
        | nil =>
          cases (show ReadsAll h₀ [] xs _ from c4)
          unfold PyData.shownAll
          rw [listText_nil]
          exact (ReprK.listEmpty c1 c2 c3).level_le (Nat.le_refl _)
        | cons y l => exact ReprK.list c1 c2 c3 out (by simpa using m2.length_eq) fun j y' e => m2.item j y' (by simpa using e)
  | .tuple xs, v, as, r0, h, z => by
    unfold shP at h
    unfold PyData.shown at z
    cases r0 with
    | @tuple a o vs n _ as' c1 c2 c3 c4 =>
      obtain ⟨bs, m1, m2⟩ := tellsA D xs _ _ c4 h fun t ht => Nat.le_trans (tupleText_mem_le ht) z
      have rd : Reads h₀ (.ref a) (.tuple xs) _ := .tuple c1 c2 c3 c4
      have dl : PyData.depthAll xs < (PyData.tuple xs).depth := by simp only [PyData.depth]; omega
      have out := not_mem_of_deeper rd dl m1
      refine ⟨a :: bs, fun b hb => ?_, ?_⟩
      · rcases List.mem_cons.mp hb with rfl | hb
        · exact ⟨_, _, rd, Nat.le_refl _⟩
        · obtain ⟨d', as2, y1, y2⟩ := m1 b hb
          exact ⟨d', as2, y1, by omega⟩
      · unfold PyData.depth PyData.shown
        exact ReprK.tuple c1 c2 c3 out m2
  | .dict _, _, _, _, h, _ => by unfold shP at h; exact h.elim
theorem tellsA (D : DigL (model prog w) h₀) : ∀ (ps : List PyData) (vs : List Value) (as : List Addr), ReadsAll h₀ vs ps as → shPs ps → (∀ t ∈ PyData.shownAll ps, t.length ≤ sizeLine) → TellsA prog w h₀ vs ps
  | [], _, _, r, _, _ => by
    cases r
    exact ⟨[], (fun _ z => nomatch z), by unfold PyData.shownAll; exact .nil⟩
  | p :: ps, _, _, r, h, z => by
    unfold shPs at h
    unfold PyData.shownAll at z
    cases r with
    | cons r1 r2 =>
      obtain ⟨c1, m1, n1⟩ := tells D p _ _ r1 h.1 (z _ List.mem_cons_self)
      obtain ⟨c2, m2, n2⟩ := tellsA D ps _ _ r2 h.2 fun t ht => z t (List.mem_cons_of_mem _ ht)
      refine ⟨c1 ++ c2, fun b hb => ?_, ?_⟩
      · unfold PyData.depthAll
        rcases List.mem_append.mp hb with hb | hb
        · obtain ⟨d', as', y1, y2⟩ := m1 b hb
          exact ⟨d', as', y1, Nat.le_trans y2 (Nat.le_max_left _ _)⟩
        · obtain ⟨d', as', y1, y2⟩ := m2 b hb
          exact ⟨d', as', y1, Nat.le_trans y2 (Nat.le_max_right _ _)⟩
      · unfold PyData.depthAll PyData.shownAll
        refine .cons ((n1.more fun b hb => ?_).level_le (Nat.le_max_left _ _)) (n2.more_le (fun b hb => ?_) (Nat.le_max_right _ _))
        · exact List.mem_append_left _ hb
        · exact List.mem_append_right _ hb
end
/-- repr of a list, a tuple -/
theorem repr_wide {a : Addr} {p : PyData} {as : List Addr} {Q : Value → Shared → Prop} (D : DigL (model prog w) s.heap) (r : Reads s.heap (.ref a) p as) (h : shP p) (z : p.shown.length ≤ sizeLine) (hg : A.guards = some []) (hu : A.units + (p.depth + 1) < cLine)
    (hQ : ∀ h' u tk, (∀ b o, s.heap.get? b = some o → h'.get? b = some o) → Q (.str p.shown u) { s with heap := h', toks := tk }) : wpAny (model prog w) A (call (.builtin "repr") [.ref a]) Q E s := by
  have hu1 : A.in1.units = A.units + 1 := rfl
  have hg1 : A.in1.guards = some [] := hg
  cases r with
  | @list _ o vs n xs as' c1 c2 c3 c4 =>
    unfold shP at h
    unfold PyData.shown at z hQ
    unfold PyData.depth at hu
    obtain ⟨bs, m1, m2⟩ := tellsA D xs _ _ c4 h fun t ht => Nat.le_trans (listText_mem_le ht) z
    have rd : Reads s.heap (.ref a) (.list xs) _ := .list c1 c2 c3 c4
    have dl : PyData.depthAll xs < (PyData.list xs).depth := by simp only [PyData.depth]; omega
    have out := not_mem_of_deeper rd dl m1
    refine call_repr_slot (by omega) ⟨o, c1, c2⟩ F.slot_list_repr.toG ?_
    obtain ⟨l⟩ := vs
    cases l with
    | nil =>
      cases (show ReadsAll s.heap [] xs _ from c4)
      unfold PyData.shownAll at hQ
      rw [listText_nil] at hQ
      exact call_list_repr_empty ⟨o, c1, c2⟩ c1 c3 ⟨_, _, rfl, hQ s.heap _ _ fun _ _ e => e⟩
    | cons y l => exact call_list_reprK c1 c2 c3 out (by simpa using m2.length_eq) (fun j y' e => m2.item j y' (by simpa using e)) hg1 (fun b _ => Clear.nil b) (by omega) (fun _ _ e => e) (fun h' u tk k => ⟨_, _, rfl, hQ h' u tk k⟩) z
  | @tuple _ o vs n xs as' c1 c2 c3 c4 =>
    unfold shP at h
    unfold PyData.shown at z hQ
    unfold PyData.depth at hu
    obtain ⟨bs, m1, m2⟩ := tellsA D xs _ _ c4 h fun t ht => Nat.le_trans (tupleText_mem_le ht) z
    have rd : Reads s.heap (.ref a) (.tuple xs) _ := .tuple c1 c2 c3 c4
    have dl : PyData.depthAll xs < (PyData.tuple xs).depth := by simp only [PyData.depth]; omega
    have out := not_mem_of_deeper rd dl m1
    refine call_repr_slot (by omega) ⟨o, c1, c2⟩ F.slot_tuple_repr ?_
    exact call_tuple_reprK c1 c2 c3 out m2 hg1 (fun b _ => Clear.nil b) (by omega) (fun _ _ e => e) (fun h' u tk k => ⟨_, _, rfl, hQ h' u tk k⟩) z
  | dict _ _ _ _ _ => unfold shP at h; exact h.elim
end
/-! ### on values -/
mutual
def shW : Val → Prop
  | .non => True
  | .bl _ => True
  | .int i => i.natAbs.log2 < 12900
  | .str x => x.cps.toList.all (fun c => decide (c < 16 ^ 8)) = true
  | .lst xs => shWs xs
  | .tup xs => shWs xs
  | _ => False
def shWs : List Val → Prop
  | [] => True
  | x :: xs => shW x ∧ shWs xs
end
mutual
def wdW : Val → Nat
  | .non => 5
  | .bl _ => 5
  | .int _ => 12901
  | .str x => 10 * x.length + 2
  | .lst xs => wdWs xs + 3
  | .tup xs => wdWs xs + 3
  | _ => 0
def wdWs : List Val → Nat
  | [] => 0
  | x :: xs => wdW x + 2 + wdWs xs
end
structure ShW (v : Val) (p : PyData) : Prop where
  td : toD v = some p
  sh : shP p
  ln : p.shown.length ≤ wdW v
  dp : p.depth ≤ dpV v
structure ShWs (v : List Val) (p : List PyData) : Prop where
  td : toDs v = some p
  sh : shPs p
  ln : ((PyData.shownAll p).map (·.length)).sum + 2 * (PyData.shownAll p).length ≤ wdWs v
  dp : PyData.depthAll p ≤ dpVs v
mutual
theorem shw : ∀ (v : Val), shW v → ∃ p, ShW v p
  | .non, _ => ⟨.none, by unfold toD; rfl, by unfold shP; trivial, by decide, by simp [PyData.depth]⟩
  | .bl b, _ => ⟨.bool b, by unfold toD; rfl, by unfold shP; trivial, by cases b <;> decide, by simp [PyData.depth]⟩
  | .int i, h => ⟨.int i, by unfold toD; rfl, by unfold shW at h; unfold shP; exact h, by
      unfold shW at h
      unfold wdW PyData.shown
      have e := int_text_length_le (k := 12900) (by decide) h
      have e2 : (Str.ofString (toString i)).length = (toString i).length := PySem.ofString_length _
      show (Str.ofString (toString i)).length ≤ _
      omega, by simp [PyData.depth]⟩
  | .str x, h => ⟨.str x, by unfold toD; rfl, by unfold shP; trivial, by
      unfold shW at h
      unfold wdW PyData.shown
      have := StrLaws.reprText_len x (fun c hc => of_decide_eq_true (List.all_eq_true.mp h c hc))
      omega, by simp [PyData.depth]⟩
  | .lst xs, h => by
    unfold shW at h
    obtain ⟨ps, q⟩ := shws xs h
    refine ⟨.list ps, by unfold toD; rw [q.td]; rfl, by unfold shP; exact q.sh, ?_, by unfold PyData.depth dpV; have := q.dp; omega⟩
    unfold wdW PyData.shown
    have h1 := listText_len_le (PyData.shownAll ps)
    have h2 := q.ln
    omega
  | .tup xs, h => by
    unfold shW at h
    obtain ⟨ps, q⟩ := shws xs h
    refine ⟨.tuple ps, by unfold toD; rw [q.td]; rfl, by unfold shP; exact q.sh, ?_, by unfold PyData.depth dpV; have := q.dp; omega⟩
    unfold wdW PyData.shown
    have h1 := tupleText_len_le (PyData.shownAll ps)
    have h2 := q.ln
    omega
  | .ty _, h => by unfold shW at h; exact h.elim
  | .ptr _, h => by unfold shW at h; exact h.elim
  | .obj _ _, h => by unfold shW at h; exact h.elim
  | .exc _ _, h => by unfold shW at h; exact h.elim
theorem shws : ∀ (v : List Val), shWs v → ∃ p, ShWs v p
  | [], _ => ⟨[], rfl, by unfold shPs; trivial, by decide, by simp [PyData.depthAll]⟩
  | x :: xs, h => by
    unfold shWs at h
    obtain ⟨p, q⟩ := shw x h.1
    obtain ⟨ps, qs⟩ := shws xs h.2
    refine ⟨p :: ps, by unfold toDs; rw [q.td, qs.td]; rfl, by unfold shPs; exact ⟨q.sh, qs.sh⟩, ?_, by unfold PyData.depthAll dpVs; have := q.dp; have := qs.dp; omega⟩
    unfold PyData.shownAll wdWs
    rw [List.map_cons, List.sum_cons, List.length_cons]
    have := q.ln
    have := qs.ln
    omega
end
section
variable {X : Cx} {Γ : Gam} {M M' : Mem} {P : Val → Mem → Prop} {e a b c o : Expr} {pos p1 : Pos} {d v : Val} {n : Nat}
theorem call_reprW {n : Nat} (D : DigK X.K) (hr : Rm n X.A) : CallR X (.builtin "repr") (fun xs H Q => ∃ (p : Addr) (d : PyData), xs = [.ref p] ∧ Dp X.K H (.ref p) d ∧ shP d ∧ d.depth ≤ 60 ∧ d.shown.length ≤ sizeLine ∧ Q (.str d.shown) H) := by
  intro pins s σ H xs us Q I r h
  obtain ⟨p, d, rfl, hd, h1, h3, h4, q⟩ := h
  obtain ⟨u, rfl, ru⟩ := vals1 r
  obtain rfl : u = Value.ref p := ru
  obtain ⟨as, rd⟩ := Dp.reads I d (.ref p) (.ref p) hd rfl
  have hu := hr.u64
  exact repr_wide (digL D I.kIn) rd h1 h4 hr.gd (by omega) fun h' u tk hk => ⟨.str d.shown, H, I.kept (h' := h') (t' := tk) hk, ⟨_, rfl⟩, q⟩
theorem ae_reprW (D : DigK X.K) (hr : Rm n X.A) (hm : X.mg "repr" = none) (ha : aE X a Γ M fun d M' => ∃ v, Vw M' d v ∧ isSq v ∧ shW v ∧ wdW v ≤ sizeLine ∧ dpV v ≤ 60 ∧ P (.str (rpr v)) M')
    (hg : Gl X "repr" := by rfl) (hst : starEach [a] X.env = [(false, eval a X.env)] := by rfl) : aE X (.Call (.Name "repr" p1) [a] [] pos) Γ M P :=
  ae_callB (call_reprW D hr) hm (by decide +kernel) (aa_cons (ha.mono fun d M' ⟨v, hv, hq, h1, h2, h3, h⟩ => aa_nil fun Hi H vs ok r Q q => by
    cases r with
    | cons r1 r2 =>
      cases r2
      have rH := hv.rep ok r1
      obtain ⟨p, z⟩ := shw v h1
      have e : rpr v = p.shown := by unfold rpr; rw [z.td]
      rw [e] at h
      have t := z.td
      have hl : (∃ xs, p = .list xs) ∨ ∃ xs, p = .tuple xs := by
        cases v with
        | lst xs =>
          unfold toD at t
          obtain ⟨ds, _, rfl⟩ := Option.map_eq_some_iff.mp t
          exact .inl ⟨_, rfl⟩
        | tup xs =>
          unfold toD at t
          obtain ⟨ds, _, rfl⟩ := Option.map_eq_some_iff.mp t
          exact .inr ⟨_, rfl⟩
        | _ => exact hq.elim
      obtain ⟨l, rfl⟩ := rep_ref rH z.td hl
      exact ⟨l, p, rfl, rep_dp _ rH z.td, z.sh, Nat.le_trans z.dp h3, Nat.le_trans z.ln h2, q _ _ _ Hi H h (Same.refl _) ok (.str _)⟩) hst) hg (he := hst) (hpl := rfl)
theorem av_reprW (D : DigK X.K) (hr : Rm n X.A) (hm : X.mg "repr" = none) (ha : aV X a Γ M v) (h2 : isSq v) (h3 : shW v) (h4 : wdW v ≤ sizeLine) (h5 : dpV v ≤ 60)
    (hg : Gl X "repr" := by rfl) (hst : starEach [a] X.env = [(false, eval a X.env)] := by rfl) : aV X (.Call (.Name "repr" p1) [a] [] pos) Γ M (.str (rpr v)) :=
  ae_reprW D hr hm (ha.val ⟨v, .self _, h2, h3, h4, h5, rfl, rfl⟩) hg hst
theorem call_reprI (D : DigK X.K) {n : Nat} (hr : Rm n X.A) : CallR X (.builtin "repr") (fun xs H Q => ∃ i : Int, xs = [.int i] ∧ i.natAbs.log2 < 12900 ∧ Q (.str (toString i)) H) := by
  intro pins s σ H xs us Q I r h
  obtain ⟨i, rfl, hi, q⟩ := h
  obtain ⟨u, rfl, ru⟩ := vals1 r
  obtain ⟨t, rfl⟩ := ru
  have hu := hr.u64
  refine call_repr_slot (by omega) (typeIs_int s i t) F.slot_int_repr.toG (irepr_wide (digL D I.kIn) (fun _ _ z => z) hi ?_)
  exact ⟨_, _, rfl, .str (toString i), H, I.tok _, ⟨_, rfl⟩, q⟩
end
end Ab

/-! sums over powers and quotients; bounds of places -/
namespace Sm
def psum (k : Nat) (f : Nat → Int) (b sh : Nat) : Int := smN (fun j => if k ^ j ≤ b then f (sh + j) else 0) b
def lsum (k : Nat) (f : Nat → Int) (b sh : Nat) : Int := smN (fun j => ((b / k ^ (j + 1) : Nat) : Int) * f (sh + j)) b
theorem smN_same {f : Nat → Int} {n m : Nat} (h1 : ∀ j, n ≤ j → f j = 0) (h2 : ∀ j, m ≤ j → f j = 0) : smN f n = smN f m := by
  have a := smN_ext (f := f) (n := n) (m := n + m) (by omega) h1
  have b := smN_ext (f := f) (n := m) (m := n + m) (by omega) h2
  rw [← a, b]
theorem psum_is {k : Nat} (hk : 2 ≤ k) {f : Nat → Int} {b sh t : Nat} (ht : b < k ^ t) : smN (fun j => if k ^ j ≤ b then f (sh + j) else 0) t = psum k f b sh := by
  refine smN_same (fun j hj => if_neg ?_) fun j hj => if_neg ?_
  · have := Nat.pow_le_pow_right (n := k) (by omega) hj
    omega
  · have := lt_pow hk j
    omega
theorem lsum_is {k : Nat} (hk : 2 ≤ k) {f : Nat → Int} {b sh t : Nat} (ht : b < k ^ (t + 1)) : smN (fun j => ((b / k ^ (j + 1) : Nat) : Int) * f (sh + j)) t = lsum k f b sh := by
  refine smN_same (fun j hj => ?_) fun j hj => ?_
  · have : b < k ^ (j + 1) := Nat.lt_of_lt_of_le ht (Nat.pow_le_pow_right (by omega) (by omega))
    rw [Nat.div_eq_of_lt this]
    simp
  · have : b < k ^ (j + 1) := Nat.lt_trans (Nat.lt_of_le_of_lt hj (lt_pow hk j)) (Nat.pow_lt_pow_right (by omega) (Nat.lt_succ_self j))
    rw [Nat.div_eq_of_lt this]
    simp
theorem siz_ff {k : Nat} {l : Nat → Int} : ∀ h, ff k l (h + 1) = siz k l h
  | 0 => by simp [ff, siz]
  | h + 1 => by
    rw [ff, siz_ff h, siz, Int.mul_comm]
    omega
variable {k : Nat} {s l : Nat → Int}
theorem pl_sums (hk : 2 ≤ k) {h b : Nat} (hb : 0 < b) : pl k s l h b = ed k s l h + l h + ((b : Int) - 1) * siz k l h + lsum k l b (h + 1) + psum k s b (h + 1) := by
  rw [pl_form hb (lt_pow hk b) (Nat.lt_trans (lt_pow hk b) (Nat.pow_lt_pow_right (by omega) (Nat.lt_succ_self b))) hk]
  unfold psum lsum
  have e : smN (fun j => ((b / k ^ (j + 1) : Nat) : Int) * l (h + (j + 1))) b = smN (fun j => ((b / k ^ (j + 1) : Nat) : Int) * l (h + 1 + j)) b := smN_congr fun j _ => by rw [show h + (j + 1) = h + 1 + j by omega]
  rw [e]
  omega
theorem pl_leaf (hk : 2 ≤ k) {b : Nat} : pl k s l 0 b = s 0 + (b : Int) * l 0 + lsum k l b 1 + psum k s b 1 := by
  rcases Nat.eq_zero_or_pos b with z | z
  · subst z
    rw [pl_zero]
    simp [fp, lsum, psum, smN]
  · rw [pl_sums hk z, Nat.zero_add, show ed k s l 0 = s 0 from rfl, show siz k l 0 = l 0 from rfl, Int.sub_mul]
    omega
/-! ### bounds -/
theorem quot_sum (hk : 2 ≤ k) : ∀ (N b : Nat), smN (fun j => ((b / k ^ (j + 1) : Nat) : Int)) N ≤ (b : Int)
  | 0, b => by
    show (0 : Int) ≤ b
    omega
  | N + 1, b => by
    rw [smN_head]
    have h1 : smN (fun j => ((b / k ^ (j + 1 + 1) : Nat) : Int)) N = smN (fun j => ((b / k / k ^ (j + 1) : Nat) : Int)) N := smN_congr fun j _ => by
      rw [Nat.div_div_eq_div_mul, Nat.pow_succ k (j + 1), Nat.mul_comm]
    have h2 := quot_sum hk N (b / k)
    have h3 : 2 * (b / k) ≤ b := Nat.le_trans (Nat.mul_le_mul_right _ hk) (Nat.mul_div_le b k)
    rw [h1, Nat.zero_add, Nat.pow_one]
    omega
theorem smN_const_le {f : Nat → Int} {m : Int} {n : Nat} (h : ∀ j, j < n → f j ≤ m) : smN f n ≤ (n : Int) * m := by
  induction n with
  | zero => simp [smN]
  | succ n ih =>
    have h1 := ih fun j hj => h j (by omega)
    have h2 := h n (by omega)
    rw [smN, Int.natCast_add, Int.add_mul]
    have : ((1 : Nat) : Int) * m = m := by simp
    omega
theorem siz_top (hk : 2 ≤ k) (hk9 : k ≤ 9) (l0 : ∀ j, 0 ≤ l j) (h0 : 0 < l 0) (l3 : ∀ j, l j ≤ 3) : ∀ h, siz k l h + 1 ≤ 4 * ((9 ^ h : Nat) : Int)
  | 0 => by
    have := l3 0
    show l 0 + 1 ≤ 4 * ((1 : Nat) : Int)
    omega
  | h + 1 => by
    have h1 := siz_top hk hk9 l0 h0 l3 h
    have h2 := l3 (h + 1)
    have h3 := sz_pos (l := l) hk l0 h0 h
    have h4 : (k : Int) * siz k l h ≤ 9 * siz k l h := Int.mul_le_mul_of_nonneg_right (by omega) (by omega)
    rw [siz, Nat.pow_succ, Int.natCast_mul]
    omega
theorem ed_top (hk : 2 ≤ k) (hk9 : k ≤ 9) (l0 : ∀ j, 0 ≤ l j) (h0 : 0 < l 0) (l3 : ∀ j, l j ≤ 3) (s3 : ∀ j, s j ≤ 3) : ∀ h, ed k s l h + 1 ≤ 8 * ((9 ^ h : Nat) : Int)
  | 0 => by
    have := s3 0
    show s 0 + 1 ≤ 8 * ((1 : Nat) : Int)
    omega
  | h + 1 => by
    have h1 := ed_top hk hk9 l0 h0 l3 s3 h
    have h2 := s3 (h + 1)
    have h3 := sz_pos (l := l) hk l0 h0 h
    have h5 := siz_top hk hk9 l0 h0 l3 h
    have h4 : ((k : Int) - 1) * siz k l h ≤ 8 * siz k l h := Int.mul_le_mul_of_nonneg_right (by omega) (by omega)
    rw [ed, Nat.pow_succ, Int.natCast_mul]
    omega
theorem siz_nn (l0 : ∀ j, 0 ≤ l j) : ∀ h, 0 ≤ siz k l h
  | 0 => l0 0
  | h + 1 => by
    have h1 := siz_nn l0 h
    have h2 := l0 (h + 1)
    have h3 := Int.mul_nonneg (show (0 : Int) ≤ k by omega) h1
    rw [siz]
    omega
theorem siz_le9 (hk9 : k ≤ 9) (l0 : ∀ j, 0 ≤ l j) (l6 : ∀ j, l j ≤ 1000000) : ∀ h, siz k l h + 1000000 ≤ 2000000 * ((9 ^ h : Nat) : Int)
  | 0 => by
    have := l6 0
    show l 0 + 1000000 ≤ 2000000 * ((1 : Nat) : Int)
    omega
  | h + 1 => by
    have h1 := siz_le9 hk9 l0 l6 h
    have h2 := l6 (h + 1)
    have h3 := siz_nn (k := k) l0 h
    have h4 : (k : Int) * siz k l h ≤ 9 * siz k l h := Int.mul_le_mul_of_nonneg_right (by omega) h3
    rw [siz, Nat.pow_succ, Int.natCast_mul]
    omega
theorem pl_top (hk : 2 ≤ k) (hk9 : k ≤ 9) (s0 : ∀ j, 0 ≤ s j) (l0 : ∀ j, 0 ≤ l j) (h0 : 0 < l 0) (l3 : ∀ j, l j ≤ 3) (s3 : ∀ j, s j ≤ 3) {h b T : Nat} (hT : b < 2 ^ T) : pl k s l h b ≤ 8 * ((9 ^ h : Nat) : Int) + 3 + (b : Int) * (4 * ((9 ^ h : Nat) : Int)) + 3 * (b : Int) + (T : Int) * 3 := by
  have e1 := ed_top hk hk9 l0 h0 l3 s3 h
  have e2 := siz_top hk hk9 l0 h0 l3 h
  have e3 := sz_pos (l := l) hk l0 h0 h
  have p9 : (0 : Int) < ((9 ^ h : Nat) : Int) := by have : 0 < 9 ^ h := Nat.pow_pos (by decide); omega
  rcases Nat.eq_zero_or_pos b with z | z
  · subst z
    rw [pl_zero]
    unfold fp
    have hs := s3 h
    have hz : (0 : Int) ≤ ((0 : Nat) : Int) * (4 * ((9 ^ h : Nat) : Int)) := by simp
    split
    · omega
    · have h1 := ed_top hk hk9 l0 h0 l3 s3 (h - 1)
      have h2 : 9 ^ (h - 1) ≤ 9 ^ h := Nat.pow_le_pow_right (by decide) (by omega)
      omega
  · rw [pl_sums hk z]
    have f1 : lsum k l b (h + 1) ≤ 3 * (b : Int) := by
      have h1 : lsum k l b (h + 1) ≤ smN (fun j => 3 * ((b / k ^ (j + 1) : Nat) : Int)) b := smN_le fun j _ => by
        rw [Int.mul_comm]
        exact Int.mul_le_mul_of_nonneg_right (l3 _) (Int.natCast_nonneg _)
      rw [smN_mul] at h1
      have h2 := quot_sum hk b b
      omega
    have f2 : psum k s b (h + 1) ≤ (T : Int) * 3 := by
      have h1 : b < k ^ T := Nat.lt_of_lt_of_le hT (Nat.pow_le_pow_left hk T)
      rw [← psum_is hk h1]
      exact smN_const_le fun j _ => by
        split
        · exact s3 _
        · decide
    have f3 : ((b : Int) - 1) * siz k l h ≤ (b : Int) * (4 * ((9 ^ h : Nat) : Int)) := Int.mul_le_mul (by omega) (by omega) (by omega) (by omega)
    have f4 := l3 h
    omega
end Sm

/-! pruning: the labels of height 0 taken away -/
namespace Sm
def shf (f : Nat → Int) : Nat → Int := fun j => f (j + 1)
section
variable {k : Nat} {s l : Nat → Int}
theorem pw_succ (k h : Nat) : ((k ^ (h + 1) : Nat) : Int) = (k : Int) * ((k ^ h : Nat) : Int) := by
  rw [Nat.pow_succ, Nat.mul_comm, Int.natCast_mul]
theorem siz_pr : ∀ h, siz k l (h + 1) = siz k (shf l) h + ((k ^ (h + 1) : Nat) : Int) * l 0
  | 0 => by
    rw [siz, siz, pw_succ, Nat.pow_zero]
    show l 1 + (k : Int) * l 0 = l 1 + (k : Int) * ((1 : Nat) : Int) * l 0
    simp
  | h + 1 => by
    rw [siz, siz_pr h, siz, pw_succ k (h + 1)]
    show l (h + 2) + _ = l (h + 2) + _ + _
    rw [Int.mul_add, Int.mul_assoc]
    omega
theorem ed_pr : ∀ h, ed k s l (h + 1) = ed k (shf s) (shf l) h + s 0 + ((k ^ (h + 1) : Nat) : Int) * l 0 - l 0
  | 0 => by
    rw [ed, ed, ed, pw_succ, Nat.pow_zero, siz]
    show s 0 + s 1 + ((k : Int) - 1) * l 0 = s 1 + s 0 + (k : Int) * ((1 : Nat) : Int) * l 0 - l 0
    rw [Int.sub_mul]
    simp
    omega
  | h + 1 => by
    rw [ed, ed_pr h, ed, pw_succ k (h + 1), siz_pr h]
    show _ + s (h + 2) + _ = _ + s (h + 2) + _ + _ + _ - _
    generalize ((k ^ (h + 1) : Nat) : Int) = p
    rw [Int.mul_add, Int.sub_mul _ _ (p * l 0), Int.one_mul, Int.mul_assoc]
    omega
theorem lsum_sh (b h : Nat) : lsum k (shf l) b h = lsum k l b (h + 1) := by
  unfold lsum
  refine smN_congr fun j _ => ?_
  show _ * l (h + j + 1) = _
  rw [show h + j + 1 = h + 1 + j by omega]
theorem psum_sh (b h : Nat) : psum k (shf s) b h = psum k s b (h + 1) := by
  unfold psum
  refine smN_congr fun j _ => ?_
  show (if _ then s (h + j + 1) else 0) = _
  rw [show h + j + 1 = h + 1 + j by omega]
/-- how many leaves lie before the node's own labels -/
def vL (k h b : Nat) : Nat := if b = 0 then k ^ h else k ^ (h + 1) * b
theorem vL_pos (hk : 2 ≤ k) (h b : Nat) : 0 < vL k h b := by
  unfold vL
  split
  · exact Nat.pow_pos (by omega)
  · exact Nat.mul_pos (Nat.pow_pos (by omega)) (by omega)
theorem pl_pr (hk : 2 ≤ k) (h b : Nat) : pl k s l (h + 1) b = pl k (shf s) (shf l) h b + s 0 + ((vL k h b : Int) - 1) * l 0 := by
  rcases Nat.eq_zero_or_pos b with z | z
  · subst z
    rw [pl_zero, pl_zero, fp, fp, if_neg (by omega), Nat.add_sub_cancel]
    show ed k s l h + s (h + 1) = _ + s (h + 1) + s 0 + (((k ^ h : Nat) : Int) - 1) * l 0
    cases h with
    | zero =>
      rw [if_pos rfl, ed, Nat.pow_zero]
      show s 0 + s 1 = 0 + s 1 + s 0 + (((1 : Nat) : Int) - 1) * l 0
      simp
      omega
    | succ h =>
      rw [if_neg (by omega), Nat.add_sub_cancel, ed_pr, Int.sub_mul]
      omega
  · rw [pl_sums hk z, pl_sums hk z, ed_pr, siz_pr, lsum_sh, psum_sh]
    unfold vL
    rw [if_neg (by omega), Int.natCast_mul]
    show _ + l (h + 1) + _ + _ + _ = _ + l (h + 1) + _ + _ + _ + _ + _
    generalize ((k ^ (h + 1) : Nat) : Int) = p
    rw [Int.mul_add, Int.sub_mul _ _ (p * l 0), Int.sub_mul _ _ (l 0), Int.one_mul, Int.one_mul, Int.mul_comm p (b : Int), Int.mul_assoc]
    omega
theorem lsum_k (hk : 2 ≤ k) (b h : Nat) : lsum k l (k * b) h = (b : Int) * l h + lsum k l b (h + 1) := by
  have h1 : k * b < k ^ (k * b + 1) := Nat.lt_trans (lt_pow hk (k * b)) (Nat.pow_lt_pow_right (by omega) (Nat.lt_succ_self _))
  rw [← lsum_is hk (t := k * b + 1) (Nat.lt_of_lt_of_le h1 (Nat.pow_le_pow_right (by omega) (by omega))), ← lsum_is hk (t := k * b) (b := b) (Nat.lt_of_le_of_lt (Nat.le_mul_of_pos_left _ (by omega)) h1), smN_head]
  congr 1
  · rw [Nat.zero_add, Nat.pow_one, Nat.mul_div_cancel_left _ (by omega), Nat.add_zero]
  · refine smN_congr fun j _ => ?_
    rw [Nat.pow_succ k (j + 1), Nat.mul_comm _ k, Nat.mul_div_mul_left _ _ (by omega), show h + (j + 1) = h + 1 + j by omega]
theorem psum_k (hk : 2 ≤ k) {b : Nat} (hb : 0 < b) (h : Nat) : psum k s (k * b) h = s h + psum k s b (h + 1) := by
  have h1 : k * b < k ^ (k * b) := Nat.lt_pow_self (by omega)
  rw [← psum_is hk (t := k * b + 1) (Nat.lt_of_lt_of_le h1 (Nat.pow_le_pow_right (by omega) (by omega))), ← psum_is hk (t := k * b) (b := b) (Nat.lt_of_le_of_lt (Nat.le_mul_of_pos_left _ (by omega)) h1), smN_head]
  congr 1
  · rw [Nat.pow_zero, if_pos (show 1 ≤ k * b from Nat.mul_pos (by omega) hb), Nat.add_zero]
  · refine smN_congr fun j _ => ?_
    have e : k ^ (j + 1) ≤ k * b ↔ k ^ j ≤ b := by
      rw [Nat.pow_succ, Nat.mul_comm]
      exact Nat.mul_le_mul_left_iff (by omega)
    rw [show h + (j + 1) = h + 1 + j by omega]
    by_cases c : k ^ j ≤ b
    · rw [if_pos c, if_pos (e.mpr c)]
    · rw [if_neg c, if_neg (fun z => c (e.mp z))]
/-- the first child -/
theorem pl_child (hk : 2 ≤ k) {b : Nat} (hb : 0 < b) (h : Nat) : pl k s l h (k * b) = pl k s l (h + 1) b + l h := by
  rw [pl_sums hk (Nat.mul_pos (by omega) hb), pl_sums hk hb, lsum_k hk, psum_k hk hb, ed, siz, Int.natCast_mul]
  generalize siz k l h = z
  have e : ((b : Int) - 1) * (l (h + 1) + (k : Int) * z) = (b : Int) * l (h + 1) - l (h + 1) + ((k : Int) * (b : Int)) * z - (k : Int) * z := by
    rw [Int.sub_mul, Int.one_mul, Int.mul_add, ← Int.mul_assoc, Int.mul_comm (b : Int) (k : Int)]
    omega
  rw [e, Int.sub_mul, Int.sub_mul, Int.one_mul]
  omega
theorem pl_first (hk : 2 ≤ k) (h : Nat) : pl k s l h 1 = pl k s l (h + 1) 0 + l h := by
  rw [pl_sums hk (by omega), pl_zero, fp, if_neg (by omega), Nat.add_sub_cancel]
  have e1 : lsum k l 1 (h + 1) = 0 := by
    rw [← lsum_is hk (t := 0) (by rw [Nat.zero_add, Nat.pow_one]; omega)]
    rfl
  have e2 : psum k s 1 (h + 1) = s (h + 1) := by
    rw [← psum_is hk (t := 1) (by rw [Nat.pow_one]; omega), smN, smN, Nat.pow_zero, if_pos (Nat.le_refl 1)]
    show 0 + s (h + 1 + 0) = _
    rw [Nat.add_zero, Int.zero_add]
  rw [e1, e2]
  simp
  omega
theorem pl_down (hk : 2 ≤ k) : ∀ (h : Nat) {b : Nat}, 0 < b → pl k s l 0 (k ^ h * b) = pl k s l h b + smN l h
  | 0, b, hb => by rw [Nat.pow_zero, Nat.one_mul, smN, Int.add_zero]
  | h + 1, b, hb => by
    rw [Nat.pow_succ, Nat.mul_assoc, pl_down hk h (Nat.mul_pos (by omega) hb), pl_child hk hb, smN]
    omega
theorem pl_vL (hk : 2 ≤ k) (h b : Nat) : pl k s l 0 (vL k h b) = pl k s l (h + 1) b + smN l (h + 1) := by
  unfold vL
  split
  · rename_i z
    subst z
    have := pl_down (s := s) (l := l) hk h (b := 1) (by omega)
    rw [Nat.mul_one] at this
    rw [this, pl_first hk, smN]
    omega
  · exact pl_down hk (h + 1) (by omega)
theorem smN_mon {f : Nat → Int} (h : ∀ j, 0 ≤ f j) {n m : Nat} (hn : n ≤ m) : smN f n ≤ smN f m := by
  induction m with
  | zero =>
    have : n = 0 := by omega
    subst this
    exact Int.le_refl _
  | succ m ih =>
    rcases Nat.lt_or_ge m n with z | z
    · have : n = m + 1 := by omega
      subst this
      exact Int.le_refl _
    · have := ih z
      have := h m
      rw [smN]
      omega
theorem smN_nn0 {f : Nat → Int} (h : ∀ j, 0 ≤ f j) (n : Nat) : 0 ≤ smN f n := smN_mon h (Nat.zero_le n)
/-- the step before a leaf whose number has a power -/
theorem pl_prev (hk : 2 ≤ k) (hs : ∀ j, 0 ≤ s j) (hl : ∀ j, 0 ≤ l j) {t v : Nat} (hv : k ^ t ∣ v) (v0 : 0 < v) : pl k s l 0 (v - 1) + smN l (t + 1) ≤ pl k s l 0 v := by
  obtain ⟨b, rfl⟩ : ∃ b, v = b + 1 := ⟨v - 1, by omega⟩
  rw [Nat.add_sub_cancel, pl0_place hk, pl0_place hk]
  have hN : b + 1 < k ^ (b + 1 + t) := Nat.lt_of_lt_of_le (Nat.lt_pow_self (by omega)) (Nat.pow_le_pow_right (by omega) (by omega))
  have h1 := place_step (s := s) (l := l) hk hN
  have h2 : 0 ≤ smN (fun j => if k ^ j = b + 1 then s (j + 1) else 0) (b + 1 + t) := smN_nn0 (fun j => by split; exact hs _; exact Int.le_refl _) _
  have h3 : smN (fun j => if k ^ j ∣ b + 1 then l j else 0) (t + 1) ≤ smN (fun j => if k ^ j ∣ b + 1 then l j else 0) (b + 1 + t + 1) := smN_mon (fun j => by split; exact hl _; exact Int.le_refl _) (by omega)
  have h4 : smN (fun j => if k ^ j ∣ b + 1 then l j else 0) (t + 1) = smN l (t + 1) := smN_congr fun j hj => if_pos (Nat.dvd_trans (Nat.pow_dvd_pow k (by omega)) hv)
  omega
theorem vL_prev (hk : 2 ≤ k) (hs : ∀ j, 0 ≤ s j) (hl : ∀ j, 0 ≤ l j) (h b : Nat) : pl k s l 0 (vL k h b - 1) + (if b = 0 then 0 else l (h + 1)) ≤ pl k s l (h + 1) b := by
  have e := pl_vL (s := s) (l := l) hk h b
  have v0 := vL_pos hk h b
  by_cases z : b = 0
  · have h1 := pl_prev (s := s) (l := l) hk hs hl (t := h) (v := vL k h b) (by unfold vL; rw [if_pos z]; exact Nat.dvd_refl _) v0
    rw [if_pos z]
    omega
  · have h1 := pl_prev (s := s) (l := l) hk hs hl (t := h + 1) (v := vL k h b) (by unfold vL; rw [if_neg z]; exact Nat.dvd_mul_right _ _) v0
    rw [smN] at h1
    rw [if_neg z]
    omega
/-- the labels of height h among the first n labels, v nodes being finished -/
def lcv (k : Nat) (s l : Nat → Int) (h : Nat) (n v : Int) : Int := max (n - (pl k s l h v.toNat - lab s l h v.toNat)) 0 + if 0 < v then s h + (v - 1) * l h else 0
theorem pl_far (hk : 2 ≤ k) (hs : ∀ j, 0 ≤ s j) (hl : ∀ j, 0 ≤ l j) (h0 : 0 < l 0) (h b : Nat) : ∀ d : Nat, pl k s l h b + (d : Int) * l h ≤ pl k s l h (b + d)
  | 0 => by simp
  | d + 1 => by
    have h1 := pl_far hk hs hl h0 h b d
    have h2 := pl_step hk hs hl h0 h (b + d)
    unfold lab at h2
    rw [if_neg (by omega)] at h2
    rw [show b + (d + 1) = b + d + 1 by omega, Int.natCast_add, Int.add_mul]
    simp
    omega
theorem Cnt.mono {h : Nat} {n m v u : Int} (a : Cnt k s l h n v) (b : Cnt k s l h m u) (hn : n ≤ m) : v ≤ u := by
  rcases (show v ≤ u ∨ u < v by omega) with z | z
  · exact z
  · have u0 := b.1
    have h1 := (a.2 u.toNat).mp (by omega)
    have h2 := (b.2 u.toNat).mpr (by omega)
    omega
/-- what is left without the labels of the height grows with n -/
theorem lcv_mono (hk : 2 ≤ k) (hs : ∀ j, 0 ≤ s j) (hl : ∀ j, 0 ≤ l j) (h0 : 0 < l 0) {h : Nat} {n m v u : Int} (a : Cnt k s l h n v) (b : Cnt k s l h m u) (hn : n ≤ m) : n - lcv k s l h n v ≤ m - lcv k s l h m u := by
  have hv := a.mono b hn
  have v0 := a.1
  have u0 := b.1
  obtain ⟨v, rfl⟩ := Int.eq_ofNat_of_zero_le v0
  obtain ⟨u, rfl⟩ := Int.eq_ofNat_of_zero_le u0
  unfold lcv
  rw [Int.toNat_natCast, Int.toNat_natCast]
  rcases Nat.lt_or_ge v u with z | z
  · obtain ⟨d, rfl⟩ : ∃ d, u = v + d + 1 := ⟨u - v - 1, by omega⟩
    have h1 := pl_far hk hs hl h0 h v d
    have h2 := pl_step hk hs hl h0 h (v + d)
    have h3 := (b.2 (v + d)).mp (by omega)
    have h4 := pl_lab hk hs hl h0 h v
    have e : (((v + d + 1 : Nat) : Int) - 1) * l h = (v : Int) * l h + (d : Int) * l h := by
      rw [show (((v + d + 1 : Nat) : Int) - 1) = (v : Int) + (d : Int) by omega, Int.add_mul]
    rw [if_pos (show (0 : Int) < ((v + d + 1 : Nat) : Int) by omega), e]
    by_cases hz : v = 0
    · subst hz
      have e0 : lab s l h 0 = s h := rfl
      rw [if_neg (show ¬ (0 : Int) < ((0 : Nat) : Int) by omega), e0]
      rw [e0] at h4
      have e3 : ((0 : Nat) : Int) * l h = 0 := by simp
      omega
    · have e0 : lab s l h v = l h := by unfold lab; rw [if_neg hz]
      rw [if_pos (show (0 : Int) < (v : Int) by omega), e0, Int.sub_mul, Int.one_mul]
      omega
  · have : u = v := by omega
    subst this
    omega
/-- .. at the own place of a node one higher, and just before it -/
theorem cnt_vL (hk : 2 ≤ k) (hs : ∀ j, 0 ≤ s j) (hl : ∀ j, 0 ≤ l j) (h0 : 0 < l 0) {h b : Nat} {n : Int} (h1 : pl k s l (h + 1) b - (if b = 0 then 0 else l (h + 1)) ≤ n) (h2 : n ≤ pl k s l (h + 1) b) : Cnt k s l 0 n (vL k h b : Int) := by
  refine ⟨by omega, fun c => ⟨fun z => ?_, fun z => ?_⟩⟩
  · have e1 := pl_mono hk hs hl h0 0 (show c ≤ vL k h b - 1 by omega)
    have e2 := vL_prev (s := s) (l := l) hk hs hl h b
    omega
  · rcases (show (c : Int) < (vL k h b : Int) ∨ vL k h b ≤ c by omega) with y | y
    · exact y
    · have e1 := pl_mono hk hs hl h0 0 y
      have e2 := pl_vL (s := s) (l := l) hk h b
      have e3 : smN l 1 ≤ smN l (h + 1) := smN_mon hl (by omega)
      have e4 : smN l 1 = l 0 := by rw [smN, smN, Int.zero_add]
      omega
theorem lcv_vL (hk : 2 ≤ k) (hl : ∀ j, 0 ≤ l j) {h b : Nat} {n : Int} (h2 : n ≤ pl k s l (h + 1) b) : n - lcv k s l 0 n (vL k h b : Int) = n - pl k s l (h + 1) b + pl k (shf s) (shf l) h b := by
  have v0 := vL_pos hk h b
  have e1 := pl_pr (s := s) (l := l) hk h b
  have e2 := pl_vL (s := s) (l := l) hk h b
  have e3 : smN l 1 ≤ smN l (h + 1) := smN_mon hl (by omega)
  have e4 : smN l 1 = l 0 := by rw [smN, smN, Int.zero_add]
  have e5 : lab s l 0 (vL k h b) = l 0 := by unfold lab; rw [if_neg (by omega)]
  unfold lcv
  rw [Int.toNat_natCast, if_pos (by omega), e5]
  omega
/-- pruning keeps the order of nodes and labels -/
theorem prune_le (hk : 2 ≤ k) (hs : ∀ j, 0 ≤ s j) (hl : ∀ j, 0 ≤ l j) (h0 : 0 < l 0) {h b : Nat} {n v : Int} (hv : Cnt k s l 0 n v) (hn : pl k s l (h + 1) b ≤ n) : pl k (shf s) (shf l) h b ≤ n - lcv k s l 0 n v := by
  have c0 : (0 : Int) ≤ if b = 0 then 0 else l (h + 1) := by split; exact Int.le_refl _; exact hl _
  have h1 := lcv_mono hk hs hl h0 (cnt_vL hk hs hl h0 (h := h) (b := b) (by omega) (Int.le_refl _)) hv hn
  rw [lcv_vL hk hl (Int.le_refl _)] at h1
  omega
theorem prune_lt (hk : 2 ≤ k) (hs : ∀ j, 0 ≤ s j) (hl : ∀ j, 0 ≤ l j) (h0 : 0 < l 0) {h b : Nat} {n v : Int} (hv : Cnt k s l 0 n v) (hb : 0 < b) (h1 : 0 < l (h + 1)) (hn : n < pl k s l (h + 1) b) : n - lcv k s l 0 n v < pl k (shf s) (shf l) h b := by
  have h2 := lcv_mono hk hs hl h0 hv (cnt_vL hk hs hl h0 (h := h) (b := b) (n := pl k s l (h + 1) b - 1) (by rw [if_neg (by omega)]; omega) (by omega)) (by omega)
  rw [lcv_vL hk hl (by omega)] at h2
  omega
theorem lcv_nn (hk : 2 ≤ k) (hs : ∀ j, 0 ≤ s j) (hl : ∀ j, 0 ≤ l j) {h : Nat} {n v : Int} : 0 ≤ lcv k s l h n v := by
  unfold lcv
  split
  · have h1 := hs h
    have h2 : 0 ≤ (v - 1) * l h := Int.mul_nonneg (by omega) (hl h)
    omega
  · omega
theorem lcv_le (hk : 2 ≤ k) (hs : ∀ j, 0 ≤ s j) (hl : ∀ j, 0 ≤ l j) (h0 : 0 < l 0) {h : Nat} {n v : Int} (n0 : 0 ≤ n) (hv : Cnt k s l h n v) : lcv k s l h n v ≤ n := by
  have v0 := hv.1
  obtain ⟨v, rfl⟩ := Int.eq_ofNat_of_zero_le v0
  unfold lcv
  rw [Int.toNat_natCast]
  have h4 := pl_lab hk hs hl h0 h v
  by_cases hz : v = 0
  · subst hz
    rw [if_neg (by omega)]
    omega
  · obtain ⟨d, rfl⟩ : ∃ d, v = d + 1 := ⟨v - 1, by omega⟩
    have h1 := pl_far hk hs hl h0 h 0 d
    have h2 := pl_step hk hs hl h0 h d
    have h3 := (hv.2 d).mp (by omega)
    have h5 := pl_lab hk hs hl h0 h 0
    have e0 : lab s l h 0 = s h := rfl
    have e : (((d + 1 : Nat) : Int) - 1) = (d : Int) := by omega
    rw [if_pos (by omega), e]
    rw [Nat.zero_add] at h1
    omega
end
end Sm

/-! the labels of all heights make up all labels -/
namespace Sm
/-- the part of the labels a+1 .. a+w that lies up to n -/
def cl (n a w : Int) : Int := max 0 (min (n - a) w)
theorem cl_add {n a w1 w2 : Int} (h1 : 0 ≤ w1) (h2 : 0 ≤ w2) : cl n a w1 + cl n (a + w1) w2 = cl n a (w1 + w2) := by
  unfold cl
  omega
theorem cl_out {n a w : Int} (h : n ≤ a) : cl n a w = 0 := by
  unfold cl
  omega
theorem cl_mul {n a z : Int} (hz : 0 ≤ z) : ∀ m : Nat, smN (fun i => cl n (a + (i : Int) * z) z) m = cl n a ((m : Int) * z)
  | 0 => by
    unfold cl
    simp [smN]
    omega
  | m + 1 => by
    rw [smN, cl_mul hz m, cl_add (Int.mul_nonneg (by omega) hz) hz, Int.natCast_add, Int.add_mul]
    simp
def sg (f : Nat → Int) (lo c : Nat) : Int := smN (fun i => f (lo + i)) c
theorem sg_split {f : Nat → Int} {lo a : Nat} : ∀ b, sg f lo (a + b) = sg f lo a + sg f (lo + a) b
  | 0 => by
    unfold sg
    simp [smN]
  | b + 1 => by
    have := sg_split (f := f) (lo := lo) (a := a) b
    unfold sg at *
    rw [show a + (b + 1) = a + b + 1 by omega, smN, this, smN, show lo + a + b = lo + (a + b) by omega]
    omega
theorem sg_mul {f : Nat → Int} {lo c : Nat} : ∀ m, sg f lo (m * c) = smN (fun i => sg f (lo + i * c) c) m
  | 0 => by
    rw [Nat.zero_mul]
    rfl
  | m + 1 => by
    rw [Nat.add_mul, Nat.one_mul, sg_split, sg_mul m, smN]
theorem smN_add2 {f g : Nat → Int} : ∀ n, smN (fun i => f i + g i) n = smN f n + smN g n
  | 0 => rfl
  | n + 1 => by
    rw [smN, smN, smN, smN_add2 n]
    omega
theorem smN_ext2 {f : Nat → Int} {n m : Nat} (hn : n < m) (h : ∀ j, n < j → f j = 0) : smN f m = smN f (n + 1) := smN_ext (by omega) fun j hj => h j (by omega)
theorem smN_swap {f : Nat → Nat → Int} {m : Nat} : ∀ n, smN (fun j => smN (fun i => f j i) m) n = smN (fun i => smN (fun j => f j i) n) m
  | 0 => by
    have : ∀ m, smN (fun _ => (0 : Int)) m = 0 := fun m => by
      induction m with
      | zero => rfl
      | succ m ih => rw [smN, ih]; rfl
    show 0 = smN (fun i => 0) m
    rw [this]
  | n + 1 => by
    rw [smN, smN_swap n, ← smN_add2]
    exact smN_congr fun i _ => rfl
section
variable {k : Nat} {s l : Nat → Int}
theorem lsum_same (hk : 2 ≤ k) {c : Nat} (hc : ¬ k ∣ c + 1) (h : Nat) : lsum k l (c + 1) h = lsum k l c h := by
  have h1 : c + 1 < k ^ (c + 1 + 1) := Nat.lt_trans (lt_pow hk (c + 1)) (Nat.pow_lt_pow_right (by omega) (Nat.lt_succ_self _))
  rw [← lsum_is hk (t := c + 1) h1, ← lsum_is hk (t := c + 1) (b := c) (by omega)]
  refine smN_congr fun j _ => ?_
  have := dvd_iff_div (m := k ^ (j + 1)) (b := c) (Nat.pow_pos (by omega))
  rw [if_neg (fun z => hc (Nat.dvd_trans ⟨k ^ j, by rw [Nat.pow_succ, Nat.mul_comm]⟩ z))] at this
  congr 1
  omega
theorem psum_same (hk : 2 ≤ k) {c : Nat} (hc : ¬ k ∣ c + 1) (c0 : 0 < c) (h : Nat) : psum k s (c + 1) h = psum k s c h := by
  have h1 := lt_pow hk (c + 1)
  rw [← psum_is hk (t := c + 1) h1, ← psum_is hk (t := c + 1) (b := c) (by omega)]
  refine smN_congr fun j _ => ?_
  have e : k ^ j ≤ c + 1 ↔ k ^ j ≤ c := by
    refine ⟨fun z => ?_, fun z => by omega⟩
    rcases Nat.lt_or_ge c (k ^ j) with y | y
    · exfalso
      have : k ^ j = c + 1 := by omega
      cases j with
      | zero => rw [Nat.pow_zero] at this; omega
      | succ j => exact hc ⟨k ^ j, by rw [← this, Nat.pow_succ, Nat.mul_comm]⟩
    · exact y
  by_cases z : k ^ j ≤ c
  · rw [if_pos z, if_pos (e.mpr z)]
  · rw [if_neg z, if_neg (fun y => z (e.mp y))]
/-- siblings -/
theorem pl_sib (hk : 2 ≤ k) {c : Nat} (hc : ¬ k ∣ c + 1) (c0 : 0 < c) (h : Nat) : pl k s l h (c + 1) = pl k s l h c + siz k l h := by
  rw [pl_sums hk (by omega), pl_sums hk c0, lsum_same hk hc, psum_same hk hc c0, show (((c + 1 : Nat) : Int) - 1) = ((c : Int) - 1) + 1 by omega, Int.add_mul, Int.one_mul]
  omega
theorem pl_sibs (hk : 2 ≤ k) (h : Nat) {b : Nat} (hb : 0 < b) : ∀ i, i < k → pl k s l h (b * k + i) = pl k s l h (b * k) + (i : Int) * siz k l h
  | 0, _ => by simp
  | i + 1, hi => by
    have h1 := pl_sibs hk h hb i (by omega)
    have h2 : 0 < b * k := Nat.mul_pos hb (by omega)
    rw [show b * k + (i + 1) = b * k + i + 1 by omega, pl_sib hk (fun z => ?_) (by omega), h1, Int.natCast_add, Int.add_mul]
    · simp
      omega
    · rw [show b * k + i + 1 = b * k + (i + 1) by omega] at z
      have := (Nat.dvd_add_right (Nat.dvd_mul_left k b)).mp z
      have := Nat.le_of_dvd (by omega) this
      omega
theorem pl_sib0 (hk : 2 ≤ k) (h : Nat) : ∀ i, i + 1 < k → pl k s l h (i + 1) = pl k s l h 1 + (i : Int) * siz k l h
  | 0, _ => by simp
  | i + 1, hi => by
    have h1 := pl_sib0 hk h i (by omega)
    rw [pl_sib hk (fun z => ?_) (by omega), h1, Int.natCast_add, Int.add_mul]
    · simp
      omega
    · have := Nat.le_of_dvd (by omega) z
      omega
/-- where a node's own labels begin -/
def stt (k : Nat) (s l : Nat → Int) (h b : Nat) : Int := pl k s l h b - lab s l h b
theorem stt_pos {h b : Nat} (hb : 0 < b) : stt k s l h b = pl k s l h b - l h := by
  unfold stt lab
  rw [if_neg (by omega)]
theorem subtree (hk : 2 ≤ k) (hl : ∀ j, 0 ≤ l j) (n : Int) : ∀ (h : Nat) {b : Nat}, 0 < b → smN (fun j => sg (fun c => cl n (stt k s l j c) (l j)) (b * k ^ (h - j)) (k ^ (h - j))) (h + 1) = cl n (stt k s l h b) (siz k l h)
  | 0, b, hb => by
    simp [smN, sg, siz]
  | h + 1, b, hb => by
    rw [smN]
    have e1 : smN (fun j => sg (fun c => cl n (stt k s l j c) (l j)) (b * k ^ (h + 1 - j)) (k ^ (h + 1 - j))) (h + 1) = smN (fun i => smN (fun j => sg (fun c => cl n (stt k s l j c) (l j)) ((b * k + i) * k ^ (h - j)) (k ^ (h - j))) (h + 1)) k := by
      rw [← smN_swap]
      refine smN_congr fun j hj => ?_
      rw [show h + 1 - j = (h - j) + 1 by omega, Nat.pow_succ, Nat.mul_comm (k ^ (h - j)) k, sg_mul]
      refine smN_congr fun i _ => ?_
      rw [← Nat.mul_assoc, ← Nat.add_mul]
    have e2 : smN (fun i => smN (fun j => sg (fun c => cl n (stt k s l j c) (l j)) ((b * k + i) * k ^ (h - j)) (k ^ (h - j))) (h + 1)) k = cl n (pl k s l (h + 1) b) ((k : Int) * siz k l h) := by
      have hz : 0 ≤ siz k l h := siz_nn hl h
      rw [← cl_mul hz]
      refine smN_congr fun i hi => ?_
      have hbk : 0 < b * k := Nat.mul_pos hb (by omega)
      rw [subtree hk hl n h (b := b * k + i) (by omega), stt_pos (by omega), pl_sibs hk h hb i hi, Nat.mul_comm b k, pl_child hk hb]
      congr 1
      omega
    rw [e1, e2, Nat.sub_self, Nat.pow_zero, Nat.mul_one]
    have e3 : sg (fun c => cl n (stt k s l (h + 1) c) (l (h + 1))) b 1 = cl n (stt k s l (h + 1) b) (l (h + 1)) := by
      unfold sg
      rw [smN, smN, Int.zero_add]
      rfl
    rw [e3, siz, ← cl_add (hl _) (Int.mul_nonneg (by omega) (siz_nn hl h)), stt_pos hb]
    rw [show pl k s l (h + 1) b - l (h + 1) + l (h + 1) = pl k s l (h + 1) b by omega]
    omega
theorem spine (hk : 2 ≤ k) (hs : ∀ j, 0 ≤ s j) (hl : ∀ j, 0 ≤ l j) (h0 : 0 < l 0) (n : Int) : ∀ H : Nat, smN (fun j => sg (fun c => cl n (stt k s l j c) (lab s l j c)) 0 (k ^ (H - j))) (H + 1) = cl n 0 (ed k s l H)
  | 0 => by
    have e : stt k s l 0 0 = 0 := by
      unfold stt lab
      rw [if_pos rfl, pl_zero, fp, if_pos rfl]
      omega
    show 0 + sg _ 0 (k ^ 0) = _
    unfold sg
    rw [Nat.pow_zero, smN, smN, ed]
    show 0 + (0 + cl n (stt k s l 0 0) (s 0)) = _
    rw [e]
    omega
  | H + 1 => by
    have ih := spine hk hs hl h0 n H
    rw [smN]
    have e1 : smN (fun j => sg (fun c => cl n (stt k s l j c) (lab s l j c)) 0 (k ^ (H + 1 - j))) (H + 1) = smN (fun j => sg (fun c => cl n (stt k s l j c) (lab s l j c)) 0 (k ^ (H - j))) (H + 1) + smN (fun i => smN (fun j => sg (fun c => cl n (stt k s l j c) (l j)) ((i + 1) * k ^ (H - j)) (k ^ (H - j))) (H + 1)) (k - 1) := by
      rw [← smN_swap, ← smN_add2]
      refine smN_congr fun j hj => ?_
      rw [show H + 1 - j = (H - j) + 1 by omega, Nat.pow_succ, show k ^ (H - j) * k = k ^ (H - j) + (k - 1) * k ^ (H - j) by
        obtain ⟨q, rfl⟩ : ∃ q, k = q + 1 := ⟨k - 1, by omega⟩
        rw [Nat.add_sub_cancel, Nat.mul_add, Nat.mul_one, Nat.mul_comm q]
        omega, sg_split, sg_mul]
      congr 1
      refine smN_congr fun i _ => ?_
      have hp : 0 < k ^ (H - j) := Nat.pow_pos (by omega)
      unfold sg
      rw [show 0 + k ^ (H - j) + i * k ^ (H - j) = (i + 1) * k ^ (H - j) by rw [Nat.add_mul]; omega]
      refine smN_congr fun x _ => ?_
      have : 0 < (i + 1) * k ^ (H - j) := Nat.mul_pos (by omega) hp
      show cl n _ (lab s l j _) = cl n _ _
      unfold lab
      rw [if_neg (by omega)]
    have e2 : smN (fun i => smN (fun j => sg (fun c => cl n (stt k s l j c) (l j)) ((i + 1) * k ^ (H - j)) (k ^ (H - j))) (H + 1)) (k - 1) = cl n (pl k s l (H + 1) 0) (((k - 1 : Nat) : Int) * siz k l H) := by
      rw [← cl_mul (siz_nn hl H)]
      refine smN_congr fun i hi => ?_
      rw [subtree hk hl n H (b := i + 1) (by omega), stt_pos (by omega), pl_sib0 hk H i (by omega), pl_first hk]
      congr 1
      omega
    have e3 : sg (fun c => cl n (stt k s l (H + 1) c) (lab s l (H + 1) c)) 0 (k ^ (H + 1 - (H + 1))) = cl n (ed k s l H) (s (H + 1)) := by
      unfold sg
      rw [Nat.sub_self, Nat.pow_zero, smN, smN]
      show 0 + cl n (stt k s l (H + 1) 0) (s (H + 1)) = _
      have : stt k s l (H + 1) 0 = ed k s l H := by
        unfold stt lab
        rw [if_pos rfl, pl_zero, fp, if_neg (by omega), Nat.add_sub_cancel]
        omega
      rw [this, Int.zero_add]
    have e4 : pl k s l (H + 1) 0 = ed k s l H + s (H + 1) := by
      rw [pl_zero, fp, if_neg (by omega), Nat.add_sub_cancel]
    have en := ed_nn hk hs hl h0 H
    rw [e1, ih, e2, e3, e4, ed]
    have c1 := cl_add (n := n) (a := 0) (w1 := ed k s l H) (w2 := s (H + 1)) en (hs _)
    have c2 := cl_add (n := n) (a := 0) (w1 := ed k s l H + s (H + 1)) (w2 := ((k - 1 : Nat) : Int) * siz k l H) (by have := hs (H + 1); omega) (Int.mul_nonneg (by omega) (siz_nn hl H))
    rw [Int.zero_add] at c1 c2
    rw [show ((k : Int) - 1) = ((k - 1 : Nat) : Int) by omega]
    omega
/-- lcv as a sum over the nodes -/
theorem smN_lab {h : Nat} : ∀ v : Nat, smN (lab s l h) v = if 0 < v then s h + ((v : Int) - 1) * l h else 0
  | 0 => rfl
  | v + 1 => by
    rw [smN, smN_lab v, if_pos (show 0 < v + 1 by omega)]
    cases v with
    | zero =>
      rw [if_neg (by omega)]
      show 0 + s h = s h + (((1 : Nat) : Int) - 1) * l h
      simp
    | succ v =>
      rw [if_pos (by omega)]
      unfold lab
      rw [if_neg (by omega), show (((v + 1 + 1 : Nat) : Int) - 1) = (((v + 1 : Nat) : Int) - 1) + 1 by omega, Int.add_mul (((v + 1 : Nat) : Int) - 1), Int.one_mul]
      omega
theorem lcv_sum (hk : 2 ≤ k) (hs : ∀ j, 0 ≤ s j) (hl : ∀ j, 0 ≤ l j) (h0 : 0 < l 0) {h v B : Nat} {n : Int} (hv : Cnt k s l h n (v : Int)) (hB : v < B) : smN (fun b => cl n (stt k s l h b) (lab s l h b)) B = lcv k s l h n (v : Int) := by
  have ln : ∀ b, 0 ≤ lab s l h b := fun b => by unfold lab; split; exact hs _; exact hl _
  have e1 : smN (fun b => cl n (stt k s l h b) (lab s l h b)) B = smN (fun b => cl n (stt k s l h b) (lab s l h b)) (v + 1) := smN_ext2 hB fun b hb => ?_
  · rw [e1, smN]
    have e2 : smN (fun b => cl n (stt k s l h b) (lab s l h b)) v = smN (lab s l h) v := smN_congr fun b hb => by
      have h1 := (hv.2 b).mp (by omega)
      have h2 := ln b
      unfold cl stt
      omega
    have h3 : ¬ pl k s l h v ≤ n := fun z => by have := (hv.2 v).mpr z; omega
    have h4 := ln v
    rw [e2, smN_lab]
    unfold lcv cl stt
    rw [Int.toNat_natCast]
    have e3 : (if 0 < v then s h + ((v : Int) - 1) * l h else 0) = if 0 < (v : Int) then s h + ((v : Int) - 1) * l h else 0 := by
      by_cases z : 0 < v
      · rw [if_pos z, if_pos (by omega)]
      · rw [if_neg z, if_neg (by omega)]
    rw [e3]
    omega
  · have h3 : ¬ pl k s l h v ≤ n := fun z => by have := (hv.2 v).mpr z; omega
    obtain ⟨c, rfl⟩ : ∃ c, b = c + 1 := ⟨b - 1, by omega⟩
    have h1 := pl_step hk hs hl h0 h c
    have h2 := pl_mono hk hs hl h0 h (show v ≤ c by omega)
    refine cl_out ?_
    unfold stt
    omega
theorem siz_pw (hk : 2 ≤ k) (hl : ∀ j, 0 ≤ l j) (h0 : 0 < l 0) : ∀ h : Nat, ((2 ^ h : Nat) : Int) ≤ siz k l h
  | 0 => by
    rw [siz, Nat.pow_zero]
    omega
  | h + 1 => by
    have h1 := siz_pw hk hl h0 h
    have h2 : 2 * siz k l h ≤ (k : Int) * siz k l h := Int.mul_le_mul_of_nonneg_right (by omega) (siz_nn hl h)
    have h3 := hl (h + 1)
    rw [siz, Nat.pow_succ, Int.natCast_mul]
    omega
theorem ed_pw (hk : 2 ≤ k) (hs : ∀ j, 0 ≤ s j) (hl : ∀ j, 0 ≤ l j) (h0 : 0 < l 0) (h : Nat) : ((2 ^ h : Nat) : Int) ≤ ed k s l (h + 1) := by
  have h1 := siz_pw hk hl h0 h
  have h2 := ed_nn hk hs hl h0 h
  have h3 := hs (h + 1)
  have h4 : 1 * siz k l h ≤ ((k : Int) - 1) * siz k l h := Int.mul_le_mul_of_nonneg_right (by omega) (siz_nn hl h)
  rw [ed]
  omega
/-- the labels of all heights below H, v j nodes of height j being finished -/
theorem heights (hk : 2 ≤ k) (hs : ∀ j, 0 ≤ s j) (hl : ∀ j, 0 ≤ l j) (h0 : 0 < l 0) {n : Int} {v : Nat → Nat} (n0 : 0 ≤ n) (T : Nat) (hn : n + 2 < ((2 ^ T : Nat) : Int)) (hv : ∀ j, Cnt k s l j n (v j : Int)) : smN (fun j => lcv k s l j n (v j : Int)) (T + 2) = n := by
  have h1 := spine hk hs hl h0 n (T + 2 + T)
  have he : n ≤ ed k s l (T + 2 + T) := by
    have := ed_pw hk hs hl h0 (T + 1 + T)
    have h2 : (2 : Nat) ^ T ≤ 2 ^ (T + 1 + T) := Nat.pow_le_pow_right (by decide) (by omega)
    have h3 : ((2 ^ T : Nat) : Int) ≤ ((2 ^ (T + 1 + T) : Nat) : Int) := Int.ofNat_le.mpr h2
    rw [show T + 2 + T = T + 1 + T + 1 by omega]
    omega
  have e1 : cl n 0 (ed k s l (T + 2 + T)) = n := by unfold cl; omega
  rw [e1] at h1
  have e2 : smN (fun j => sg (fun c => cl n (stt k s l j c) (lab s l j c)) 0 (k ^ (T + 2 + T - j))) (T + 2 + T + 1) = smN (fun j => sg (fun c => cl n (stt k s l j c) (lab s l j c)) 0 (k ^ (T + 2 + T - j))) (T + 2) := by
    refine smN_ext (by omega) fun j hj => ?_
    have h2 : n ≤ ed k s l (j - 1) := by
      have := ed_pw hk hs hl h0 (j - 2)
      have h2 : (2 : Nat) ^ T ≤ 2 ^ (j - 2) := Nat.pow_le_pow_right (by decide) (by omega)
      have h3 : ((2 ^ T : Nat) : Int) ≤ ((2 ^ (j - 2) : Nat) : Int) := Int.ofNat_le.mpr h2
      rw [show j - 2 + 1 = j - 1 by omega] at this
      omega
    have h4 : ∀ c, n ≤ stt k s l j c := fun c => by
      have e0 : pl k s l j 0 = ed k s l (j - 1) + s j := by rw [pl_zero, fp, if_neg (by omega)]
      cases c with
      | zero =>
        unfold stt lab
        rw [if_pos rfl]
        omega
      | succ c =>
        have h5 := pl_step hk hs hl h0 j c
        have h6 := pl_mono hk hs hl h0 j (Nat.zero_le c)
        have h7 := hs j
        unfold stt
        omega
    have e3 : ∀ m, smN (fun i => (fun c => cl n (stt k s l j c) (lab s l j c)) (0 + i)) m = 0 := fun m => by
      induction m with
      | zero => rfl
      | succ m ih => rw [smN, ih]; show 0 + cl n _ _ = 0; rw [cl_out (h4 _)]; rfl
    exact e3 _
  refine Eq.trans ?_ (e2.symm.trans h1)
  refine smN_congr fun j hj => ?_
  have hvB : v j < k ^ (T + 2 + T - j) := by
    have h2 := (hv j).le hk hs hl h0 n0
    have h3 : (2 : Nat) ^ T ≤ k ^ (T + 2 + T - j) := Nat.le_trans (Nat.pow_le_pow_right (by decide) (by omega)) (Nat.pow_le_pow_left hk _)
    have h4 : ((2 ^ T : Nat) : Int) ≤ ((k ^ (T + 2 + T - j) : Nat) : Int) := Int.ofNat_le.mpr h3
    omega
  rw [← lcv_sum hk hs hl h0 (hv j) hvB]
  unfold sg
  refine smN_congr fun i _ => ?_
  show _ = cl n (stt k s l j (0 + i)) (lab s l j (0 + i))
  rw [Nat.zero_add]
end
end Sm

namespace K09
open PySem L2 Ab Sm
theorem log_w {v : Int} (h0 : 0 ≤ v) (h : v < 2 ^ 12000) : v.natAbs.log2 < 12900 := by
  by_cases z : v.natAbs = 0
  · rw [z]
    decide
  · have e : (2 : Int) ^ 12000 = ((2 ^ 12000 : Nat) : Int) := by rw [Int.natCast_pow]; rfl
    rw [e] at h
    generalize hp : (2 : Nat) ^ 12000 = p at h
    have h2 : v.natAbs < 2 ^ 12000 := by rw [hp]; omega
    exact Nat.lt_trans ((Nat.log2_lt z).mpr h2) (by decide)
theorem sh2 {a b : Int} (ha : a.natAbs.log2 < 12900) (hb : b.natAbs.log2 < 12900) : shW (.lst [.int a, .int b]) ∧ wdW (.lst [.int a, .int b]) ≤ sizeLine ∧ dpV (.lst [.int a, .int b]) ≤ 60 := by
  refine ⟨?_, Ab.sz ?_, ?_⟩
  · simp only [shW, shWs]
    exact ⟨ha, hb, trivial⟩
  · simp [wdW, wdWs]
  · simp [dpV, dpVs]
section
variable {P : Program} {w : World} {K : PySem.W.Frag} {mg : Str → Option Value} {base : Heap} {k : Nat} {f C CN : Addr}
/-! ### _law_branch -/
def trV (t : Int × Int × Int) : Val := .tup [.int t.1, .int t.2.1, .int t.2.2]
def t3 (xs : List (Int × Int × Int)) : Int := (xs.map (·.2.2)).sum
theorem t3_app (xs ys : List (Int × Int × Int)) : t3 (xs ++ ys) = t3 xs + t3 ys := by
  unfold t3
  rw [List.map_append, List.sum_append]
def aBr (h : Nat) : ASp := fun ds M R => ∃ (kn : Nat) (l : Stm) (m : Int), ds = [.int (kn : Int), stV l, .int (h : Int), .int m] ∧ 2 ≤ kn ∧ kn ≤ 9 ∧ l.2 ≠ [] ∧ h ≤ 3 ∧ ∀ xs, xs.length ≤ 10 ^ h → t3 xs = siz kn (item l) h → R (.lst (xs.map trV)) M
theorem b__law_branch (B : Bt mg) {h n : Nat} (en : n = 1 + h) (g__law_item : GItL P w K mg base) (GB : ∀ h', h = h' + 1 → Gd P w K mg base (2 + h') "_law_branch" [] fun ds _ => aBr h' ds) : BodyOk P w K mg base n f n__law_branch "_law_branch" (defScope s__law_branch) (defBody s__law_branch) (aBr h) := by
  subst en
  rintro cdv A outer s0 H E hr ds M R ⟨kn, l, m, rfl, k2, k9, hl, h3, hp⟩
  have hr1 := hr.mono (j := 1) (by omega)
  refine as_cons (as_setv 4 q__law_branch.nd (av_lst (avs_cons (ae_tup (aA.val (avs_cons (v_ 2) (avs_cons (v_ 3) (avs_cons (ae_g g__law_item hr1 (by decide) (aa_cons ((v_ 1).val (aa_cons ((v_ 2).val (aa_nil (ak_nil ⟨rfl, l, (h : Int), rfl, hl, by omega, rfl, rfl⟩))))))) avs_nil))) ⟨szb, rfl, rfl⟩)) avs_nil) szb) ?_)
  rw [Int.toNat_natCast]
  cases h with
  | zero =>
    refine as_cons (as_forW PassesOwn.never rfl (aj_range1 B.range (ae_ifp (tp_cmp (v_ 2) i_ cp_gt) (fun c => absurd c (by simp)) (fun c => i_.val ⟨_, rfl, by omega, by omega, ?_⟩))))
    refine ⟨fun t Γ M' => M' = M ∧ Γ = [none, none, none, none, some (.lst ([((((0 : Nat) : Int)), m, item l 0)].map trV)), none], ⟨_, _, ⟨rfl, rfl⟩, (by repeat' first | exact le_nil | refine le_skip ?_ | refine le_keep rfl ?_), (by repeat' first | exact List.Sublist.refl _ | exact List.sublist_append_right _ _ | apply List.Sublist.cons₂ | apply List.Sublist.cons)⟩, ?_, ?_⟩
    · rintro t Γ M' ht
      exact absurd ht (by simp)
    · rintro Γ M' ⟨rfl, rfl⟩
      exact as_one (as_retv (v_ 4) (.ok (hp [((((0 : Nat) : Int)), m, item l 0)] (Nat.le_refl 1) (by show item l 0 + 0 = siz kn (item l) 0; rw [Int.add_zero]; rfl))))
  | succ h' =>
    refine as_cons (as_forW PassesOwn.never rfl (aj_range1 B.range (ae_ifp (tp_cmp (v_ 2) i_ cp_gt) (fun c => aE.val (v_ 0) ⟨_, rfl, by omega, by omega, ?_⟩) (fun c => absurd (show (0 : Int) < ((h' + 1 : Nat) : Int) by omega) c))))
    rw [Int.toNat_natCast]
    refine ⟨fun t Γ M' => ∃ xs, xs.length ≤ 1 + t * 10 ^ h' ∧ t3 xs = item l (h' + 1) + (t : Int) * siz kn (item l) h' ∧ M' = M ∧ Γ = [some (.int (kn : Int)), some (stV l), some (.int ((h' + 1 : Nat) : Int)), some (.int m), some (.lst (xs.map trV)), none], ⟨_, _, ⟨[(((h' + 1 : Nat) : Int), m, item l (h' + 1))], by simp, ?_, rfl, rfl⟩, (by repeat' first | exact le_nil | refine le_skip ?_ | refine le_keep rfl ?_), (by repeat' first | exact List.Sublist.refl _ | exact List.sublist_append_right _ _ | apply List.Sublist.cons₂ | apply List.Sublist.cons)⟩, ?_, ?_⟩
    · show item l (h' + 1) + 0 = item l (h' + 1) + ((0 : Nat) : Int) * _
      simp
    · rintro t Γ M' ht ⟨xs, hx1, hx2, rfl, rfl⟩
      have p10 : 10 ^ h' ≤ 10 ^ 2 := Nat.pow_le_pow_right (by decide) (by omega)
      have t9 : t * 10 ^ h' ≤ 9 * 10 ^ 2 := Nat.mul_le_mul (by omega) p10
      have hr2 := hr.mono (j := 2 + h') (by omega)
      refine ag_name 5 q__law_branch.nd ?_
      refine as_one (as_set 4 q__law_branch.nd (ae_frz (ae_bin (aE.val (v_ 4) (ae_g (GB h' rfl) hr2 (Nat.le_refl _) (aa_cons ((v_ 0).val (aa_cons ((v_ 1).val (aa_cons (aE.val (av_sub (v_ 2) i_) (aa_cons (aE.val (av_add (av_mulU (v_ 3) (v_ 0) (by first | exact .inl (.inl ⟨by omega, by omega⟩) | exact .inl (.inr ⟨by omega, by omega⟩) | assumption)) (v_ 5)) (aa_nil (ak_nil ⟨rfl, kn, l, m * (kn : Int) + (0 + (t : Int)), ?_, k2, k9, hl, by omega, fun ys hy1 hy2 => bv_catL (.self _) (.self _) (sz (by rw [List.length_map, List.length_map]; omega)) fun p => ⟨p, _, _, rfl, rfl, ?_⟩⟩)))))))))))))))
      · rw [show ((h' + 1 : Nat) : Int) - 1 = (h' : Int) by omega]
      · rw [← List.map_append]
        refine ⟨_, _, ⟨xs ++ ys, ?_, ?_, rfl, rfl⟩, (by repeat' first | exact le_nil | refine le_skip ?_ | refine le_keep rfl ?_), (by repeat' first | exact List.Sublist.refl _ | exact List.sublist_append_right _ _ | apply List.Sublist.cons₂ | apply List.Sublist.cons)⟩
        · rw [List.length_append, Nat.succ_mul]
          omega
        · rw [t3_app, hx2, hy2, show ((t + 1 : Nat) : Int) = (t : Int) + 1 by omega, Int.add_mul, Int.one_mul]
          omega
    · rintro Γ M' ⟨xs, hx1, hx2, rfl, rfl⟩
      refine as_one (as_retv (v_ 4) (.ok (hp _ ?_ ?_)))
      · rw [Nat.pow_succ]
        have : kn * 10 ^ h' ≤ 9 * 10 ^ h' := Nat.mul_le_mul_right _ k9
        have : 1 ≤ 10 ^ h' := Nat.one_le_pow _ _ (by decide)
        omega
      · rw [hx2, siz]
/-! ### _law_sizes, _law_ends -/
def aLsz : ASp := fun ds M R => ∃ (kn : Nat) (l : Stm) (h : Nat), ds = [.int (kn : Int), stV l, .int (h : Int)] ∧ 2 ≤ kn ∧ kn ≤ 9 ∧ l.2 ≠ [] ∧ h ≤ 8000 ∧ R (.lst ((upL (siz kn (item l)) h).map .int)) M
theorem b__law_sizes (B : Bt mg) (g__law_item : GItL P w K mg base) : BodyOk P w K mg base 1 f n__law_sizes "_law_sizes" (defScope s__law_sizes) (defBody s__law_sizes) aLsz := by
  rintro cdv A outer s0 H E hr ds M R ⟨kn, l, h, rfl, k2, k9, hl, h8, hp⟩
  refine as_cons (as_set 3 q__law_sizes.nd (ae_lstC (aa_cons (aE.val (ae_g g__law_item hr (by decide) (aa_cons (aE.val (v_ 1) (aa_cons (aE.val i_ (aa_nil (ak_nil ⟨rfl, _, _, rfl, (by assumption), (by omega), rfl, rfl⟩))))))) (aa_nil ⟨szb, fun q => ?_⟩)))))
  refine as_cons (as_forW PassesOwn.never rfl (aj_range2 B.range (aA.val (avs_cons i_ (avs_cons (av_add (v_ 2) i_) avs_nil)) ⟨_, _, rfl, ⟨by omega, by omega, by omega, by omega⟩, ?_⟩)))
  refine ⟨fun t Γ M' => M' = (q, .lst ((upL (siz kn (item l)) t).map .int)) :: M ∧ Γ = [some (.int (kn : Int)), some (stV l), some (.int (h : Int)), some (.ptr q), none], ⟨_, _, ⟨rfl, rfl⟩, (by repeat' first | exact le_nil | refine le_skip ?_ | refine le_keep rfl ?_), (by repeat' first | exact List.Sublist.refl _ | exact List.sublist_append_right _ _ | apply List.Sublist.cons₂ | apply List.Sublist.cons)⟩, ?_, ?_⟩
  · rintro t Γ M' ht ⟨rfl, rfl⟩
    have hul := up_len (g := siz kn (item l)) (n := t)
    refine ag_name 4 q__law_sizes.nd ?_
    refine as_one (as_expr (ae_append (n0 := 0) (v_ 3) rfl (aE.val (av_add (ae_g g__law_item hr (by decide) (aa_cons (aE.val (v_ 1) (aa_cons (aE.val (v_ 4) (aa_nil (ak_nil ⟨rfl, _, _, rfl, (by assumption), (by omega), rfl, rfl⟩))))))) (av_mulU (v_ 0) (av_ix (v_ 3) (av_sub (v_ 4) i_) (by first | exact .iT (by omega) (by omega) | exact .iL (by omega) (by omega) | exact .ci 0 rfl (by omega) (by omega) | exact .ci 1 rfl (by omega) (by omega) | exact .t rfl | exact .l rfl | exact .c 0 rfl rfl | exact .c 1 rfl rfl | assumption | exact .ci _ (by assumption) (by omega) (by omega))) (by first | exact .inl (.inl ⟨by omega, by omega⟩) | exact .inl (.inr ⟨by omega, by omega⟩) | assumption))) ⟨0, _, rfl, (szl (by rw [List.length_map, hul]; omega)), ?_⟩)))
    have e2 : item l (1 + (t : Int)).toNat + (kn : Int) * at0 (upL (siz kn (item l)) t) (1 + (t : Int) - 1) = siz kn (item l) (t + 1) := by
      rw [up_at (by omega) (by omega), show (1 + (t : Int)).toNat = t + 1 by omega, show (1 + (t : Int) - 1).toNat = t by omega, siz]
    rw [e2, up_succ]
    exact ⟨_, _, ⟨rfl, rfl⟩, (by repeat' first | exact le_nil | refine le_skip ?_ | refine le_keep rfl ?_), (by repeat' first | exact List.Sublist.refl _ | exact List.sublist_append_right _ _ | apply List.Sublist.cons₂ | apply List.Sublist.cons)⟩
  · rintro Γ M' ⟨rfl, rfl⟩
    rw [show ((h : Int) + 1 - 1).toNat = h by omega]
    exact as_one (as_ret ((v_ 3).val (.frz (.ok hp))))
abbrev GLsz (P : Program) (w : World) (K : PySem.W.Frag) (mg : Str → Option Value) (base : Heap) : Prop := Gd P w K mg base 2 "_law_sizes" [] fun ds _ => aLsz ds
def aLen : ASp := fun ds M R => ∃ (kn : Nat) (s l : Stm) (h : Nat), ds = [.int (kn : Int), stV s, .lst ((upL (siz kn (item l)) h).map .int)] ∧ 2 ≤ kn ∧ kn ≤ 9 ∧ s.2 ≠ [] ∧ h ≤ 8000 ∧ R (.lst ((upL (ed kn (item s) (item l)) (h + 1)).map .int)) M
theorem b__law_ends (B : Bt mg) (g__law_item : GItL P w K mg base) : BodyOk P w K mg base 1 f n__law_ends "_law_ends" (defScope s__law_ends) (defBody s__law_ends) aLen := by
  rintro cdv A outer s0 H E hr ds M R ⟨kn, s, l, h, rfl, k2, k9, hs, h8, hp⟩
  have hsl := up_len (g := siz kn (item l)) (n := h)
  refine as_cons (as_set 3 q__law_ends.nd (ae_lstC (aa_cons (aE.val (ae_g g__law_item hr (by decide) (aa_cons (aE.val (v_ 1) (aa_cons (aE.val i_ (aa_nil (ak_nil ⟨rfl, _, _, rfl, (by assumption), (by omega), rfl, rfl⟩))))))) (aa_nil ⟨szb, fun q => ?_⟩)))))
  refine as_cons (as_forW PassesOwn.never rfl (aj_ai (R := fun M1 => M1 = (q, .lst ((upL (ed kn (item s) (item l)) 0).map .int)) :: M) (ai_enumL B.enumerate (aE.val (v_ 2) ⟨rfl, rfl⟩)) fun M1 e => ?_))
  subst e
  rw [List.length_map, hsl]
  refine ⟨fun t Γ M' => M' = (q, .lst ((upL (ed kn (item s) (item l)) t).map .int)) :: M ∧ Γ = [some (.int (kn : Int)), some (stV s), none, some (.ptr q), none, none], ⟨_, _, ⟨rfl, rfl⟩, (by repeat' first | exact le_nil | refine le_skip ?_ | refine le_keep rfl ?_), (by repeat' first | exact List.Sublist.refl _ | exact List.sublist_append_right _ _ | apply List.Sublist.cons₂ | apply List.Sublist.cons)⟩, ?_, ?_⟩
  · rintro t Γ M' ht ⟨rfl, rfl⟩
    have hul := up_len (g := ed kn (item s) (item l)) (n := t)
    show aG _ _ (Val.tup [Val.int (t : Int), ((upL (siz kn (item l)) h).map Val.int).getD t .non]) _ _ _
    rw [getD_int (by rw [hsl]; exact ht), show (upL (siz kn (item l)) h)[t]'(by rw [hsl]; exact ht) = siz kn (item l) t by simp [upL]]
    refine ag_tup rfl (ags_cons (ag_name 4 q__law_ends.nd (ags_cons (ag_name 5 q__law_ends.nd (ags_nil ?_)))))
    refine as_one (as_expr (ae_append (n0 := 0) (v_ 3) rfl (aE.val (av_add (av_add (av_ix (v_ 3) (v_ 4) (by first | exact .iT (by omega) (by omega) | exact .iL (by omega) (by omega) | exact .ci 0 rfl (by omega) (by omega) | exact .ci 1 rfl (by omega) (by omega) | exact .t rfl | exact .l rfl | exact .c 0 rfl rfl | exact .c 1 rfl rfl | assumption | exact .ci _ (by assumption) (by omega) (by omega))) (ae_g g__law_item hr (by decide) (aa_cons (aE.val (v_ 1) (aa_cons (aE.val (av_add (v_ 4) i_) (aa_nil (ak_nil ⟨rfl, _, _, rfl, (by assumption), (by omega), rfl, rfl⟩)))))))) (av_mulU (av_sub (v_ 0) i_) (v_ 5) (by first | exact .inl (.inl ⟨by omega, by omega⟩) | exact .inl (.inr ⟨by omega, by omega⟩) | assumption))) ⟨0, _, rfl, (szl (by rw [List.length_map, hul]; omega)), ?_⟩)))
    have e2 : at0 (upL (ed kn (item s) (item l)) t) (t : Int) + item s ((t : Int) + 1).toNat + ((kn : Int) - 1) * siz kn (item l) t = ed kn (item s) (item l) (t + 1) := by
      rw [up_at (by omega) (by omega), show ((t : Int) + 1).toNat = t + 1 by omega, Int.toNat_natCast, ed]
    rw [e2, up_succ]
    exact ⟨_, _, ⟨rfl, rfl⟩, (by repeat' first | exact le_nil | refine le_skip ?_ | refine le_keep rfl ?_), (by repeat' first | exact List.Sublist.refl _ | exact List.sublist_append_right _ _ | apply List.Sublist.cons₂ | apply List.Sublist.cons)⟩
  · rintro Γ M' ⟨rfl, rfl⟩
    exact as_one (as_ret ((v_ 3).val (.frz (.ok hp))))
abbrev GLen (P : Program) (w : World) (K : PySem.W.Frag) (mg : Str → Option Value) (base : Heap) : Prop := Gd P w K mg base 2 "_law_ends" [] fun ds _ => aLen ds
/-! ### _law_far_right -/
abbrev GBszK (P : Program) (w : World) (K : PySem.W.Frag) (mg : Str → Option Value) (base : Heap) (C : Addr) : Prop := Gd P w K mg base 5 "branch_size" ["height", "schedule"] fun ds es M R => ds.length = 0 ∧ aBsz C (ds ++ swp es) M R
abbrev GSteK (P : Program) (w : World) (K : PySem.W.Frag) (mg : Str → Option Value) (base : Heap) (C : Addr) : Prop := Gd P w K mg base 5 "stage_end" ["stage", "schedule"] fun ds es M R => ds.length = 0 ∧ aSte C (ds ++ swp es) M R
theorem szS_log {S : Sc} (hS : GoodS S) {h : Nat} (hh : h ≤ 3000) : (szS S h).natAbs.log2 < 12900 := by
  have h1 := szS_small hS hh
  have h2 := szS_pos hS h
  have h3 : (2 : Int) ^ 10000 ≤ 2 ^ 12000 := by decide +kernel
  exact log_w (by omega) (Int.lt_of_lt_of_le h1 h3)
theorem edS_log {S : Sc} (hS : Bs 3 S) {h : Nat} (hh : h ≤ 3000) : (edS S h).natAbs.log2 < 12900 := by
  have g := hS.g
  have h1 := ed_top g.k2 g.k9 g.l0 g.lp hS.b2 hS.b1 h
  have h2 := ed_nn g.k2 g.s0 g.l0 g.lp h
  have h3 : 8 * ((9 ^ 3000 : Nat) : Int) < 2 ^ 12000 := by decide +kernel
  have h4 : (9 : Nat) ^ h ≤ 9 ^ 3000 := Nat.pow_le_pow_right (by decide) hh
  refine log_w h2 (Int.lt_trans (b := 8 * ((9 ^ 3000 : Nat) : Int)) ?_ h3)
  clear h3
  show ed S.a.toNat (item S.sp) (item S.lv) h < _
  generalize (9 : Nat) ^ 3000 = p at *
  generalize (9 : Nat) ^ h = r at *
  omega
def aFar (C : Addr) : ASp := fun ds M R => ∃ (S : Sc) (n h : Nat), ds = [scV C S, .lst ((upL (szS S) n).map .int), .lst ((upL (edS S) (n + 1)).map .int), .int (h : Int)] ∧ Bs 3 S ∧ h ≤ n ∧ n ≤ 3000 ∧ R (.bl true) M
theorem b__law_far_right (D : DigK K) (mr : mg "repr" = none) (g_branch_size : GBsz P w K mg base C) (GBK : GBszK P w K mg base C) (g_stage_end : GSte P w K mg base C) (GSK : GSteK P w K mg base C) : BodyOk P w K mg base 5 f n__law_far_right "_law_far_right" (defScope s__law_far_right) (defBody s__law_far_right) (aFar C) := by
  rintro cdv A outer s0 H E hr ds M R ⟨S, n, h, rfl, hB, hn, h30, hp⟩
  have hS := hB.g
  have h1 := up_len (g := szS S) (n := n)
  have h2 := up_len (g := edS S) (n := n + 1)
  have hh : h ≤ 3000 := by omega
  have e1 : at0 (upL (szS S) n) (h : Int) = szS S h := by rw [up_at (by omega) (by omega), Int.toNat_natCast]
  have e2 : at0 (upL (edS S) (n + 1)) (h : Int) = edS S h := by rw [up_at (by omega) (by omega), Int.toNat_natCast]
  have z1 := sh2 (szS_log hS hh) (szS_log hS hh)
  have z2 := sh2 (edS_log hB hh) (edS_log hB hh)
  refine as_cons (as_setv 4 q__law_far_right.nd (av_lst (avs_cons (ae_g g_branch_size hr (by decide) (aa_cons (aE.val (v_ 0) (aa_cons (aE.val (v_ 3) (aa_nil (ak_nil ⟨rfl, _, _, rfl, (by assumption), (by omega), rfl, rfl⟩))))))) (avs_cons (ae_g0 GBK hr (by decide) (ak_cons ((v_ 3).val (ak_cons ((v_ 0).val (ak_nil ⟨rfl, rfl, S, h, rfl, hS, hh, rfl, rfl⟩)))))) avs_nil)) szb) ?_)
  refine as_cons (as_if (at_cmp (av_reprW (v := .lst [.int (szS S h), .int (szS S h)]) D hr mr (v_ 4) trivial z1.1 z1.2.1 z1.2.2) (av_reprW (v := .lst [.int (szS S h), .int (szS S h)]) D hr mr (av_repL (ds := [.int (szS S h)]) (by rw [← e1]; exact avs_cons (av_ix (v_ 1) (v_ 3) (by first | exact .iT (by omega) (by omega) | exact .iL (by omega) (by omega) | exact .ci 0 rfl (by omega) (by omega) | exact .ci 1 rfl (by omega) (by omega) | exact .t rfl | exact .l rfl | exact .c 0 rfl rfl | exact .c 1 rfl rfl | assumption | exact .ci _ (by assumption) (by omega) (by omega))) avs_nil) szb (fun _ => i_) (by decide) (by decide) szb) trivial z1.1 z1.2.1 z1.2.2) (cmp_neS.eq (b' := false) (by simp)) ⟨nft, fun _ => as_nil ?_⟩))
  refine as_cons (as_setv 4 q__law_far_right.nd (av_lst (avs_cons (ae_g g_stage_end hr (by decide) (aa_cons (aE.val (v_ 0) (aa_cons (aE.val (v_ 3) (aa_nil (ak_nil ⟨rfl, _, _, rfl, (by assumption), (by omega), rfl, rfl⟩))))))) (avs_cons (ae_g0 GSK hr (by decide) (ak_cons ((v_ 3).val (ak_cons ((v_ 0).val (ak_nil ⟨rfl, rfl, S, h, rfl, hS, hh, rfl, rfl⟩)))))) avs_nil)) szb) ?_)
  exact as_one (as_ret (ae_cmp (av_reprW (v := .lst [.int (edS S h), .int (edS S h)]) D hr mr (v_ 4) trivial z2.1 z2.2.1 z2.2.2) (av_reprW (v := .lst [.int (edS S h), .int (edS S h)]) D hr mr (av_repL (ds := [.int (edS S h)]) (by rw [← e2]; exact avs_cons (av_ix (v_ 2) (v_ 3) (by first | exact .iT (by omega) (by omega) | exact .iL (by omega) (by omega) | exact .ci 0 rfl (by omega) (by omega) | exact .ci 1 rfl (by omega) (by omega) | exact .t rfl | exact .l rfl | exact .c 0 rfl rfl | exact .c 1 rfl rfl | assumption | exact .ci _ (by assumption) (by omega) (by omega))) avs_nil) szb (fun _ => i_) (by decide) (by decide) szb) trivial z2.1 z2.2.1 z2.2.2) (cmp_eqS.eq (b' := true) (by simp)) (.ok hp)))
abbrev GFar (P : Program) (w : World) (K : PySem.W.Frag) (mg : Str → Option Value) (base : Heap) (C : Addr) : Prop := Gd P w K mg base 6 "_law_far_right" [] fun ds _ => aFar C ds
end
end K09

namespace K09
open PySem L2 Ab Sm
section
variable {P : Program} {w : World} {K : PySem.W.Frag} {mg : Str → Option Value} {base : Heap} {k : Nat} {f C CN : Addr}
/-! ### _law_low_right -/
def aLow (C : Addr) : ASp := fun ds M R => ∃ (kn : Nat) (s l : Stm), ds = [.int (kn : Int), stV l, scV C ⟨(kn : Int), nf s, nf l⟩] ∧ 2 ≤ kn ∧ kn ≤ 9 ∧ Sq3 0 s ∧ Sq3 1 l ∧ R (.bl true) M
theorem szS_mk {kn h : Nat} {s l : Stm} (hl : l.2 ≠ []) : szS ⟨(kn : Int), nf s, nf l⟩ h = siz kn (item l) h := by
  unfold szS
  show siz (kn : Int).toNat (item (nf l)) h = _
  rw [show item (nf l) = item l from funext (nf_spec hl).it, Int.toNat_natCast]
theorem edS_mk {kn h : Nat} {s l : Stm} (hs : s.2 ≠ []) (hl : l.2 ≠ []) : edS ⟨(kn : Int), nf s, nf l⟩ h = ed kn (item s) (item l) h := by
  unfold edS
  show ed (kn : Int).toNat (item (nf s)) (item (nf l)) h = _
  rw [show item (nf l) = item l from funext (nf_spec hl).it, show item (nf s) = item s from funext (nf_spec hs).it, Int.toNat_natCast]
theorem b__law_low_right (B : Bt mg) (g_branch_size : GBsz P w K mg base C) (GB : ∀ h, h ≤ 3 → Gd P w K mg base (2 + h) "_law_branch" [] fun ds _ => aBr h ds) : BodyOk P w K mg base 5 f n__law_low_right "_law_low_right" (defScope s__law_low_right) (defBody s__law_low_right) (aLow C) := by
  rintro cdv A outer s0 H E hr ds M R ⟨kn, s, l, rfl, k2, k9, hs, hl, hp⟩
  have hB := sq3_bs (a := (kn : Int)) (by omega) (by omega) hs hl
  have hS := hB.g
  refine as_cons (as_forW PassesOwn.never rfl (aj_range1 B.range (aE.val (av_ifI (tp_cmp (v_ 0) i_ cp_lt) (fun _ => i_) (fun _ => i_)) ⟨_, rfl, by omega, by omega, ?_⟩)))
  refine ⟨fun t Γ M' => M' = M ∧ Γ = [some (.int (kn : Int)), some (stV l), some (scV C ⟨(kn : Int), nf s, nf l⟩), none, none, none, none], ⟨_, _, ⟨rfl, rfl⟩, (by repeat' first | exact le_nil | refine le_skip ?_ | refine le_keep rfl ?_), (by repeat' first | exact List.Sublist.refl _ | exact List.sublist_append_right _ _ | apply List.Sublist.cons₂ | apply List.Sublist.cons)⟩, ?_, ?_⟩
  · rintro t Γ M' ht ⟨rfl, rfl⟩
    have t3' : t ≤ 3 := by split at ht <;> omega
    refine ag_name 3 q__law_low_right.nd ?_
    show aSs _ _ [some (.int (kn : Int)), some (stV l), some (scV C ⟨(kn : Int), nf s, nf l⟩), some (.int (0 + (t : Int))), none, none, none] _ _
    rw [Int.zero_add]
    have hr2 := hr.mono (j := 2 + t) (by omega)
    refine as_one (as_if (at_cmpM (aE.val (ae_g g_branch_size hr (by decide) (aa_cons (aE.val (v_ 2) (aa_cons (aE.val (v_ 3) (aa_nil (ak_nil ⟨rfl, _, _, rfl, (by assumption), (by omega), rfl, rfl⟩))))))) (ae_sum B.sum rfl (ae_frz (ae_lcJ [("_law_own", 4), ("_law_m", 5), ("_law_many", 6)] rfl q__law_low_right.nd (blkOk_by (N := n__law_low_right) (sc := defScope s__law_low_right) (by decide +kernel)) (aj_lst (ae_g (GB t t3') hr2 (Nat.le_refl _) (aa_cons ((v_ 0).val (aa_cons ((v_ 1).val (aa_cons ((v_ 3).val (aa_cons (i_.val (aa_nil (ak_nil ⟨rfl, kn, l, 1, rfl, k2, k9, hl.sq.ne, t3', fun xs hx1 hx2 => ⟨_, rfl, ?_⟩⟩))))))))))))))))))
    have hx3 : xs.length ≤ 1000 := Nat.le_trans hx1 (Nat.pow_le_pow_right (by decide) t3')
    refine ⟨by rw [List.length_map]; omega, fun i acc M1 => M1 = M' ∧ acc = (xs.take i).map (fun x => Val.int x.2.2), ⟨rfl, rfl⟩, ?_, ?_⟩
    · rintro i acc M1 D hi hal ⟨rfl, rfl⟩ s1 H1 C1 cl fp
      have hi' : i < xs.length := by simpa using hi
      show aGw _ _ _ ((xs.map trV).getD i .non) _ _ _
      rw [show (xs.map trV).getD i .non = trV xs[i] by rw [List.getD_eq_getElem?_getD, List.getElem?_map, List.getElem?_eq_getElem hi']; rfl]
      refine agw_tup rfl (agws_cons (agw_name 4 q__law_low_right.nd (agws_cons (agw_name 5 q__law_low_right.nd (agws_cons (agw_name 6 q__law_low_right.nd (agws_nil ?_)))))))
      intro s1 H1 C1 cl fp
      refine ats_nil ⟨fun _ s1 H1 C1 cl fp => ?_, ntf⟩
      refine aE.val (v_ 6) ⟨_, rfl, rfl, ?_⟩
      rw [List.take_succ, List.getElem?_eq_getElem hi', List.map_append]
      rfl
    · rintro q acc M1 ⟨rfl, rfl⟩
      refine ⟨q, _, _, rfl, rfl, xs.map (·.2.2), ?_, ?_⟩
      · rw [List.length_map, List.take_length, List.map_map]
        exact .self _
      · refine ⟨false, cmp_neI.eq ?_, nft, fun _ => as_nil ⟨_, _, ⟨rfl, rfl⟩, (by repeat' first | exact le_nil | refine le_skip ?_ | refine le_keep rfl ?_), (by repeat' first | exact List.Sublist.refl _ | exact List.sublist_append_right _ _ | apply List.Sublist.cons₂ | apply List.Sublist.cons)⟩⟩
        show (!decide (szS ⟨(kn : Int), nf s, nf l⟩ t = t3 xs)) = false
        rw [hx2, szS_mk hl.sq.ne]
        simp
  · rintro Γ M' ⟨rfl, rfl⟩
    exact as_one (as_ret (ae_bl (.ok hp)))
abbrev GLowR (P : Program) (w : World) (K : PySem.W.Frag) (mg : Str → Option Value) (base : Heap) (C : Addr) : Prop := Gd P w K mg base 6 "_law_low_right" [] fun ds _ => aLow C ds
/-! ### _law_sum_right -/
def aSumR (C : Addr) : ASp := fun ds M R => ∃ (S T : Sc) (m : Int) (h : Nat), ds = [scV C S, scV C T, .int m, .int (h : Int)] ∧ Bs 3 S ∧ Bs 3 T ∧ S.a = T.a ∧ 1 ≤ m ∧ m ≤ 100 ∧ h ≤ 3000 ∧ R (.bl true) M
theorem b__law_sum_right (T0 : Rs K mg C) (g_branch_size : GBsz P w K mg base C) (g_stage_end : GSte P w K mg base C) (GT : GWd P w K mg base C "total" .sum) (XT : Mt P w K mg base C 7 "times" (aTim C)) : BodyOk P w K mg base 8 f n__law_sum_right "_law_sum_right" (defScope s__law_sum_right) (defBody s__law_sum_right) (aSumR C) := by
  rintro cdv A outer s0 H E hr ds M R ⟨S, T, m, h, rfl, bS, bT, ha, m1, m9, h30, hp⟩
  have gS := bS.g
  have gT := bT.g
  refine as_cons (as_par 4 5 q__law_sum_right.nd rfl (by decide) (aa_cons (ae_g GT hr (by decide) (aa_cons ((v_ 0).val (aa_cons ((v_ 1).val (aa_nil (ak_nil ⟨rfl, szb, [S, T], rfl, cb2 bS bT ha (by decide), fun U gU aU u1 u2 => aa_cons (ae_m1 T0.cl XT hr (by decide) (aE.val (v_ 0) ⟨(Ob.im _).obM rfl, (v_ 2).val ⟨S, m, rfl, gS, m1, by omega, tim_ok bS m1 (by omega), fun V gV aV v1 v2 => aa_nil ⟨_, _, rfl, ?_⟩⟩⟩))⟩)))))))))
  have aU1 : U.a = S.a := aU S (by simp)
  have e1 : ∀ i, item U.sp i = item S.sp i + item T.sp i := fun i => by rw [u1]; show item S.sp i + (item T.sp i + 0) = _; omega
  have e2 : ∀ i, item U.lv i = item S.lv i + item T.lv i := fun i => by rw [u2]; show item S.lv i + (item T.lv i + 0) = _; omega
  have z1 : szS U h = szS S h + szS T h := by
    unfold szS
    rw [aU1, ← ha]
    exact sz_add e2 h
  have z2 : edS U h = edS S h + edS T h := by
    unfold edS
    rw [aU1, ← ha]
    exact ed_add e1 e2 h
  have z3 : szS V h = m * szS S h := by
    unfold szS
    rw [aV]
    exact sz_mul v2 h
  have z4 : edS V h = m * edS S h := by
    unfold edS
    rw [aV]
    exact ed_mul v1 v2 h
  refine as_cons (as_ifp (tp_cmp (ae_g g_branch_size hr (by decide) (aa_cons (aE.val (v_ 4) (aa_cons (aE.val (v_ 3) (aa_nil (ak_nil ⟨rfl, _, _, rfl, (by assumption), (by omega), rfl, rfl⟩))))))) (av_add (ae_g g_branch_size hr (by decide) (aa_cons (aE.val (v_ 0) (aa_cons (aE.val (v_ 3) (aa_nil (ak_nil ⟨rfl, _, _, rfl, (by assumption), (by omega), rfl, rfl⟩))))))) (ae_g g_branch_size hr (by decide) (aa_cons (aE.val (v_ 1) (aa_cons (aE.val (v_ 3) (aa_nil (ak_nil ⟨rfl, _, _, rfl, (by assumption), (by omega), rfl, rfl⟩)))))))) cp_ne) (fun c => absurd z1 c) (fun _ => as_nil ?_))
  refine as_cons (as_ifp (tp_cmp (ae_g g_stage_end hr (by decide) (aa_cons (aE.val (v_ 4) (aa_cons (aE.val (v_ 3) (aa_nil (ak_nil ⟨rfl, _, _, rfl, (by assumption), (by omega), rfl, rfl⟩))))))) (av_add (ae_g g_stage_end hr (by decide) (aa_cons (aE.val (v_ 0) (aa_cons (aE.val (v_ 3) (aa_nil (ak_nil ⟨rfl, _, _, rfl, (by assumption), (by omega), rfl, rfl⟩))))))) (ae_g g_stage_end hr (by decide) (aa_cons (aE.val (v_ 1) (aa_cons (aE.val (v_ 3) (aa_nil (ak_nil ⟨rfl, _, _, rfl, (by assumption), (by omega), rfl, rfl⟩)))))))) cp_ne) (fun c => absurd z2 c) (fun _ => as_nil ?_))
  refine as_cons (as_ifp (tp_cmp (ae_g g_branch_size hr (by decide) (aa_cons (aE.val (v_ 5) (aa_cons (aE.val (v_ 3) (aa_nil (ak_nil ⟨rfl, _, _, rfl, (by assumption), (by omega), rfl, rfl⟩))))))) (av_mulU (v_ 2) (ae_g g_branch_size hr (by decide) (aa_cons (aE.val (v_ 0) (aa_cons (aE.val (v_ 3) (aa_nil (ak_nil ⟨rfl, _, _, rfl, (by assumption), (by omega), rfl, rfl⟩))))))) (by first | exact .inl (.inl ⟨by omega, by omega⟩) | exact .inl (.inr ⟨by omega, by omega⟩) | assumption)) cp_ne) (fun c => absurd z3 c) (fun _ => as_nil ?_))
  refine as_one (as_retv (VP.tt (vp_cmp (ae_g g_stage_end hr (by decide) (aa_cons (aE.val (v_ 5) (aa_cons (aE.val (v_ 3) (aa_nil (ak_nil ⟨rfl, _, _, rfl, (by assumption), (by omega), rfl, rfl⟩))))))) (av_mulU (v_ 2) (ae_g g_stage_end hr (by decide) (aa_cons (aE.val (v_ 0) (aa_cons (aE.val (v_ 3) (aa_nil (ak_nil ⟨rfl, _, _, rfl, (by assumption), (by omega), rfl, rfl⟩))))))) (by first | exact .inl (.inl ⟨by omega, by omega⟩) | exact .inl (.inr ⟨by omega, by omega⟩) | assumption)) cp_eq) z4) (.ok hp))
abbrev GSumR (P : Program) (w : World) (K : PySem.W.Frag) (mg : Str → Option Value) (base : Heap) (C : Addr) : Prop := Gd P w K mg base 9 "_law_sum_right" [] fun ds _ => aSumR C ds
end
end K09

namespace K09
open PySem L2 Ab Sm
section
variable {P : Program} {w : World} {K : PySem.W.Frag} {mg : Str → Option Value} {base : Heap} {k : Nat} {f C CN : Addr}
def aLaw0 : ASp := fun ds M R => ∃ ns : List Int, ds = [.lst (ns.map .int)] ∧ ns.length ≤ 63 ∧ R (.bl true) M
theorem b_law (B : Bt mg) (N : NdC K mg CN) (T : Rs K mg C) (I : Mks P w K mg base C) (g__law_streams : GSt3 P w K mg base) (g__law_next : GNx3 P w K mg base) (g__law_row : GRow3 P w K mg base) (GP : GPlan P w K mg base C) (GZ : GLsz P w K mg base) (GE : GLen P w K mg base) (g__law_far_right : GFar P w K mg base C) (GL : GLowR P w K mg base C) (GS : GSumR P w K mg base C) : BodyOk P w K mg base 9 f n_law "law" (defScope s_law) (defBody s_law) aLaw0 := by
  rintro cdv A outer s0 H E hr ds M R ⟨ns, rfl, hl, hp⟩
  refine as_cons (as_ifp (tp_cmp (av_mh N) i_ cp_ne) (fun c => absurd rfl c) (fun _ => as_nil ?_))
  refine as_cons (as_forW PassesOwn.never rfl (aj_lst (ae_g g__law_streams hr (by decide) (aa_cons ((v_ 0).val (aa_nil (ak_nil ⟨rfl, ns, rfl, hl, fun ps pne pl6 => ⟨_, rfl, ?_⟩⟩)))))))
  rw [List.length_map]
  refine ⟨fun j Γ M0 => ∃ q : List (Addr × Nat), (∀ p ∈ ps, ∃ N, (p, N) ∈ q) ∧ (∀ x ∈ q, x.2 ≤ 600 + 100 * j) ∧ M0 = qM q M ∧ Γ = [some (.lst (ns.map .int)), none, none, none, none, none, none, none, none, none, none], ⟨_, _, ⟨ps.map fun p => (p, 600), fun p hp => ⟨600, List.mem_map.mpr ⟨p, hp, rfl⟩⟩, fun x hx => ?_, rfl, rfl⟩, (by repeat' first | exact le_nil | refine le_skip ?_ | refine le_keep rfl ?_), (by repeat' first | exact List.Sublist.refl _ | exact List.sublist_append_right _ _ | apply List.Sublist.cons₂ | apply List.Sublist.cons)⟩, ?_, ?_⟩
  · obtain ⟨p, _, rfl⟩ := List.mem_map.mp hx
    exact Nat.le_refl _
  · rintro j Γ M0 hj ⟨q, hq1, hq2, rfl, rfl⟩
    show aG _ _ ((ps.map Val.ptr).getD j .non) _ _ _
    rw [show (ps.map Val.ptr).getD j .non = .ptr ps[j] by rw [List.getD_eq_getElem?_getD, List.getElem?_map, List.getElem?_eq_getElem hj]; rfl]
    obtain ⟨n0, hN⟩ := hq1 ps[j] (List.getElem_mem _)
    generalize hpp : ps[j] = p at *
    obtain ⟨i, hi⟩ := List.mem_iff_getElem?.mp hN
    have hN6 : n0 ≤ 1200 := by have := hq2 _ hN; omega
    have fin : ∀ (N' : Nat) (M1 : Mem), N' ≤ n0 + 100 → M1 = (p, st3 p N') :: qM (q.eraseIdx i) M → Wk (fun Γ M1 => ∃ q : List (Addr × Nat), (∀ p ∈ ps, ∃ N, (p, N) ∈ q) ∧ (∀ x ∈ q, x.2 ≤ 600 + 100 * (j + 1)) ∧ M1 = qM q M ∧ Γ = [some (.lst (ns.map .int)), none, none, none, none, none, none, none, none, none, none]) [some (.lst (ns.map .int)), none, none, none, none, none, none, none, none, none, none] M1 := by
      rintro N' _ hN' rfl
      refine ⟨_, _, ⟨(p, N') :: q.eraseIdx i, fun p' hp' => ?_, fun x hx => ?_, rfl, rfl⟩, (by repeat' first | exact le_nil | refine le_skip ?_ | refine le_keep rfl ?_), (by repeat' first | exact List.Sublist.refl _ | exact List.sublist_append_right _ _ | apply List.Sublist.cons₂ | apply List.Sublist.cons)⟩
      · obtain ⟨N', h'⟩ := hq1 p' hp'
        rcases List.mem_cons.mp ((perm_at hi).subset h') with e | e
        · cases e
          exact ⟨_, List.mem_cons_self⟩
        · exact ⟨N', List.mem_cons_of_mem _ e⟩
      · rcases List.mem_cons.mp hx with e | e
        · rw [e]
          have := hq2 _ hN
          show N' ≤ _
          have : n0 ≤ 600 + 100 * j := this
          omega
        · have := hq2 x (List.mem_of_mem_eraseIdx e)
          omega
    refine ag_name 1 q_law.nd ?_
    refine as_perm (q_front hi) ?_
    generalize hQ : qM (q.eraseIdx i) M = Q at *
    refine as_cons (as_asg (ae_g GP hr (by decide) (aa_cons ((v_ 1).val (aa_cons (i_.val (aa_nil (ak_nil ⟨rfl, p, 0, n0, 9, rfl, rfl, by omega, by decide, by decide, fun a s l a2 a9 hs hl => ag_tup rfl (ags_cons (ag_name 2 q_law.nd (ags_cons (ag_name 3 q_law.nd (ags_cons (ag_name 4 q_law.nd (ags_cons (ag_name 5 q_law.nd (ags_nil ?_)))))))))⟩))))))))
    obtain ⟨kn, rfl, k2, k9⟩ : ∃ kn : Nat, a = (kn : Int) ∧ 2 ≤ kn ∧ kn ≤ 9 := ⟨a.toNat, by rw [Int.toNat_of_nonneg (by omega)], by omega, by omega⟩
    have bS := sq3_bs (a := (kn : Int)) (by omega) (by omega) hs hl
    refine as_cons (as_set 6 q_law.nd (ae_ixV (ae_lst (aa_cons (ae_g g__law_next hr (by decide) (aa_cons (aE.val (v_ 1) (aa_cons (aE.val i_ (aa_nil (ak_nil ⟨rfl, p, 0, _, _, rfl, rfl, (by omega), (by omega), (by omega), fun x x0 x1 => (aa_cons (ae_g g__law_next hr (by decide) (aa_cons (aE.val (v_ 1) (aa_cons (aE.val i_ (aa_nil (ak_nil ⟨rfl, p, 0, _, _, rfl, rfl, (by omega), (by omega), (by omega), fun y y0 y1 => (aa_cons (ae_bin (aE.val i_ (ae_g g__law_next hr (by decide) (aa_cons (aE.val (v_ 1) (aa_cons (aE.val i_ (aa_nil (ak_nil ⟨rfl, p, 0, _, _, rfl, rfl, (by omega), (by omega), (by omega), fun z z0 z1 => (bv_sub (aa_nil ⟨szb, (ae_g g__law_next hr (by decide) (aa_cons (aE.val (v_ 1) (aa_cons (aE.val i_ (aa_nil (ak_nil ⟨rfl, p, 0, _, _, rfl, rfl, (by omega), (by omega), (by omega), fun u u0 u1 => ⟨_, _, rfl, .iL (xs := [x, y, 3000 - z]) u0 (by show u < 3; exact u1), ?_⟩⟩)))))))⟩))⟩))))))))))⟩))))))))⟩)))))))))))
    obtain ⟨h, hh, h30⟩ : ∃ h : Nat, at0 [x, y, 3000 - z] u = (h : Int) ∧ h ≤ 3000 := by
      rcases (show u = 0 ∨ u = 1 ∨ u = 2 by omega) with rfl | rfl | rfl
      · exact ⟨x.toNat, by show x = _; omega, by omega⟩
      · exact ⟨y.toNat, by show y = _; omega, by omega⟩
      · exact ⟨(3000 - z).toNat, by show 3000 - z = _; omega, by omega⟩
    rw [hh]
    clear hh
    show aSs _ _ [some (.lst (ns.map .int)), some (.ptr p), some (.int (kn : Int)), some (stV s), some (stV l), some (scV C ⟨(kn : Int), nf s, nf l⟩), some (.int (h : Int)), none, none, none, none] ((p, st3 p (n0 + 23)) :: Q) _
    refine as_cons (as_set 7 q_law.nd (ae_g GZ hr (by decide) (aa_cons ((v_ 2).val (aa_cons ((v_ 4).val (aa_cons ((v_ 6).val (aa_nil (ak_nil ⟨rfl, kn, l, h, rfl, k2, k9, hl.sq.ne, by omega, ?_⟩))))))))))
    refine as_cons (as_set 8 q_law.nd (ae_g GE hr (by decide) (aa_cons ((v_ 2).val (aa_cons ((v_ 3).val (aa_cons ((v_ 7).val (aa_nil (ak_nil ⟨rfl, kn, s, l, h, rfl, k2, k9, hs.sq.ne, by omega, ?_⟩))))))))))
    rw [← show szS ⟨(kn : Int), nf s, nf l⟩ = siz kn (item l) from funext fun j => szS_mk hl.sq.ne, ← show edS ⟨(kn : Int), nf s, nf l⟩ = ed kn (item s) (item l) from funext fun j => edS_mk hs.sq.ne hl.sq.ne]
    refine as_cons (as_forW PassesOwn.never rfl (aj_tup (aE.val (ae_tup (aA.val (avs_cons i_ (avs_cons i_ (avs_cons (av_fdivU (v_ 6) i_ (by first | exact .inl ⟨by omega, by omega⟩ | assumption)) (avs_cons (v_ 6) avs_nil)))) ⟨szb, rfl, rfl⟩)) ⟨_, rfl, ?_⟩)))
    refine ⟨fun t Γ M0 => M0 = (p, st3 p (n0 + 23)) :: Q ∧ Γ = [some (.lst (ns.map .int)), some (.ptr p), some (.int (kn : Int)), some (stV s), some (stV l), some (scV C ⟨(kn : Int), nf s, nf l⟩), some (.int (h : Int)), some (.lst ((upL (szS ⟨(kn : Int), nf s, nf l⟩) h).map .int)), some (.lst ((upL (edS ⟨(kn : Int), nf s, nf l⟩) (h + 1)).map .int)), none, none], ⟨_, _, ⟨rfl, rfl⟩, (by repeat' first | exact le_nil | refine le_skip ?_ | refine le_keep rfl ?_), (by repeat' first | exact List.Sublist.refl _ | exact List.sublist_append_right _ _ | apply List.Sublist.cons₂ | apply List.Sublist.cons)⟩, ?_, ?_⟩
    · rintro t Γ M0 ht ⟨rfl, rfl⟩
      obtain ⟨x, ex⟩ : ∃ x : Nat, ([Val.int 0, .int 1, .int ((h : Int) / 2), .int (h : Int)] : List Val).getD t .non = .int (x : Int) := by
        have ht4 : t < 4 := ht
        rcases (show t = 0 ∨ t = 1 ∨ t = 2 ∨ t = 3 by omega) with rfl | rfl | rfl | rfl
        · exact ⟨0, rfl⟩
        · exact ⟨1, rfl⟩
        · exact ⟨h / 2, by show Val.int ((h : Int) / 2) = _; rw [show (h : Int) / 2 = ((h / 2 : Nat) : Int) by omega]⟩
        · exact ⟨h, rfl⟩
      show aG _ _ (([Val.int 0, .int 1, .int ((h : Int) / 2), .int (h : Int)] : List Val).getD t .non) _ _ _
      rw [ex]
      refine ag_name 9 q_law.nd ?_
      refine as_one (as_ifp (tp_w (wp_and (tp_cmp (v_ 9) (v_ 6) cp_le) fun _ => (wp_and1 (tp_not (tp_val (ae_g g__law_far_right hr (by decide) (aa_cons (aE.val (v_ 5) (aa_cons (aE.val (v_ 7) (aa_cons (aE.val (v_ 8) (aa_cons (aE.val (v_ 9) (aa_nil (ak_nil ⟨rfl, _, _, _, rfl, (by assumption), (by omega), (by omega), rfl, rfl⟩)))))))))))))))) (fun c => absurd rfl c.2) (fun _ => as_nil ⟨_, _, ⟨rfl, rfl⟩, (by repeat' first | exact le_nil | refine le_skip ?_ | refine le_keep rfl ?_), (by repeat' first | exact List.Sublist.refl _ | exact List.sublist_append_right _ _ | apply List.Sublist.cons₂ | apply List.Sublist.cons)⟩))
    rintro Γ M0 ⟨rfl, rfl⟩
    refine as_cons (as_if (at_not (at_val (ae_g GL hr (by decide) (aa_cons ((v_ 2).val (aa_cons ((v_ 4).val (aa_cons ((v_ 5).val (aa_nil (ak_nil ⟨rfl, kn, s, l, rfl, k2, k9, hs, hl, true, rfl, nft, fun _ => as_nil ?_⟩))))))))))))
    refine as_cons (as_set 10 q_law.nd (ae_sch T I hr (by decide) (aE.val (v_ 2) (ae_g g__law_row hr (by decide) (aa_cons (aE.val (v_ 1) (aa_cons (aE.val i_ (aa_nil (ak_nil ⟨rfl, p, 0, _, _, rfl, rfl, (by omega), (by decide), (by decide), fun s2 s2h => (ae_g g__law_row hr (by decide) (aa_cons (aE.val (v_ 1) (aa_cons (aE.val i_ (aa_nil (ak_nil ⟨rfl, p, 0, _, _, rfl, rfl, (by omega), (by decide), (by decide), fun l2 l2h => ⟨_, _, _, rfl, rfl, rfl, by omega, by omega, s2h.lim, l2h.lim, by have := l2h.sq.lo; omega, ?_⟩⟩)))))))⟩))))))))))
    have bT := sq3_bs (a := (kn : Int)) (by omega) (by omega) s2h l2h
    refine as_one (as_if (at_not (at_val (ae_g GS hr (by decide) (aa_cons ((v_ 5).val (aa_cons ((v_ 10).val (aa_cons (ae_bin (aE.val i_ (ae_g g__law_next hr (by decide) (aa_cons (aE.val (v_ 1) (aa_cons (aE.val i_ (aa_nil (ak_nil ⟨rfl, p, 0, _, _, rfl, rfl, (by omega), (by omega), (by omega), fun m m0 m1 => (bv_add (aa_cons (aE.val (av_mod (v_ 6) i_ (by first | omega | assumption)) (aa_nil (ak_nil ⟨rfl, _, _, 1 + m, h % 500, by rw [show (h : Int) % 500 = ((h % 500 : Nat) : Int) by omega], bS, bT, rfl, by omega, by omega, by omega, true, rfl, nft, fun _ => as_nil ?_⟩)))))⟩))))))))))))))))))
    obtain ⟨Γ1, M1, q1, q2, q3⟩ := fin (n0 + 42) _ (by omega) rfl
    exact ⟨Γ1, M1, q1, q2.trans (by repeat' first | exact le_nil | refine le_skip ?_ | refine le_keep rfl ?_), q3⟩
  · rintro Γ M0 ⟨q, hq1, hq2, rfl, rfl⟩
    exact as_one (as_ret (ae_bl (.drops (.ok hp))))
end
end K09

namespace K09
open PySem L2 Ab Sm
theorem gd_pos {P : Program} {w : World} {K : PySem.W.Frag} {mg : Str → Option Value} {base : Heap} {x x' qual : Str} {params : Arguments} {body : List Stmt} {sc : Scope} {kws : List (Str × V)} {N ps : List Str} {k : Nat} {s0 : ASp} {f : Addr} {fd : FuncData} (F : FunD K x qual params body sc [] kws f fd) (S : FnScope N ps sc)
    (h : ∀ (kV doc pm : Value) (an : Option Addr) (cdv ct : Value) (us : List Value), us.length = ps.length → bindArgs (PySem.W.fnOf x qual params body sc .none kV doc pm an cdv ct) ⟨us, []⟩ = pure (ps.zip us))
    (len : ∀ ds M R, s0 ds M R → ds.length = ps.length) (hb : BodyOk P w K mg base k f N qual sc body s0) (hm : mg x' = some (.ref f)) : Gd P w K mg base (k + 1) x' [] (fun ds _ => s0 ds) := ⟨⟨f, fnx_pos' F S h len hb, hm, F.kp⟩⟩
theorem allX {l : PySem.W.OpenLaw} {w : World} {K : PySem.W.Frag} {h : Heap} {mg : Str → Option Value} {fa : Addr} (X : K.In h) (G : h.Ns mainGlobals mg) (hfa : mg "law" = some (.ref fa))
    {tt0 : Tok}
    {tt1 : Tok}
    {tt2 : Tok}
    {tt3 : Tok}
    {C : Addr}
    {D0 : Addr} {w1 w2 : Value}
    {fx1 : Addr} {odx1 anx1 : Option Addr} {slx1 : Array (Option Value)} {ocx1 dcx1 pmx1 cdx1 ctx1 : Value}
    {T2 : Addr} {tc2 : Value} {td2 : Option Addr} {tsl2 : Array (Option Value)} {k02 : Nat}
    {fx2 : Addr} {odx2 anx2 : Option Addr} {slx2 : Array (Option Value)} {ocx2 kVx2 dcx2 pmx2 cdx2 ctx2 : Value}
    {fx3 : Addr} {odx3 anx3 : Option Addr} {slx3 : Array (Option Value)} {ocx3 kVx3 dcx3 pmx3 cdx3 ctx3 : Value}
    {fx4 : Addr} {odx4 anx4 : Option Addr} {slx4 : Array (Option Value)} {ocx4 kVx4 dcx4 pmx4 cdx4 ctx4 : Value}
    {fx5 : Addr} {odx5 anx5 : Option Addr} {slx5 : Array (Option Value)} {ocx5 kVx5 dcx5 pmx5 cdx5 ctx5 : Value}
    {fx6 : Addr} {odx6 anx6 : Option Addr} {slx6 : Array (Option Value)} {ocx6 kVx6 dcx6 pmx6 cdx6 ctx6 : Value}
    {fx7 : Addr} {odx7 anx7 : Option Addr} {slx7 : Array (Option Value)} {ocx7 kVx7 dcx7 pmx7 cdx7 ctx7 : Value}
    {fx8 : Addr} {odx8 anx8 : Option Addr} {slx8 : Array (Option Value)} {ocx8 kVx8 dcx8 pmx8 cdx8 ctx8 : Value}
    {fx9 : Addr} {odx9 anx9 : Option Addr} {slx9 : Array (Option Value)} {ocx9 kVx9 dcx9 pmx9 cdx9 ctx9 : Value}
    {fx10 : Addr} {odx10 anx10 : Option Addr} {slx10 : Array (Option Value)} {ocx10 kVx10 dcx10 pmx10 cdx10 ctx10 : Value}
    {pSx10 : Addr} {rSx10 : List Value}
    {fx11 : Addr} {odx11 anx11 : Option Addr} {slx11 : Array (Option Value)} {ocx11 kVx11 dcx11 pmx11 cdx11 ctx11 : Value}
    {fx12 : Addr} {odx12 anx12 : Option Addr} {slx12 : Array (Option Value)} {ocx12 kVx12 dcx12 pmx12 cdx12 ctx12 : Value}
    {fx13 : Addr} {odx13 anx13 : Option Addr} {slx13 : Array (Option Value)} {ocx13 kVx13 dcx13 pmx13 cdx13 ctx13 : Value}
    {fx14 : Addr} {odx14 anx14 : Option Addr} {slx14 : Array (Option Value)} {ocx14 kVx14 dcx14 pmx14 cdx14 ctx14 : Value}
    {fx15 : Addr} {odx15 anx15 : Option Addr} {slx15 : Array (Option Value)} {ocx15 kVx15 dcx15 pmx15 cdx15 ctx15 : Value}
    {fx16 : Addr} {odx16 anx16 : Option Addr} {slx16 : Array (Option Value)} {ocx16 kVx16 dcx16 pmx16 cdx16 ctx16 : Value}
    {fx17 : Addr} {odx17 anx17 : Option Addr} {slx17 : Array (Option Value)} {ocx17 kVx17 dcx17 pmx17 cdx17 ctx17 : Value}
    {fx18 : Addr} {odx18 anx18 : Option Addr} {slx18 : Array (Option Value)} {ocx18 kVx18 dcx18 pmx18 cdx18 ctx18 : Value}
    {fx19 : Addr} {odx19 anx19 : Option Addr} {slx19 : Array (Option Value)} {ocx19 kVx19 dcx19 pmx19 cdx19 ctx19 : Value}
    {pNx19 : Addr} {rNx19 : List Value}
    {fx20 : Addr} {odx20 anx20 : Option Addr} {slx20 : Array (Option Value)} {ocx20 kVx20 dcx20 pmx20 cdx20 ctx20 : Value}
    {pNx20 : Addr} {rNx20 : List Value}
    {fx21 : Addr} {odx21 anx21 : Option Addr} {slx21 : Array (Option Value)} {ocx21 kVx21 dcx21 pmx21 cdx21 ctx21 : Value}
    {pNx21 : Addr} {rNx21 : List Value}
    {CN : Addr} {tmN : Tok}
    {fx22 : Addr} {odx22 anx22 : Option Addr} {slx22 : Array (Option Value)} {ocx22 kVx22 dcx22 pmx22 cdx22 ctx22 : Value}
    {fx23 : Addr} {odx23 anx23 : Option Addr} {slx23 : Array (Option Value)} {ocx23 kVx23 dcx23 pmx23 cdx23 ctx23 : Value}
    {fx24 : Addr} {odx24 anx24 : Option Addr} {slx24 : Array (Option Value)} {ocx24 kVx24 dcx24 pmx24 cdx24 ctx24 : Value}
    {fx25 : Addr} {odx25 anx25 : Option Addr} {slx25 : Array (Option Value)} {ocx25 kVx25 dcx25 pmx25 cdx25 ctx25 : Value}
    {fx26 : Addr} {odx26 anx26 : Option Addr} {slx26 : Array (Option Value)} {ocx26 kVx26 dcx26 pmx26 cdx26 ctx26 : Value}
    {fx27 : Addr} {odx27 anx27 : Option Addr} {slx27 : Array (Option Value)} {ocx27 kVx27 dcx27 pmx27 cdx27 ctx27 : Value}
    {fx28 : Addr} {odx28 anx28 : Option Addr} {slx28 : Array (Option Value)} {ocx28 kVx28 dcx28 pmx28 cdx28 ctx28 : Value}
    {fx29 : Addr} {odx29 anx29 : Option Addr} {slx29 : Array (Option Value)} {ocx29 kVx29 dcx29 pmx29 cdx29 ctx29 : Value}
    {fx30 : Addr} {odx30 anx30 : Option Addr} {slx30 : Array (Option Value)} {ocx30 kVx30 dcx30 pmx30 cdx30 ctx30 : Value}
    {fx31 : Addr} {odx31 anx31 : Option Addr} {slx31 : Array (Option Value)} {ocx31 kVx31 dcx31 pmx31 cdx31 ctx31 : Value}
    {fx32 : Addr} {odx32 anx32 : Option Addr} {slx32 : Array (Option Value)} {ocx32 kVx32 dcx32 pmx32 cdx32 ctx32 : Value}
    {fx33 : Addr} {odx33 anx33 : Option Addr} {slx33 : Array (Option Value)} {ocx33 kVx33 dcx33 pmx33 cdx33 ctx33 : Value}
    {fx34 : Addr} {odx34 anx34 : Option Addr} {slx34 : Array (Option Value)} {ocx34 kVx34 dcx34 pmx34 cdx34 ctx34 : Value}
    {fx35 : Addr} {odx35 anx35 : Option Addr} {slx35 : Array (Option Value)} {ocx35 kVx35 dcx35 pmx35 cdx35 ctx35 : Value}
    {fx36 : Addr} {odx36 anx36 : Option Addr} {slx36 : Array (Option Value)} {ocx36 kVx36 dcx36 pmx36 cdx36 ctx36 : Value}
    {fx37 : Addr} {odx37 anx37 : Option Addr} {slx37 : Array (Option Value)} {ocx37 kVx37 dcx37 pmx37 cdx37 ctx37 : Value}
    {fx38 : Addr} {odx38 anx38 : Option Addr} {slx38 : Array (Option Value)} {ocx38 kVx38 dcx38 pmx38 cdx38 ctx38 : Value}
    {fx39 : Addr} {odx39 anx39 : Option Addr} {slx39 : Array (Option Value)} {ocx39 kVx39 dcx39 pmx39 cdx39 ctx39 : Value}
    {fx40 : Addr} {odx40 anx40 : Option Addr} {slx40 : Array (Option Value)} {ocx40 kVx40 dcx40 pmx40 cdx40 ctx40 : Value}
    (u0 : PySem.W.nsIn K mainGlobals "FRONT_LIMIT" = some (some (.int 12 tt0)))
    (u1 : PySem.W.nsIn K mainGlobals "LOOP_LIMIT" = some (some (.int 6 tt1)))
    (u2 : PySem.W.nsIn K mainGlobals "LABEL_LIMIT" = some (some (.int 1000000 tt2)))
    (u3 : PySem.W.nsIn K mainGlobals "ARITY_LIMIT" = some (some (.int 9 tt3)))
    (aC : PySem.W.nsIn K mainGlobals "Schedule" = some (some (.ref C)))
    (pgC : PySem.W.plainGet K C Str.empty = true)
    (hdC : PySem.W.hasDictIn K C = true)
    (poC : PySem.W.plainOver K C = true)
    (saC : PySem.W.findIn K (.ref C) "__setattr__" = some (some (.builtin "object.__setattr__")))
    (mkC : PySem.W.makesIn K C = true)
    (kcC : PySem.W.keepIn K (.ref C) = true)
    (nC0 : PySem.W.findIn K (.ref C) "own_arity" = some none)
    (nC1 : PySem.W.findIn K (.ref C) "own_spine" = some none)
    (nC2 : PySem.W.findIn K (.ref C) "own_levels" = some none)
    (e1C : PySem.W.findIn K (.ref C) "__class__" = some (some (.builtin "object.__class__")))
    (e2C : PySem.W.specialIn K (.builtin "object.__class__") "__get__" = some (some (.builtin "getset_descriptor.__get__")))
    (e3C : PySem.W.takesIn K (.builtin "object.__class__") = some true)
    (e4C : PySem.W.mroIn K C (.type "object") = some true)
    (e6C : PySem.W.findIn K (.ref C) "__ne__" = some (some (.builtin "object.__ne__")))
    (e7C : PySem.W.subIn K (.ref C) (.type "object") = some true)
    (ax1 : PySem.W.nsIn K mainGlobals "is_integer_schedules" = some (some (.ref fx1)))
    (lx1 : K.lookup fx1 = some ⟨ocx1, odx1, .func (PySem.W.fnOf "is_integer" "is_integer" (defArgs s_is_integer) (defBody s_is_integer) (defScope s_is_integer) .none (.ref D0) dcx1 pmx1 anx1 cdx1 ctx1), slx1⟩)
    (cx1 : PySem.W.codeIn K cdx1 "is_integer" = true)
    (kx1 : PySem.W.keepIn K (.ref fx1) = true)
    (d1 : PySem.W.nsIn K D0 "low" = some (some w1))
    (d2 : PySem.W.nsIn K D0 "high" = some (some w2))
    (ax2 : PySem.W.nsIn K mainGlobals "check_integer" = some (some (.ref fx2)))
    (lx2 : K.lookup fx2 = some ⟨ocx2, odx2, .func (PySem.W.fnOf "check_integer" "check_integer" (defArgs s_check_integer) (defBody s_check_integer) (defScope s_check_integer) (.ref T2) kVx2 dcx2 pmx2 anx2 cdx2 ctx2), slx2⟩)
    (cx2 : PySem.W.codeIn K cdx2 "check_integer" = true)
    (kx2 : PySem.W.keepIn K (.ref fx2) = true)
    (dx2 : K.lookup T2 = some ⟨tc2, td2, .seq #[.none] k02, tsl2⟩)
    (ax3 : PySem.W.nsIn K mainGlobals "are_items" = some (some (.ref fx3)))
    (lx3 : K.lookup fx3 = some ⟨ocx3, odx3, .func (PySem.W.fnOf "are_items" "are_items" (defArgs s_are_items) (defBody s_are_items) (defScope s_are_items) .none kVx3 dcx3 pmx3 anx3 cdx3 ctx3), slx3⟩)
    (cx3 : PySem.W.codeIn K cdx3 "are_items" = true)
    (kx3 : PySem.W.keepIn K (.ref fx3) = true)
    (ax4 : PySem.W.nsIn K mainGlobals "shortest_loop" = some (some (.ref fx4)))
    (lx4 : K.lookup fx4 = some ⟨ocx4, odx4, .func (PySem.W.fnOf "shortest_loop" "shortest_loop" (defArgs s_shortest_loop) (defBody s_shortest_loop) (defScope s_shortest_loop) .none kVx4 dcx4 pmx4 anx4 cdx4 ctx4), slx4⟩)
    (cx4 : PySem.W.codeIn K cdx4 "shortest_loop" = true)
    (kx4 : PySem.W.keepIn K (.ref fx4) = true)
    (ax5 : PySem.W.nsIn K mainGlobals "normal_form" = some (some (.ref fx5)))
    (lx5 : K.lookup fx5 = some ⟨ocx5, odx5, .func (PySem.W.fnOf "normal_form" "normal_form" (defArgs s_normal_form) (defBody s_normal_form) (defScope s_normal_form) .none kVx5 dcx5 pmx5 anx5 cdx5 ctx5), slx5⟩)
    (cx5 : PySem.W.codeIn K cdx5 "normal_form" = true)
    (kx5 : PySem.W.keepIn K (.ref fx5) = true)
    (ax6 : PySem.W.nsIn K mainGlobals "stream_item" = some (some (.ref fx6)))
    (lx6 : K.lookup fx6 = some ⟨ocx6, odx6, .func (PySem.W.fnOf "stream_item" "stream_item" (defArgs s_stream_item) (defBody s_stream_item) (defScope s_stream_item) .none kVx6 dcx6 pmx6 anx6 cdx6 ctx6), slx6⟩)
    (cx6 : PySem.W.codeIn K cdx6 "stream_item" = true)
    (kx6 : PySem.W.keepIn K (.ref fx6) = true)
    (ax7 : PySem.W.nsIn K mainGlobals "common_multiple" = some (some (.ref fx7)))
    (lx7 : K.lookup fx7 = some ⟨ocx7, odx7, .func (PySem.W.fnOf "common_multiple" "common_multiple" (defArgs s_common_multiple) (defBody s_common_multiple) (defScope s_common_multiple) .none kVx7 dcx7 pmx7 anx7 cdx7 ctx7), slx7⟩)
    (cx7 : PySem.W.codeIn K cdx7 "common_multiple" = true)
    (kx7 : PySem.W.keepIn K (.ref fx7) = true)
    (ax8 : PySem.W.nsIn K mainGlobals "combined_streams" = some (some (.ref fx8)))
    (lx8 : K.lookup fx8 = some ⟨ocx8, odx8, .func (PySem.W.fnOf "combined_streams" "combined_streams" (defArgs s_combined_streams) (defBody s_combined_streams) (defScope s_combined_streams) .none kVx8 dcx8 pmx8 anx8 cdx8 ctx8), slx8⟩)
    (cx8 : PySem.W.codeIn K cdx8 "combined_streams" = true)
    (kx8 : PySem.W.keepIn K (.ref fx8) = true)
    (ax9 : PySem.W.nsIn K mainGlobals "checked_stream" = some (some (.ref fx9)))
    (lx9 : K.lookup fx9 = some ⟨ocx9, odx9, .func (PySem.W.fnOf "checked_stream" "checked_stream" (defArgs s_checked_stream) (defBody s_checked_stream) (defScope s_checked_stream) .none kVx9 dcx9 pmx9 anx9 cdx9 ctx9), slx9⟩)
    (cx9 : PySem.W.codeIn K cdx9 "checked_stream" = true)
    (kx9 : PySem.W.keepIn K (.ref fx9) = true)
    (rd : PySem.W.readsIn K C (.type "type") = true)
    (ga : PySem.W.specialIn K (.ref C) "__getattribute__" = some (some (.builtin "type.__getattribute__")))
    (ax10 : PySem.W.findCls K (.ref C) (.type "type") "is_stream" = some (.get (.builtin "staticmethod.__get__") (.ref pSx10) .none (.ref C)))
    (bx10 : PySem.W.recIn K pSx10 "staticmethod" = some (.ref fx10 :: rSx10))
    (lx10 : K.lookup fx10 = some ⟨ocx10, odx10, .func (PySem.W.fnOf "is_stream" "Schedule.is_stream" (defArgs c_Schedule_is_stream) (defBody c_Schedule_is_stream) (defScope c_Schedule_is_stream) .none kVx10 dcx10 pmx10 anx10 cdx10 ctx10), slx10⟩)
    (cx10 : PySem.W.codeIn K cdx10 "Schedule.is_stream" = true)
    (kx10 : PySem.W.keepIn K (.ref fx10) = true)
    (ax11 : PySem.W.findIn K (.ref C) "__init__" = some (some (.ref fx11)))
    (ix11 : PySem.W.isFn K (.ref fx11) = true)
    (lx11 : K.lookup fx11 = some ⟨ocx11, odx11, .func (PySem.W.fnOf "__init__" "Schedule.__init__" (defArgs c_Schedule___init__) (defBody c_Schedule___init__) (defScope c_Schedule___init__) .none kVx11 dcx11 pmx11 anx11 cdx11 ctx11), slx11⟩)
    (cx11 : PySem.W.codeIn K cdx11 "Schedule.__init__" = true)
    (kx11 : PySem.W.keepIn K (.ref fx11) = true)
    (ax12 : PySem.W.nsIn K mainGlobals "made_schedule" = some (some (.ref fx12)))
    (lx12 : K.lookup fx12 = some ⟨ocx12, odx12, .func (PySem.W.fnOf "made_schedule" "made_schedule" (defArgs s_made_schedule) (defBody s_made_schedule) (defScope s_made_schedule) .none kVx12 dcx12 pmx12 anx12 cdx12 ctx12), slx12⟩)
    (cx12 : PySem.W.codeIn K cdx12 "made_schedule" = true)
    (kx12 : PySem.W.keepIn K (.ref fx12) = true)
    (ax13 : PySem.W.nsIn K mainGlobals "combined_schedules" = some (some (.ref fx13)))
    (lx13 : K.lookup fx13 = some ⟨ocx13, odx13, .func (PySem.W.fnOf "combined_schedules" "combined_schedules" (defArgs s_combined_schedules) (defBody s_combined_schedules) (defScope s_combined_schedules) .none kVx13 dcx13 pmx13 anx13 cdx13 ctx13), slx13⟩)
    (cx13 : PySem.W.codeIn K cdx13 "combined_schedules" = true)
    (kx13 : PySem.W.keepIn K (.ref fx13) = true)
    (ax14 : PySem.W.nsIn K mainGlobals "total" = some (some (.ref fx14)))
    (lx14 : K.lookup fx14 = some ⟨ocx14, odx14, .func (PySem.W.fnOf "total" "total" (defArgs s_total) (defBody s_total) (defScope s_total) .none kVx14 dcx14 pmx14 anx14 cdx14 ctx14), slx14⟩)
    (cx14 : PySem.W.codeIn K cdx14 "total" = true)
    (kx14 : PySem.W.keepIn K (.ref fx14) = true)
    (ax15 : PySem.W.findIn K (.ref C) "spine_at" = some (some (.ref fx15)))
    (ix15 : PySem.W.isFn K (.ref fx15) = true)
    (lx15 : K.lookup fx15 = some ⟨ocx15, odx15, .func (PySem.W.fnOf "spine_at" "Schedule.spine_at" (defArgs c_Schedule_spine_at) (defBody c_Schedule_spine_at) (defScope c_Schedule_spine_at) .none kVx15 dcx15 pmx15 anx15 cdx15 ctx15), slx15⟩)
    (cx15 : PySem.W.codeIn K cdx15 "Schedule.spine_at" = true)
    (kx15 : PySem.W.keepIn K (.ref fx15) = true)
    (ax16 : PySem.W.findIn K (.ref C) "level_at" = some (some (.ref fx16)))
    (ix16 : PySem.W.isFn K (.ref fx16) = true)
    (lx16 : K.lookup fx16 = some ⟨ocx16, odx16, .func (PySem.W.fnOf "level_at" "Schedule.level_at" (defArgs c_Schedule_level_at) (defBody c_Schedule_level_at) (defScope c_Schedule_level_at) .none kVx16 dcx16 pmx16 anx16 cdx16 ctx16), slx16⟩)
    (cx16 : PySem.W.codeIn K cdx16 "Schedule.level_at" = true)
    (kx16 : PySem.W.keepIn K (.ref fx16) = true)
    (ax17 : PySem.W.findIn K (.ref C) "times" = some (some (.ref fx17)))
    (ix17 : PySem.W.isFn K (.ref fx17) = true)
    (lx17 : K.lookup fx17 = some ⟨ocx17, odx17, .func (PySem.W.fnOf "times" "Schedule.times" (defArgs c_Schedule_times) (defBody c_Schedule_times) (defScope c_Schedule_times) .none kVx17 dcx17 pmx17 anx17 cdx17 ctx17), slx17⟩)
    (cx17 : PySem.W.codeIn K cdx17 "Schedule.times" = true)
    (kx17 : PySem.W.keepIn K (.ref fx17) = true)
    (ax18 : PySem.W.findIn K (.ref C) "__eq__" = some (some (.ref fx18)))
    (ix18 : PySem.W.isFn K (.ref fx18) = true)
    (lx18 : K.lookup fx18 = some ⟨ocx18, odx18, .func (PySem.W.fnOf "__eq__" "Schedule.__eq__" (defArgs c_Schedule___eq__) (defBody c_Schedule___eq__) (defScope c_Schedule___eq__) .none kVx18 dcx18 pmx18 anx18 cdx18 ctx18), slx18⟩)
    (cx18 : PySem.W.codeIn K cdx18 "Schedule.__eq__" = true)
    (kx18 : PySem.W.keepIn K (.ref fx18) = true)
    (ax19 : PySem.W.findIn K (.ref C) "arity" = some (some (.ref pNx19)))
    (gx19 : PySem.W.specialIn K (.ref pNx19) "__get__" = some (some (.builtin "property.__get__")))
    (tx19 : PySem.W.takesIn K (.ref pNx19) = some true)
    (bx19 : PySem.W.recIn K pNx19 "property" = some (.ref fx19 :: rNx19))
    (lx19 : K.lookup fx19 = some ⟨ocx19, odx19, .func (PySem.W.fnOf "arity" "Schedule.arity" (defArgs c_Schedule_arity) (defBody c_Schedule_arity) (defScope c_Schedule_arity) .none kVx19 dcx19 pmx19 anx19 cdx19 ctx19), slx19⟩)
    (cx19 : PySem.W.codeIn K cdx19 "Schedule.arity" = true)
    (kx19 : PySem.W.keepIn K (.ref fx19) = true)
    (ax20 : PySem.W.findIn K (.ref C) "spine" = some (some (.ref pNx20)))
    (gx20 : PySem.W.specialIn K (.ref pNx20) "__get__" = some (some (.builtin "property.__get__")))
    (tx20 : PySem.W.takesIn K (.ref pNx20) = some true)
    (bx20 : PySem.W.recIn K pNx20 "property" = some (.ref fx20 :: rNx20))
    (lx20 : K.lookup fx20 = some ⟨ocx20, odx20, .func (PySem.W.fnOf "spine" "Schedule.spine" (defArgs c_Schedule_spine) (defBody c_Schedule_spine) (defScope c_Schedule_spine) .none kVx20 dcx20 pmx20 anx20 cdx20 ctx20), slx20⟩)
    (cx20 : PySem.W.codeIn K cdx20 "Schedule.spine" = true)
    (kx20 : PySem.W.keepIn K (.ref fx20) = true)
    (ax21 : PySem.W.findIn K (.ref C) "levels" = some (some (.ref pNx21)))
    (gx21 : PySem.W.specialIn K (.ref pNx21) "__get__" = some (some (.builtin "property.__get__")))
    (tx21 : PySem.W.takesIn K (.ref pNx21) = some true)
    (bx21 : PySem.W.recIn K pNx21 "property" = some (.ref fx21 :: rNx21))
    (lx21 : K.lookup fx21 = some ⟨ocx21, odx21, .func (PySem.W.fnOf "levels" "Schedule.levels" (defArgs c_Schedule_levels) (defBody c_Schedule_levels) (defScope c_Schedule_levels) .none kVx21 dcx21 pmx21 anx21 cdx21 ctx21), slx21⟩)
    (cx21 : PySem.W.codeIn K cdx21 "Schedule.levels" = true)
    (kx21 : PySem.W.keepIn K (.ref fx21) = true)
    (aCN : PySem.W.nsIn K mainGlobals "Node" = some (some (.ref CN)))
    (rCN : PySem.W.readsIn K CN (.type "type") = true)
    (gCN : PySem.W.specialIn K (.ref CN) "__getattribute__" = some (some (.builtin "type.__getattribute__")))
    (vCN : PySem.W.findCls K (.ref CN) (.type "type") "MAX_HEIGHT" = some (.val (.int 3000 tmN)))
    (ax22 : PySem.W.nsIn K mainGlobals "is_integer_nodes" = some (some (.ref fx22)))
    (lx22 : K.lookup fx22 = some ⟨ocx22, odx22, .func (PySem.W.fnOf "is_integer" "is_integer" (defArgs s_is_integer_nodes) (defBody s_is_integer_nodes) (defScope s_is_integer_nodes) .none kVx22 dcx22 pmx22 anx22 cdx22 ctx22), slx22⟩)
    (cx22 : PySem.W.codeIn K cdx22 "is_integer" = true)
    (kx22 : PySem.W.keepIn K (.ref fx22) = true)
    (ax23 : PySem.W.nsIn K mainGlobals "need_schedule" = some (some (.ref fx23)))
    (lx23 : K.lookup fx23 = some ⟨ocx23, odx23, .func (PySem.W.fnOf "need_schedule" "need_schedule" (defArgs s_need_schedule) (defBody s_need_schedule) (defScope s_need_schedule) .none kVx23 dcx23 pmx23 anx23 cdx23 ctx23), slx23⟩)
    (cx23 : PySem.W.codeIn K cdx23 "need_schedule" = true)
    (kx23 : PySem.W.keepIn K (.ref fx23) = true)
    (ax24 : PySem.W.nsIn K mainGlobals "sizes_up_to" = some (some (.ref fx24)))
    (lx24 : K.lookup fx24 = some ⟨ocx24, odx24, .func (PySem.W.fnOf "sizes_up_to" "sizes_up_to" (defArgs s_sizes_up_to) (defBody s_sizes_up_to) (defScope s_sizes_up_to) .none kVx24 dcx24 pmx24 anx24 cdx24 ctx24), slx24⟩)
    (cx24 : PySem.W.codeIn K cdx24 "sizes_up_to" = true)
    (kx24 : PySem.W.keepIn K (.ref fx24) = true)
    (ax25 : PySem.W.nsIn K mainGlobals "end_of_stage" = some (some (.ref fx25)))
    (lx25 : K.lookup fx25 = some ⟨ocx25, odx25, .func (PySem.W.fnOf "end_of_stage" "end_of_stage" (defArgs s_end_of_stage) (defBody s_end_of_stage) (defScope s_end_of_stage) .none kVx25 dcx25 pmx25 anx25 cdx25 ctx25), slx25⟩)
    (cx25 : PySem.W.codeIn K cdx25 "end_of_stage" = true)
    (kx25 : PySem.W.keepIn K (.ref fx25) = true)
    (ax26 : PySem.W.nsIn K mainGlobals "need_height" = some (some (.ref fx26)))
    (lx26 : K.lookup fx26 = some ⟨ocx26, odx26, .func (PySem.W.fnOf "need_height" "need_height" (defArgs s_need_height) (defBody s_need_height) (defScope s_need_height) .none kVx26 dcx26 pmx26 anx26 cdx26 ctx26), slx26⟩)
    (cx26 : PySem.W.codeIn K cdx26 "need_height" = true)
    (kx26 : PySem.W.keepIn K (.ref fx26) = true)
    (ax27 : PySem.W.nsIn K mainGlobals "branch_size" = some (some (.ref fx27)))
    (lx27 : K.lookup fx27 = some ⟨ocx27, odx27, .func (PySem.W.fnOf "branch_size" "branch_size" (defArgs s_branch_size) (defBody s_branch_size) (defScope s_branch_size) .none kVx27 dcx27 pmx27 anx27 cdx27 ctx27), slx27⟩)
    (cx27 : PySem.W.codeIn K cdx27 "branch_size" = true)
    (kx27 : PySem.W.keepIn K (.ref fx27) = true)
    (ax28 : PySem.W.nsIn K mainGlobals "stage_end" = some (some (.ref fx28)))
    (lx28 : K.lookup fx28 = some ⟨ocx28, odx28, .func (PySem.W.fnOf "stage_end" "stage_end" (defArgs s_stage_end) (defBody s_stage_end) (defScope s_stage_end) .none kVx28 dcx28 pmx28 anx28 cdx28 ctx28), slx28⟩)
    (cx28 : PySem.W.codeIn K cdx28 "stage_end" = true)
    (kx28 : PySem.W.keepIn K (.ref fx28) = true)
    (dig : PySem.W.nsIn K cStatics "sys.int_max_str_digits" = some none)
    (ax29 : PySem.W.nsIn K mainGlobals "_law_next" = some (some (.ref fx29)))
    (lx29 : K.lookup fx29 = some ⟨ocx29, odx29, .func (PySem.W.fnOf "_law_next" "_law_next" (defArgs s__law_next) (defBody s__law_next) (defScope s__law_next) .none kVx29 dcx29 pmx29 anx29 cdx29 ctx29), slx29⟩)
    (cx29 : PySem.W.codeIn K cdx29 "_law_next" = true)
    (kx29 : PySem.W.keepIn K (.ref fx29) = true)
    (ax30 : PySem.W.nsIn K mainGlobals "_law_row" = some (some (.ref fx30)))
    (lx30 : K.lookup fx30 = some ⟨ocx30, odx30, .func (PySem.W.fnOf "_law_row" "_law_row" (defArgs s__law_row) (defBody s__law_row) (defScope s__law_row) .none kVx30 dcx30 pmx30 anx30 cdx30 ctx30), slx30⟩)
    (cx30 : PySem.W.codeIn K cdx30 "_law_row" = true)
    (kx30 : PySem.W.keepIn K (.ref fx30) = true)
    (ax31 : PySem.W.nsIn K mainGlobals "_law_streams" = some (some (.ref fx31)))
    (lx31 : K.lookup fx31 = some ⟨ocx31, odx31, .func (PySem.W.fnOf "_law_streams" "_law_streams" (defArgs s__law_streams) (defBody s__law_streams) (defScope s__law_streams) .none kVx31 dcx31 pmx31 anx31 cdx31 ctx31), slx31⟩)
    (cx31 : PySem.W.codeIn K cdx31 "_law_streams" = true)
    (kx31 : PySem.W.keepIn K (.ref fx31) = true)
    (ax32 : PySem.W.nsIn K mainGlobals "_law_item" = some (some (.ref fx32)))
    (lx32 : K.lookup fx32 = some ⟨ocx32, odx32, .func (PySem.W.fnOf "_law_item" "_law_item" (defArgs s__law_item) (defBody s__law_item) (defScope s__law_item) .none kVx32 dcx32 pmx32 anx32 cdx32 ctx32), slx32⟩)
    (cx32 : PySem.W.codeIn K cdx32 "_law_item" = true)
    (kx32 : PySem.W.keepIn K (.ref fx32) = true)
    (ax33 : PySem.W.nsIn K mainGlobals "_law_plan" = some (some (.ref fx33)))
    (lx33 : K.lookup fx33 = some ⟨ocx33, odx33, .func (PySem.W.fnOf "_law_plan" "_law_plan" (defArgs s__law_plan) (defBody s__law_plan) (defScope s__law_plan) .none kVx33 dcx33 pmx33 anx33 cdx33 ctx33), slx33⟩)
    (cx33 : PySem.W.codeIn K cdx33 "_law_plan" = true)
    (kx33 : PySem.W.keepIn K (.ref fx33) = true)
    (ax34 : PySem.W.nsIn K mainGlobals "_law_branch" = some (some (.ref fx34)))
    (lx34 : K.lookup fx34 = some ⟨ocx34, odx34, .func (PySem.W.fnOf "_law_branch" "_law_branch" (defArgs s__law_branch) (defBody s__law_branch) (defScope s__law_branch) .none kVx34 dcx34 pmx34 anx34 cdx34 ctx34), slx34⟩)
    (cx34 : PySem.W.codeIn K cdx34 "_law_branch" = true)
    (kx34 : PySem.W.keepIn K (.ref fx34) = true)
    (ax35 : PySem.W.nsIn K mainGlobals "_law_sizes" = some (some (.ref fx35)))
    (lx35 : K.lookup fx35 = some ⟨ocx35, odx35, .func (PySem.W.fnOf "_law_sizes" "_law_sizes" (defArgs s__law_sizes) (defBody s__law_sizes) (defScope s__law_sizes) .none kVx35 dcx35 pmx35 anx35 cdx35 ctx35), slx35⟩)
    (cx35 : PySem.W.codeIn K cdx35 "_law_sizes" = true)
    (kx35 : PySem.W.keepIn K (.ref fx35) = true)
    (ax36 : PySem.W.nsIn K mainGlobals "_law_ends" = some (some (.ref fx36)))
    (lx36 : K.lookup fx36 = some ⟨ocx36, odx36, .func (PySem.W.fnOf "_law_ends" "_law_ends" (defArgs s__law_ends) (defBody s__law_ends) (defScope s__law_ends) .none kVx36 dcx36 pmx36 anx36 cdx36 ctx36), slx36⟩)
    (cx36 : PySem.W.codeIn K cdx36 "_law_ends" = true)
    (kx36 : PySem.W.keepIn K (.ref fx36) = true)
    (ax37 : PySem.W.nsIn K mainGlobals "_law_far_right" = some (some (.ref fx37)))
    (lx37 : K.lookup fx37 = some ⟨ocx37, odx37, .func (PySem.W.fnOf "_law_far_right" "_law_far_right" (defArgs s__law_far_right) (defBody s__law_far_right) (defScope s__law_far_right) .none kVx37 dcx37 pmx37 anx37 cdx37 ctx37), slx37⟩)
    (cx37 : PySem.W.codeIn K cdx37 "_law_far_right" = true)
    (kx37 : PySem.W.keepIn K (.ref fx37) = true)
    (ax38 : PySem.W.nsIn K mainGlobals "_law_low_right" = some (some (.ref fx38)))
    (lx38 : K.lookup fx38 = some ⟨ocx38, odx38, .func (PySem.W.fnOf "_law_low_right" "_law_low_right" (defArgs s__law_low_right) (defBody s__law_low_right) (defScope s__law_low_right) .none kVx38 dcx38 pmx38 anx38 cdx38 ctx38), slx38⟩)
    (cx38 : PySem.W.codeIn K cdx38 "_law_low_right" = true)
    (kx38 : PySem.W.keepIn K (.ref fx38) = true)
    (ax39 : PySem.W.nsIn K mainGlobals "_law_sum_right" = some (some (.ref fx39)))
    (lx39 : K.lookup fx39 = some ⟨ocx39, odx39, .func (PySem.W.fnOf "_law_sum_right" "_law_sum_right" (defArgs s__law_sum_right) (defBody s__law_sum_right) (defScope s__law_sum_right) .none kVx39 dcx39 pmx39 anx39 cdx39 ctx39), slx39⟩)
    (cx39 : PySem.W.codeIn K cdx39 "_law_sum_right" = true)
    (kx39 : PySem.W.keepIn K (.ref fx39) = true)
    (ax40 : PySem.W.nsIn K mainGlobals "law" = some (some (.ref fx40)))
    (lx40 : K.lookup fx40 = some ⟨ocx40, odx40, .func (PySem.W.fnOf "law" "law" (defArgs s_law) (defBody s_law) (defScope s_law) .none kVx40 dcx40 pmx40 anx40 cdx40 ctx40), slx40⟩)
    (cx40 : PySem.W.codeIn K cdx40 "law" = true)
    (kx40 : PySem.W.keepIn K (.ref fx40) = true)
    (z0 : PySem.W.nsIn K mainGlobals "isinstance" = some none)
    (z1 : PySem.W.nsIn K mainGlobals "int" = some none)
    (z2 : PySem.W.nsIn K mainGlobals "bool" = some none)
    (z3 : PySem.W.nsIn K mainGlobals "tuple" = some none)
    (z4 : PySem.W.nsIn K mainGlobals "len" = some none)
    (z5 : PySem.W.nsIn K mainGlobals "enumerate" = some none)
    (z6 : PySem.W.nsIn K mainGlobals "range" = some none)
    (z7 : PySem.W.nsIn K mainGlobals "all" = some none)
    (z8 : PySem.W.nsIn K mainGlobals "list" = some none)
    (z9 : PySem.W.nsIn K mainGlobals "min" = some none)
    (z10 : PySem.W.nsIn K mainGlobals "max" = some none)
    (z11 : PySem.W.nsIn K mainGlobals "sum" = some none)
    (z12 : PySem.W.nsIn K mainGlobals "repr" = some none)
    (y1 : RelV .non w1)
    (y2 : RelV .non w2)
    : ∀ base : Heap, K.In base → base.Ns mainGlobals mg → FnX l.prog w K mg base 10 fa [] (spX K aLaw) := by
  intro base _ _
  have B : Bt mg := ⟨(PySem.W.mg_none_of X G z0), (PySem.W.mg_none_of X G z1), (PySem.W.mg_none_of X G z2), (PySem.W.mg_none_of X G z3), (PySem.W.mg_none_of X G z4), (PySem.W.mg_none_of X G z5), (PySem.W.mg_none_of X G z6), (PySem.W.mg_none_of X G z7), (PySem.W.mg_none_of X G z8), (PySem.W.mg_none_of X G z9), (PySem.W.mg_none_of X G z10), (PySem.W.mg_none_of X G z11)⟩
  have T : Rs K mg C := ⟨⟨pgC, hdC, poC, saC⟩, nC0, nC1, nC2, PySem.W.mg_of X G aC⟩
  have L : Lm mg tt0 tt1 tt2 tt3 := ⟨PySem.W.mg_of X G u0, PySem.W.mg_of X G u1, PySem.W.mg_of X G u2, PySem.W.mg_of X G u3⟩
  have LE_ : LmE mg := ⟨⟨_, PySem.W.mg_of X G u0⟩, ⟨_, PySem.W.mg_of X G u1⟩, ⟨_, PySem.W.mg_of X G u2⟩, ⟨_, PySem.W.mg_of X G u3⟩⟩
  have e5 : PySem.W.kitOne K (.ref C) (.ref C) = some true := if_pos (by simp)
  have IS : Isi K C := ⟨e1C, e2C, e3C, e4C, e5⟩
  have Fx1 := fd_kw2 (st := s_is_integer) lx1 cx1 kx1 d1 d2 y1 y2
  have GA : GInt l.prog w K mg base := by
    obtain ⟨mv, kb⟩ := FunD.kbinds0 (ps := ["value", "low", "high"]) Fx1 1 ["low", "high"] [] (fun us _ ws => us ++ ws) (by simp) (fun _ h => nomatch h) (fun r1 _ r2 => r1.append r2)
      (fun D doc pm an cdv ct us mv ws h1 h2 h3 => match us, mv, ws, h1, h2, h3 with | [_], [], [_, _], _, _, _ => rfl)
    exact ⟨⟨fx1, fnx_kbn (k := 0) (fun ds es => ds ++ es) Fx1 q_is_integer kb (fun H ds vs es zs r1 r2 _ _ => r1.append r2) (fun ds M R ⟨n, lo, hi, e, _⟩ => by rw [e]; rfl) (b_is_integer (PySem.W.mg_none_of X G z0) (PySem.W.mg_none_of X G z1) (PySem.W.mg_none_of X G z2)), (PySem.W.mg_of X G ax1), kx1⟩⟩
  have Fx2 : FunD K "check_integer" "check_integer" (defArgs s_check_integer) (defBody s_check_integer) (defScope s_check_integer) [.non] [] fx2 _ := ⟨⟨ocx2, odx2, .ref T2, kVx2, dcx2, pmx2, anx2, cdx2, ctx2, slx2, rfl, lx2, cx2, .inr ⟨List.cons_ne_nil _ _, T2, _, [.none], k02, rfl, dx2, rfl, .cons rfl .nil⟩, .inl rfl⟩, kx2⟩
  have GB : GChk l.prog w K mg base := ⟨⟨fx2, fnx_dfl (n := 2) (dd := [.non]) Fx2 q_check_integer (List.cons_ne_nil _ _) (fun H => .cons .non .nil) (fun T' kV doc pm an cdv ct us its h1 h2 => match us, its, h1, h2 with | [_, _], [_], _, _ => ⟨_, rfl, rfl⟩) (fun ds M R h => by obtain ⟨n, lo, rfl, _⟩ := h; rfl) (b_check_integer GA), (PySem.W.mg_of X G ax2), kx2⟩⟩
  have Fx3 := fd_mk (st := s_are_items) lx3 cx3 kx3
  have GC : GItems l.prog w K mg base := gd_pos Fx3 q_are_items (fun _ _ _ _ _ _ us hl => match us, hl with | [_, _, _], _ => rfl) (fun ds M R h => by obtain ⟨x, a, b, rfl, _⟩ := h; rfl) (b_are_items GA L.b (PySem.W.mg_none_of X G z0) (PySem.W.mg_none_of X G z3) (PySem.W.mg_none_of X G z4) (PySem.W.mg_none_of X G z7)) (PySem.W.mg_of X G ax3)
  have Fx4 := fd_mk (st := s_shortest_loop) lx4 cx4 kx4
  have GD : GSl l.prog w K mg base := gd_pos Fx4 q_shortest_loop (fun _ _ _ _ _ _ us hl => match us, hl with | [_], _ => rfl) (fun ds M R h => by obtain ⟨x, rfl, _⟩ := h; rfl) (b_shortest_loop (PySem.W.mg_none_of X G z6) (PySem.W.mg_none_of X G z4)) (PySem.W.mg_of X G ax4)
  have Fx5 := fd_mk (st := s_normal_form) lx5 cx5 kx5
  have GE : GNf l.prog w K mg base := gd_pos Fx5 q_normal_form (fun _ _ _ _ _ _ us hl => match us, hl with | [_, _], _ => rfl) (fun ds M R h => by obtain ⟨x, rfl, _⟩ := h; rfl) (b_normal_form GD) (PySem.W.mg_of X G ax5)
  have Fx6 := fd_mk (st := s_stream_item) lx6 cx6 kx6
  have GF : GItem l.prog w K mg base := gd_pos Fx6 q_stream_item (fun _ _ _ _ _ _ us hl => match us, hl with | [_, _], _ => rfl) (fun ds M R h => by obtain ⟨x, i, rfl, _⟩ := h; rfl) (b_stream_item (PySem.W.mg_none_of X G z4)) (PySem.W.mg_of X G ax6)
  have Fx7 := fd_mk (st := s_common_multiple) lx7 cx7 kx7
  have GJ : GLcm l.prog w K mg base := gd_pos Fx7 q_common_multiple (fun _ _ _ _ _ _ us hl => match us, hl with | [_], _ => rfl) (fun ds M R h => by obtain ⟨x, rfl, _⟩ := h; rfl) (b_common_multiple) (PySem.W.mg_of X G ax7)
  have Fx8 := fd_mk (st := s_combined_streams) lx8 cx8 kx8
  have GK : GCmb l.prog w K mg base := gd_pos Fx8 q_combined_streams (fun _ _ _ _ _ _ us hl => match us, hl with | [_, _], _ => rfl) (fun ds M R h => by obtain ⟨x, i, B, rfl, _⟩ := h; rfl) (b_combined_streams GF GJ (PySem.W.mg_none_of X G z6) (PySem.W.mg_none_of X G z3) (PySem.W.mg_none_of X G z4) (PySem.W.mg_none_of X G z10) (PySem.W.mg_none_of X G z9) (PySem.W.mg_none_of X G z11)) (PySem.W.mg_of X G ax8)
  have Fx9 := fd_mk (st := s_checked_stream) lx9 cx9 kx9
  have GL : GCs l.prog w K mg base := gd_pos Fx9 q_checked_stream (fun _ _ _ _ _ _ us hl => match us, hl with | [_], _ => rfl) (fun ds M R h => by obtain ⟨x, rfl, _⟩ := h; rfl) (b_checked_stream L GE (PySem.W.mg_none_of X G z4) (PySem.W.mg_none_of X G z10)) (PySem.W.mg_of X G ax9)
  have Fx10 := fd_mk (st := c_Schedule_is_stream) lx10 cx10 kx10
  have XJ : FX l.prog w K mg base 3 fx10 fun ds _ => aIss ds := fnx_pos' Fx10 q_Schedule_is_stream (fun _ _ _ _ _ _ us hl => match us, hl with | [_], _ => rfl) (fun ds M R h => by obtain ⟨x, rfl, _⟩ := h; rfl) (b_is_stream L GC (PySem.W.mg_none_of X G z0) (PySem.W.mg_none_of X G z3) (PySem.W.mg_none_of X G z4))
  have CS : Cs l.prog w K mg base C pSx10 fx10 := ⟨⟨rd, ga⟩, ⟨ax10, ⟨_, bx10⟩, kx10⟩, XJ⟩
  have Fx11 := fd_mk (st := c_Schedule___init__) lx11 cx11 kx11
  have MK : Mks l.prog w K mg base C := ⟨⟨fx11, ⟨mkC, ax11, ix11, kcC⟩, fnx_kw Fx11 q_Schedule___init__ (fun _ _ _ _ _ _ us ws h1 h2 => match us, ws, h1, h2 with | [_, _], [_, _], _, _ => rfl) (fun ds M R h => by obtain ⟨p, a, sp, lv, M0, rfl, _⟩ := h; rfl) (b_init T L GA CS GF GE)⟩⟩
  have Fx12 := fd_mk (st := s_made_schedule) lx12 cx12 kx12
  have GM : GMd l.prog w K mg base C := gd_pos Fx12 q_made_schedule (fun _ _ _ _ _ _ us hl => match us, hl with | [_, _, _], _ => rfl) (fun ds M R h => by obtain ⟨a, s, x, rfl, _⟩ := h; rfl) (b_made_schedule T MK GL) (PySem.W.mg_of X G ax12)
  have Fx13 := fd_mk (st := s_combined_schedules) lx13 cx13 kx13
  have GN : GCbs l.prog w K mg base C := gd_pos Fx13 q_combined_schedules (fun _ _ _ _ _ _ us hl => match us, hl with | [_, _], _ => rfl) (fun ds M R h => by obtain ⟨a, s, rfl, _⟩ := h; rfl) (b_combined_schedules T IS GK GM (PySem.W.mg_none_of X G z0) (PySem.W.mg_none_of X G z5) (PySem.W.mg_none_of X G z4) (PySem.W.mg_none_of X G z10) (PySem.W.mg_none_of X G z9)) (PySem.W.mg_of X G ax13)
  have Fx14 := fd_mk (st := s_total) lx14 cx14 kx14
  have GO : GWd l.prog w K mg base C "total" .sum := ⟨⟨fx14, fnx_all (pv := "schedules") Fx14 q_total (fun kV doc pm an cdv ct us => by cases us <;> rfl) (b_total GN), (PySem.W.mg_of X G ax14), kx14⟩⟩
  have Fx15 := fd_mk (st := c_Schedule_spine_at) lx15 cx15 kx15
  have XE : FX l.prog w K mg base 3 fx15 fun ds _ => aSat C ds := fnx_pos' Fx15 q_Schedule_spine_at (fun _ _ _ _ _ _ us hl => match us, hl with | [_, _], _ => rfl) (fun ds M R h => by obtain ⟨x, i, rfl, _⟩ := h; rfl) (b_spine_at T GB GF)
  have Fx16 := fd_mk (st := c_Schedule_level_at) lx16 cx16 kx16
  have XF : FX l.prog w K mg base 3 fx16 fun ds _ => aLat C ds := fnx_pos' Fx16 q_Schedule_level_at (fun _ _ _ _ _ _ us hl => match us, hl with | [_, _], _ => rfl) (fun ds M R h => by obtain ⟨x, i, rfl, _⟩ := h; rfl) (b_level_at T GB GF)
  have Fx17 := fd_mk (st := c_Schedule_times) lx17 cx17 kx17
  have XH : FX l.prog w K mg base 7 fx17 fun ds _ => aTim C ds := fnx_pos' Fx17 q_Schedule_times (fun _ _ _ _ _ _ us hl => match us, hl with | [_, _], _ => rfl) (fun ds M R h => by obtain ⟨x, i, rfl, _⟩ := h; rfl) (b_times T GB GM (PySem.W.mg_none_of X G z3))
  have XT : Mt l.prog w K mg base C 7 "times" (aTim C) := ⟨fx17, ⟨ax17, ix17, kx17⟩, XH⟩
  have SM : Sm2 l.prog w K mg base C := ⟨⟨fx15, ⟨ax15, ix15, kx15⟩, XE⟩, ⟨fx16, ⟨ax16, ix16, kx16⟩, XF⟩⟩
  have Fx18 := fd_mk (st := c_Schedule___eq__) lx18 cx18 kx18
  have XI : FX l.prog w K mg base 1 fx18 fun ds _ => aEqS C ds := fnx_pos' Fx18 q_Schedule___eq__ (fun _ _ _ _ _ _ us hl => match us, hl with | [_, _], _ => rfl) (fun ds M R h => by obtain ⟨x, i, rfl, _⟩ := h; rfl) (b_eq T IS (PySem.W.mg_none_of X G z0))
  have OS : OwnS l.prog w K mg base C fx18 := ⟨XI, ax18, ix18, e6C, e7C⟩
  have Fx19 := fd_mk (st := c_Schedule_arity) lx19 cx19 kx19
  have YPA : FX l.prog w K mg base 1 fx19 fun ds _ => aAri C ds := fnx_pos' Fx19 q_Schedule_arity (fun _ _ _ _ _ _ us hl => match us, hl with | [_], _ => rfl) (fun ds M R h => by obtain ⟨x, rfl, _⟩ := h; rfl) (b_arity T)
  have PA : PrA l.prog w K mg base C := ⟨⟨pNx19, fx19, ⟨ax19, gx19, tx19, _, bx19⟩, YPA⟩⟩
  have Fx20 := fd_mk (st := c_Schedule_spine) lx20 cx20 kx20
  have YPS_ : FX l.prog w K mg base 1 fx20 fun ds _ => aSpi C ds := fnx_pos' Fx20 q_Schedule_spine (fun _ _ _ _ _ _ us hl => match us, hl with | [_], _ => rfl) (fun ds M R h => by obtain ⟨x, rfl, _⟩ := h; rfl) (b_spine T)
  have PS_ : PrS l.prog w K mg base C := ⟨⟨pNx20, fx20, ⟨ax20, gx20, tx20, _, bx20⟩, YPS_⟩⟩
  have Fx21 := fd_mk (st := c_Schedule_levels) lx21 cx21 kx21
  have YPL_ : FX l.prog w K mg base 1 fx21 fun ds _ => aLev C ds := fnx_pos' Fx21 q_Schedule_levels (fun _ _ _ _ _ _ us hl => match us, hl with | [_], _ => rfl) (fun ds M R h => by obtain ⟨x, rfl, _⟩ := h; rfl) (b_levels T)
  have PL_ : PrL l.prog w K mg base C := ⟨⟨pNx21, fx21, ⟨ax21, gx21, tx21, _, bx21⟩, YPL_⟩⟩
  have NC : NdC K mg CN := ⟨PySem.W.mg_of X G aCN, ⟨rCN, gCN⟩, ⟨_, vCN, ⟨_, rfl⟩⟩⟩
  have Fx22 := fd_mk (st := s_is_integer_nodes) lx22 cx22 kx22
  have NI : GInn l.prog w K mg base := gd_pos Fx22 q_is_integer_nodes (fun _ _ _ _ _ _ us hl => match us, hl with | [_, _], _ => rfl) (fun ds M R h => by obtain ⟨n, lo, rfl, _⟩ := h; rfl) (b_is_integer_nodes (k := 0) B) (PySem.W.mg_of X G ax22)
  have Fx23 := fd_mk (st := s_need_schedule) lx23 cx23 kx23
  have NS : GNsc l.prog w K mg base C := gd_pos Fx23 q_need_schedule (fun _ _ _ _ _ _ us hl => match us, hl with | [_], _ => rfl) (fun ds M R h => by obtain ⟨S, rfl, _⟩ := h; rfl) (b_need_schedule (k := 0) B T IS) (PySem.W.mg_of X G ax23)
  have Fx24 := fd_mk (st := s_sizes_up_to) lx24 cx24 kx24
  have SZ : GSzu l.prog w K mg base C := gd_pos Fx24 q_sizes_up_to (fun _ _ _ _ _ _ us hl => match us, hl with | [_, _], _ => rfl) (fun ds M R h => by obtain ⟨S, h, rfl, _⟩ := h; rfl) (b_sizes_up_to B T SM PA) (PySem.W.mg_of X G ax24)
  have Fx25 := fd_mk (st := s_end_of_stage) lx25 cx25 kx25
  have EO : GEos l.prog w K mg base C := gd_pos Fx25 q_end_of_stage (fun _ _ _ _ _ _ us hl => match us, hl with | [_, _, _], _ => rfl) (fun ds M R h => by obtain ⟨S, n, st, rfl, _⟩ := h; rfl) (b_end_of_stage B T SM PA) (PySem.W.mg_of X G ax25)
  have Fx26 := fd_mk (st := s_need_height) lx26 cx26 kx26
  have NH : GNht l.prog w K mg base := gd_pos Fx26 q_need_height (fun _ _ _ _ _ _ us hl => match us, hl with | [_], _ => rfl) (fun ds M R h => by obtain ⟨h, rfl, _⟩ := h; rfl) (b_need_height NC NI) (PySem.W.mg_of X G ax26)
  have Fx27 := fd_mk (st := s_branch_size) lx27 cx27 kx27
  have BZ : GBsz l.prog w K mg base C := gd_pos Fx27 q_branch_size (fun _ _ _ _ _ _ us hl => match us, hl with | [_, _], _ => rfl) (fun ds M R h => by obtain ⟨S, h, rfl, _⟩ := h; rfl) (b_branch_size NS NH SZ) (PySem.W.mg_of X G ax27)
  have Fx28 := fd_mk (st := s_stage_end) lx28 cx28 kx28
  have SE : GSte l.prog w K mg base C := gd_pos Fx28 q_stage_end (fun _ _ _ _ _ _ us hl => match us, hl with | [_, _], _ => rfl) (fun ds M R h => by obtain ⟨S, h, rfl, _⟩ := h; rfl) (b_stage_end NS NH SZ EO) (PySem.W.mg_of X G ax28)
  have DG : DigK K := dig
  have BZK : GBszK l.prog w K mg base C := ⟨⟨fx27, fnx_kwS (n := 0) (ks := ["height", "schedule"]) Fx27 q_branch_size (fun _ _ _ _ _ _ us ws h1 h2 => match us, ws, h1, h2 with | [], [_, _], _, _ => rfl) (fun ds M R h => by obtain ⟨S, h, rfl, _⟩ := h; rfl) (b_branch_size NS NH SZ), (PySem.W.mg_of X G ax27), kx27⟩⟩
  have SEK : GSteK l.prog w K mg base C := ⟨⟨fx28, fnx_kwS (n := 0) (ks := ["stage", "schedule"]) Fx28 q_stage_end (fun _ _ _ _ _ _ us ws h1 h2 => match us, ws, h1, h2 with | [], [_, _], _, _ => rfl) (fun ds M R h => by obtain ⟨S, h, rfl, _⟩ := h; rfl) (b_stage_end NS NH SZ EO), (PySem.W.mg_of X G ax28), kx28⟩⟩
  have Fx29 := fd_mk (st := s__law_next) lx29 cx29 kx29
  have HN : GNx l.prog w K mg base := gd_pos Fx29 q__law_next (fun _ _ _ _ _ _ us hl => match us, hl with | [_, _], _ => rfl) (fun ds M R h => by obtain ⟨a, i, N, n, rfl, _⟩ := h; rfl) (b__law_next B) (PySem.W.mg_of X G ax29)
  have Fx30 := fd_mk (st := s__law_row) lx30 cx30 kx30
  have HR : GRow l.prog w K mg base := gd_pos Fx30 q__law_row (fun _ _ _ _ _ _ us hl => match us, hl with | [_, _], _ => rfl) (fun ds M R h => by obtain ⟨p, i, N, lo, rfl, _⟩ := h; rfl) (b__law_row B HN) (PySem.W.mg_of X G ax30)
  have Fx31 := fd_mk (st := s__law_streams) lx31 cx31 kx31
  have HS : GSts l.prog w K mg base := gd_pos Fx31 q__law_streams (fun _ _ _ _ _ _ us hl => match us, hl with | [_], _ => rfl) (fun ds M R h => by obtain ⟨ns, rfl, _⟩ := h; rfl) (b__law_streams B) (PySem.W.mg_of X G ax31)
  have Fx32 := fd_mk (st := s__law_item) lx32 cx32 kx32
  have HI : GItL l.prog w K mg base := gd_pos Fx32 q__law_item (fun _ _ _ _ _ _ us hl => match us, hl with | [_, _], _ => rfl) (fun ds M R h => by obtain ⟨s, i, rfl, _⟩ := h; rfl) (b__law_item (k := 0) B) (PySem.W.mg_of X G ax32)
  have Fx33 := fd_mk (st := s__law_plan) lx33 cx33 kx33
  have HP : GPlan l.prog w K mg base C := gd_pos Fx33 q__law_plan (fun _ _ _ _ _ _ us hl => match us, hl with | [_, _], _ => rfl) (fun ds M R h => by obtain ⟨p, i, N, mo, rfl, _⟩ := h; rfl) (b__law_plan T MK (nx3 HN) (row3 HR)) (PySem.W.mg_of X G ax33)
  have Fx34 := fd_mk (st := s__law_branch) lx34 cx34 kx34
  have HB : ∀ h : Nat, Gd l.prog w K mg base (2 + h) "_law_branch" [] fun ds _ => aBr h ds := by
    intro h
    induction h with
    | zero => exact gd_pos (k := 1) Fx34 q__law_branch (fun _ _ _ _ _ _ us hl => match us, hl with | [_, _, _, _], _ => rfl) (fun ds M R h => by obtain ⟨kn, l', m, rfl, _⟩ := h; rfl) (b__law_branch (n := 1) (h := 0) B rfl HI fun h' e => by omega) (PySem.W.mg_of X G ax34)
    | succ h ih =>
      rw [show 2 + (h + 1) = (2 + h) + 1 by omega]
      exact gd_pos (k := 2 + h) Fx34 q__law_branch (fun _ _ _ _ _ _ us hl => match us, hl with | [_, _, _, _], _ => rfl) (fun ds M R h => by obtain ⟨kn, l', m, rfl, _⟩ := h; rfl) (b__law_branch (n := 2 + h) (h := h + 1) B (by omega) HI fun h' e => (show h = h' by omega) ▸ ih) (PySem.W.mg_of X G ax34)
  have Fx35 := fd_mk (st := s__law_sizes) lx35 cx35 kx35
  have HZ : GLsz l.prog w K mg base := gd_pos Fx35 q__law_sizes (fun _ _ _ _ _ _ us hl => match us, hl with | [_, _, _], _ => rfl) (fun ds M R h => by obtain ⟨kn, l', h, rfl, _⟩ := h; rfl) (b__law_sizes B HI) (PySem.W.mg_of X G ax35)
  have Fx36 := fd_mk (st := s__law_ends) lx36 cx36 kx36
  have HE : GLen l.prog w K mg base := gd_pos Fx36 q__law_ends (fun _ _ _ _ _ _ us hl => match us, hl with | [_, _, _], _ => rfl) (fun ds M R h => by obtain ⟨kn, s', l', h, rfl, _⟩ := h; rfl) (b__law_ends B HI) (PySem.W.mg_of X G ax36)
  have Fx37 := fd_mk (st := s__law_far_right) lx37 cx37 kx37
  have HF : GFar l.prog w K mg base C := gd_pos Fx37 q__law_far_right (fun _ _ _ _ _ _ us hl => match us, hl with | [_, _, _, _], _ => rfl) (fun ds M R h => by obtain ⟨S, n, h, rfl, _⟩ := h; rfl) (b__law_far_right DG (PySem.W.mg_none_of X G z12) BZ BZK SE SEK) (PySem.W.mg_of X G ax37)
  have Fx38 := fd_mk (st := s__law_low_right) lx38 cx38 kx38
  have HL : GLowR l.prog w K mg base C := gd_pos Fx38 q__law_low_right (fun _ _ _ _ _ _ us hl => match us, hl with | [_, _, _], _ => rfl) (fun ds M R h => by obtain ⟨kn, s', l', rfl, _⟩ := h; rfl) (b__law_low_right B BZ fun h _ => HB h) (PySem.W.mg_of X G ax38)
  have Fx39 := fd_mk (st := s__law_sum_right) lx39 cx39 kx39
  have HSR : GSumR l.prog w K mg base C := gd_pos Fx39 q__law_sum_right (fun _ _ _ _ _ _ us hl => match us, hl with | [_, _, _, _], _ => rfl) (fun ds M R h => by obtain ⟨S, T', m, h, rfl, _⟩ := h; rfl) (b__law_sum_right T BZ SE GO XT) (PySem.W.mg_of X G ax39)
  have Fx40 := fd_mk (st := s_law) lx40 cx40 kx40
  have e := hfa.symm.trans (PySem.W.mg_of X G ax40)
  cases e
  exact fnx_pos' (s0 := aLaw0) Fx40 q_law (fun _ _ _ _ _ _ us hl => match us, hl with | [_], _ => rfl) (fun ds M R h => by obtain ⟨ns, rfl, _⟩ := h; rfl) (b_law B NC T MK (gst3 HS) (nx3 HN) (row3 HR) HP HZ HE HF HL HSR)
end K09

open PySem PySem.W PyProof.Rows in
set_option maxHeartbeats 0 in
theorem PySem.Challenge.cw_nestcount_k09_whole_sizes_and_stages_holds : PySem.Challenge.rw_nestcount_k09_whole_sizes_and_stages.Holds := by
  w_on; o_law; k_head; (case hw => w_witness2)
  k_fill
  refine Ab.walk_x (l := PySem.Challenge.rw_nestcount_k09_whole_sizes_and_stages) (k := 10) rfl rfl ⟨rfl, by decide, by decide⟩ (fun w h Y => PySem.W.kIn_of Y) ?F
  case F =>
    intro w mg fa h KX G hmg
    refine' K09.allX KX G hmg ?u0 ?u1 ?u2 ?u3 ?aC ?pgC ?hdC ?poC ?saC ?mkC ?kcC ?nC0 ?nC1 ?nC2 ?e1C ?e2C ?e3C ?e4C ?e6C ?e7C ?ax1 ?lx1 ?cx1 ?kx1 ?d1 ?d2 ?ax2 ?lx2 ?cx2 ?kx2 ?dx2 ?ax3 ?lx3 ?cx3 ?kx3 ?ax4 ?lx4 ?cx4 ?kx4 ?ax5 ?lx5 ?cx5 ?kx5 ?ax6 ?lx6 ?cx6 ?kx6 ?ax7 ?lx7 ?cx7 ?kx7 ?ax8 ?lx8 ?cx8 ?kx8 ?ax9 ?lx9 ?cx9 ?kx9 ?rd ?ga ?ax10 ?bx10 ?lx10 ?cx10 ?kx10 ?ax11 ?ix11 ?lx11 ?cx11 ?kx11 ?ax12 ?lx12 ?cx12 ?kx12 ?ax13 ?lx13 ?cx13 ?kx13 ?ax14 ?lx14 ?cx14 ?kx14 ?ax15 ?ix15 ?lx15 ?cx15 ?kx15 ?ax16 ?ix16 ?lx16 ?cx16 ?kx16 ?ax17 ?ix17 ?lx17 ?cx17 ?kx17 ?ax18 ?ix18 ?lx18 ?cx18 ?kx18 ?ax19 ?gx19 ?tx19 ?bx19 ?lx19 ?cx19 ?kx19 ?ax20 ?gx20 ?tx20 ?bx20 ?lx20 ?cx20 ?kx20 ?ax21 ?gx21 ?tx21 ?bx21 ?lx21 ?cx21 ?kx21 ?aCN ?rCN ?gCN ?vCN ?ax22 ?lx22 ?cx22 ?kx22 ?ax23 ?lx23 ?cx23 ?kx23 ?ax24 ?lx24 ?cx24 ?kx24 ?ax25 ?lx25 ?cx25 ?kx25 ?ax26 ?lx26 ?cx26 ?kx26 ?ax27 ?lx27 ?cx27 ?kx27 ?ax28 ?lx28 ?cx28 ?kx28 ?dig ?ax29 ?lx29 ?cx29 ?kx29 ?ax30 ?lx30 ?cx30 ?kx30 ?ax31 ?lx31 ?cx31 ?kx31 ?ax32 ?lx32 ?cx32 ?kx32 ?ax33 ?lx33 ?cx33 ?kx33 ?ax34 ?lx34 ?cx34 ?kx34 ?ax35 ?lx35 ?cx35 ?kx35 ?ax36 ?lx36 ?cx36 ?kx36 ?ax37 ?lx37 ?cx37 ?kx37 ?ax38 ?lx38 ?cx38 ?kx38 ?ax39 ?lx39 ?cx39 ?kx39 ?ax40 ?lx40 ?cx40 ?kx40 ?z0 ?z1 ?z2 ?z3 ?z4 ?z5 ?z6 ?z7 ?z8 ?z9 ?z10 ?z11 ?z12 ?y1 ?y2
    (case u0 => k_is)
    (case u1 => k_is)
    (case u2 => k_is)
    (case u3 => k_is)
    (case aC => k_is)
    (case pgC => k_is)
    (case hdC => k_is)
    (case poC => k_is)
    (case saC => k_is)
    (case mkC => k_is)
    (case kcC => k_is)
    (case nC0 => k_is)
    (case nC1 => k_is)
    (case nC2 => k_is)
    (case e1C => k_is)
    (case e2C => k_is)
    (case e3C => k_is)
    (case e4C => k_is)
    (case e6C => k_is)
    (case e7C => k_is)
    (case ax1 => k_is)
    (case lx1 => k_is)
    (case cx1 => k_is)
    (case kx1 => k_is)
    (case d1 => k_is)
    (case d2 => k_is)
    (case ax2 => k_is)
    (case lx2 => k_is)
    (case cx2 => k_is)
    (case kx2 => k_is)
    (case dx2 => k_is)
    (case ax3 => k_is)
    (case lx3 => k_is)
    (case cx3 => k_is)
    (case kx3 => k_is)
    (case ax4 => k_is)
    (case lx4 => k_is)
    (case cx4 => k_is)
    (case kx4 => k_is)
    (case ax5 => k_is)
    (case lx5 => k_is)
    (case cx5 => k_is)
    (case kx5 => k_is)
    (case ax6 => k_is)
    (case lx6 => k_is)
    (case cx6 => k_is)
    (case kx6 => k_is)
    (case ax7 => k_is)
    (case lx7 => k_is)
    (case cx7 => k_is)
    (case kx7 => k_is)
    (case ax8 => k_is)
    (case lx8 => k_is)
    (case cx8 => k_is)
    (case kx8 => k_is)
    (case ax9 => k_is)
    (case lx9 => k_is)
    (case cx9 => k_is)
    (case kx9 => k_is)
    (case rd => k_is)
    (case ga => k_is)
    (case ax10 => k_is)
    (case bx10 => k_is)
    (case lx10 => k_is)
    (case cx10 => k_is)
    (case kx10 => k_is)
    (case ax11 => k_is)
    (case ix11 => k_is)
    (case lx11 => k_is)
    (case cx11 => k_is)
    (case kx11 => k_is)
    (case ax12 => k_is)
    (case lx12 => k_is)
    (case cx12 => k_is)
    (case kx12 => k_is)
    (case ax13 => k_is)
    (case lx13 => k_is)
    (case cx13 => k_is)
    (case kx13 => k_is)
    (case ax14 => k_is)
    (case lx14 => k_is)
    (case cx14 => k_is)
    (case kx14 => k_is)
    (case ax15 => k_is)
    (case ix15 => k_is)
    (case lx15 => k_is)
    (case cx15 => k_is)
    (case kx15 => k_is)
    (case ax16 => k_is)
    (case ix16 => k_is)
    (case lx16 => k_is)
    (case cx16 => k_is)
    (case kx16 => k_is)
    (case ax17 => k_is)
    (case ix17 => k_is)
    (case lx17 => k_is)
    (case cx17 => k_is)
    (case kx17 => k_is)
    (case ax18 => k_is)
    (case ix18 => k_is)
    (case lx18 => k_is)
    (case cx18 => k_is)
    (case kx18 => k_is)
    (case ax19 => k_is)
    (case gx19 => k_is)
    (case tx19 => k_is)
    (case bx19 => k_is)
    (case lx19 => k_is)
    (case cx19 => k_is)
    (case kx19 => k_is)
    (case ax20 => k_is)
    (case gx20 => k_is)
    (case tx20 => k_is)
    (case bx20 => k_is)
    (case lx20 => k_is)
    (case cx20 => k_is)
    (case kx20 => k_is)
    (case ax21 => k_is)
    (case gx21 => k_is)
    (case tx21 => k_is)
    (case bx21 => k_is)
    (case lx21 => k_is)
    (case cx21 => k_is)
    (case kx21 => k_is)
    (case aCN => k_is)
    (case rCN => k_is)
    (case gCN => k_is)
    (case vCN => k_is)
    (case ax22 => k_is)
    (case lx22 => k_is)
    (case cx22 => k_is)
    (case kx22 => k_is)
    (case ax23 => k_is)
    (case lx23 => k_is)
    (case cx23 => k_is)
    (case kx23 => k_is)
    (case ax24 => k_is)
    (case lx24 => k_is)
    (case cx24 => k_is)
    (case kx24 => k_is)
    (case ax25 => k_is)
    (case lx25 => k_is)
    (case cx25 => k_is)
    (case kx25 => k_is)
    (case ax26 => k_is)
    (case lx26 => k_is)
    (case cx26 => k_is)
    (case kx26 => k_is)
    (case ax27 => k_is)
    (case lx27 => k_is)
    (case cx27 => k_is)
    (case kx27 => k_is)
    (case ax28 => k_is)
    (case lx28 => k_is)
    (case cx28 => k_is)
    (case kx28 => k_is)
    (case dig => k_is)
    (case ax29 => k_is)
    (case lx29 => k_is)
    (case cx29 => k_is)
    (case kx29 => k_is)
    (case ax30 => k_is)
    (case lx30 => k_is)
    (case cx30 => k_is)
    (case kx30 => k_is)
    (case ax31 => k_is)
    (case lx31 => k_is)
    (case cx31 => k_is)
    (case kx31 => k_is)
    (case ax32 => k_is)
    (case lx32 => k_is)
    (case cx32 => k_is)
    (case kx32 => k_is)
    (case ax33 => k_is)
    (case lx33 => k_is)
    (case cx33 => k_is)
    (case kx33 => k_is)
    (case ax34 => k_is)
    (case lx34 => k_is)
    (case cx34 => k_is)
    (case kx34 => k_is)
    (case ax35 => k_is)
    (case lx35 => k_is)
    (case cx35 => k_is)
    (case kx35 => k_is)
    (case ax36 => k_is)
    (case lx36 => k_is)
    (case cx36 => k_is)
    (case kx36 => k_is)
    (case ax37 => k_is)
    (case lx37 => k_is)
    (case cx37 => k_is)
    (case kx37 => k_is)
    (case ax38 => k_is)
    (case lx38 => k_is)
    (case cx38 => k_is)
    (case kx38 => k_is)
    (case ax39 => k_is)
    (case lx39 => k_is)
    (case cx39 => k_is)
    (case kx39 => k_is)
    (case ax40 => k_is)
    (case lx40 => k_is)
    (case cx40 => k_is)
    (case kx40 => k_is)
    (case z0 => k_is)
    (case z1 => k_is)
    (case z2 => k_is)
    (case z3 => k_is)
    (case z4 => k_is)
    (case z5 => k_is)
    (case z6 => k_is)
    (case z7 => k_is)
    (case z8 => k_is)
    (case z9 => k_is)
    (case z10 => k_is)
    (case z11 => k_is)
    (case z12 => k_is)
    (case y1 => exact rfl)
    (case y2 => exact rfl)

