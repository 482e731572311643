import PyProof.Rows.All
import Wide.All
import OpenK.AllK
import Wide.FinOn
import HandS.ForMost
import HandS.Walk
import HandS.Flow
import HandS.Defaults
import HandS.Star
import HandS.MakeKwOnly
import HandS.Property
import HandS.ClsMeth
import HandS.IsInst
import HandS.TupAny
import HandS.SortInts
import HandS.Conv
import HandS.Exc
import HandS.Lambda
import KE.GoesEnum
import HandS.OwnEq
import PyProof.InstNe
import HandS.NoneIn
import HandS.TupMul
import HandS.Flt
import KE.DatumOrd
import HandS.NestedK
import HandS.GenCall
import PySem.Challenge.RW_nestcount_k13_whole_branches_alike
import HandS.Wide
import HandS.WideBits
import HandS.Style
import KE.KSuper
import HandS.ExcInit
import HandS.ExcField
import HandS.ExcOwn
import HandS.ExcValue
import KE.KExcInit
import KE.KTryMore
import HandS.TryMany
import KE.KExcIs
import HandS.ExcIs
import HandS.Zip
import HandS.GenBody
import HandS.GenYield
import HandS.GenList
import HandS.Iter
import KE.KStar
import HandS.MethStar
import KE.KParD
import HandS.DictComp
import HandS.ListItems
import KE.KIsAll
import HandS.Deep
import HandS.FStr
import KE.KCallOwn
import KE.KFmtOwn
import PyProof.InstSpecial
import HandS.List
import PyProof.EqAt
import KE.RegKSuper
set_option Elab.async false
set_option linter.all false
set_option maxRecDepth 100000
set_option maxHeartbeats 2000000
/-! Ab: an abstract state over HandS: values without addresses, a list of cells that may change; no heap is seen by a def's proof. -/
namespace Ab
open PySem PySem.Spec PyProof.Rows L2
/-- the object at b, as it stands -/
def rawH (b : Addr) (o : Obj) : HO := .ext fun h => h.get? b = some o
/-- all but raw things -/
def Kp (H H' : Hp) : Prop := ∀ b x, H b = some x → (∀ o, x ≠ rawH b o) → H' b = some x
theorem Kp.refl (H : Hp) : Kp H H := fun _ _ e _ => e
theorem Kp.same {H H' : Hp} (e : Same H H') : Kp H H' := fun b x h _ => e b x h
theorem Kp.trans {H H1 H2 : Hp} (a : Kp H H1) (b : Kp H1 H2) : Kp H H2 := fun c x h n => b c x (a c x h n) n
inductive Val where
  | non | bl (b : Bool) | int (i : Int) | str (x : Str) | ty (n : String) | ptr (a : Addr)
  | lst (xs : List Val) | tup (xs : List Val)
  | obj (C : Addr) (fs : List (Str × Val))
  | exc (C : Addr) (fs : List (Str × Val))
  /-- a lambda; what stood when it was made -/
  | lam (a : Addr) (H1 : Hp)
/-- a caught exception of the class at C, its dict -/
def exH (a C : Addr) (d : Option Addr) : HO := .ext fun h => ∃ (oe : Obj) (vs : Array Value), h.get? a = some oe ∧ Zc (.ref C) d oe ∧ oe.data = .fields vs
mutual
inductive Rep (K : PySem.W.Frag) (H : Hp) : Val → V → Prop
  | non : Rep K H .non .non
  | bl (b : Bool) : Rep K H (.bl b) (.bl b)
  | int (i : Int) : Rep K H (.int i) (.int i)
  | str (x : Str) : Rep K H (.str x) (.str x)
  | ty (n : String) : Rep K H (.ty n) (.ty n)
  | ptr (a : Addr) : Rep K H (.ptr a) (.ref a)
  | lst {a : Addr} {xs : List V} {ds : List Val} : SqL K H a xs → RepA K H ds xs → Rep K H (.lst ds) (.ref a)
  | tup {a : Addr} {xs : List V} {ds : List Val} : SqT K H a xs → RepA K H ds xs → Rep K H (.tup ds) (.ref a)
  | obj {a C dx : Addr} {gs : List (Str × V)} {fs : List (Str × Val)} : H a = some (.ins C dx gs) → RepF K H fs gs → Rep K H (.obj C fs) (.ref a)
  | exc {a C dd : Addr} {gs : List (Str × V)} {fs : List (Str × Val)} : H a = some (exH a C (some dd)) → H dd = some (.xd gs) → RepF K H fs gs → Rep K H (.exc C fs) (.ref a)
  | exc0 {a C : Addr} : H a = some (exH a C none) → Rep K H (.exc C []) (.ref a)
  | lam {a : Addr} {H1 : Hp} : Kp H1 H → Rep K H (.lam a H1) (.ref a)
inductive RepA (K : PySem.W.Frag) (H : Hp) : List Val → List V → Prop
  | nil : RepA K H [] []
  | cons {d : Val} {v : V} {ds : List Val} {vs : List V} : Rep K H d v → RepA K H ds vs → RepA K H (d :: ds) (v :: vs)
inductive RepF (K : PySem.W.Frag) (H : Hp) : List (Str × Val) → List (Str × V) → Prop
  | nil : RepF K H [] []
  | cons {f : Str} {d : Val} {v : V} {fs : List (Str × Val)} {gs : List (Str × V)} : Rep K H d v → RepF K H fs gs → RepF K H ((f, d) :: fs) ((f, v) :: gs)
end
theorem sameT {K : PySem.W.Frag} {H H' : Hp} {a : Addr} {xs : List V} (e : Same H H') (h : SqT K H a xs) : SqT K H' a xs := by
  rcases h with (h | ⟨o, h⟩) | h
  · exact .inl (.inl (e _ _ h))
  · exact .inl (.inr ⟨o, e _ _ h⟩)
  · exact .inr h
mutual
theorem Rep.mono {K : PySem.W.Frag} {H H' : Hp} (e : Same H H') : ∀ {d : Val} {v : V}, Rep K H d v → Rep K H' d v
  | _, _, .non => .non
  | _, _, .bl b => .bl b
  | _, _, .int i => .int i
  | _, _, .str x => .str x
  | _, _, .ty n => .ty n
  | _, _, .ptr a => .ptr a
  | _, _, .lst h r => .lst (e.seq h) (RepA.mono e r)
  | _, _, .tup h r => .tup (sameT e h) (RepA.mono e r)
  | _, _, .obj h r => .obj (e _ _ h) (RepF.mono e r)
  | _, _, .exc h d r => .exc (e _ _ h) (e _ _ d) (RepF.mono e r)
  | _, _, .exc0 h => .exc0 (e _ _ h)
  | _, _, .lam h => .lam (h.trans (.same e))
theorem RepA.mono {K : PySem.W.Frag} {H H' : Hp} (e : Same H H') : ∀ {ds : List Val} {vs : List V}, RepA K H ds vs → RepA K H' ds vs
  | _, _, .nil => .nil
  | _, _, .cons a r => .cons (Rep.mono e a) (RepA.mono e r)
theorem RepF.mono {K : PySem.W.Frag} {H H' : Hp} (e : Same H H') : ∀ {ds : List (Str × Val)} {vs : List (Str × V)}, RepF K H ds vs → RepF K H' ds vs
  | _, _, .nil => .nil
  | _, _, .cons a r => .cons (Rep.mono e a) (RepF.mono e r)
end
/-- fields, stored -/
def putV (f : Str) (v : Val) : List (Str × Val) → List (Str × Val)
  | [] => [(f, v)]
  | (g, x) :: r => if g = f then (g, v) :: r else (g, x) :: putV f v r
theorem RepF.lookup {K : PySem.W.Frag} {H : Hp} {f : Str} {d : Val} : ∀ {fs : List (Str × Val)} {gs : List (Str × V)}, RepF K H fs gs → fs.lookup f = some d → ∃ v, gs.lookup f = some v ∧ Rep K H d v
  | _, _, .nil, e => by cases e
  | (g, x) :: fs, _, .cons (v := v) (gs := gs) a r, e => by
    rw [List.lookup_cons] at e ⊢
    cases q : f == g with
    | true =>
      rw [q] at e
      cases e
      exact ⟨v, rfl, a⟩
    | false =>
      rw [q] at e
      exact RepF.lookup r e
theorem RepF.none {K : PySem.W.Frag} {H : Hp} {f : Str} : ∀ {fs : List (Str × Val)} {gs : List (Str × V)}, RepF K H fs gs → fs.lookup f = none → gs.lookup f = none
  | _, _, .nil, _ => rfl
  | (g, x) :: fs, _, .cons (v := v) (gs := gs) a r, e => by
    rw [List.lookup_cons] at e ⊢
    cases q : f == g with
    | true =>
      rw [q] at e
      cases e
    | false =>
      rw [q] at e
      exact RepF.none r e
theorem RepF.put {K : PySem.W.Frag} {H : Hp} {f : Str} {d : Val} {v : V} (hd : Rep K H d v) : ∀ {fs : List (Str × Val)} {gs : List (Str × V)}, RepF K H fs gs → RepF K H (putV f d fs) (putF f v gs)
  | _, _, .nil => .cons hd .nil
  | (g, x) :: fs, _, .cons (v := w) (gs := gs) a r => by
    unfold putV putF
    by_cases q : g = f
    · rw [if_pos q, if_pos q]
      exact .cons hd r
    · rw [if_neg q, if_neg q]
      exact .cons a (RepF.put hd r)
theorem RepF.length {K : PySem.W.Frag} {H : Hp} : ∀ {fs : List (Str × Val)} {gs : List (Str × V)}, RepF K H fs gs → fs.length = gs.length
  | _, _, .nil => rfl
  | _, _, .cons _ r => congrArg Nat.succ (RepF.length r)
/-- a dict's pairs -/
inductive RepK (K : PySem.W.Frag) (H : Hp) : List (Key × Val) → List (Key × V) → Prop
  | nil : RepK K H [] []
  | cons {f : Key} {d : Val} {v : V} {fs : List (Key × Val)} {gs : List (Key × V)} : Rep K H d v → RepK K H fs gs → RepK K H ((f, d) :: fs) ((f, v) :: gs)
theorem RepK.mono {K : PySem.W.Frag} {H H' : Hp} (e : Same H H') : ∀ {ds : List (Key × Val)} {vs : List (Key × V)}, RepK K H ds vs → RepK K H' ds vs
  | _, _, .nil => .nil
  | _, _, .cons a r => .cons (Rep.mono e a) (RepK.mono e r)
theorem RepK.length {K : PySem.W.Frag} {H : Hp} : ∀ {fs : List (Key × Val)} {gs : List (Key × V)}, RepK K H fs gs → fs.length = gs.length
  | _, _, .nil => rfl
  | _, _, .cons _ r => congrArg Nat.succ (RepK.length r)
def dGet : List (Key × Val) → Key → Option Val
  | [], _ => none
  | (g, x) :: r, k => if g = k then some x else dGet r k
def dPut (kvs : List (Key × Val)) (k : Key) (v : Val) : List (Key × Val) :=
  if (kvs.any fun kv => decide (kv.1 = k)) = true then kvs.map (fun kv => if kv.1 = k then (kv.1, v) else kv) else kvs ++ [(k, v)]
theorem RepK.any {K : PySem.W.Frag} {H : Hp} {k : Key} : ∀ {fs : List (Key × Val)} {gs : List (Key × V)}, RepK K H fs gs → (fs.any fun kv => decide (kv.1 = k)) = (gs.any fun kv => decide (kv.1 = k))
  | _, _, .nil => rfl
  | _, _, .cons a r => by
    rw [List.any_cons, List.any_cons, RepK.any r]
theorem RepK.maps {K : PySem.W.Frag} {H : Hp} {k : Key} {d : Val} {v : V} (hd : Rep K H d v) : ∀ {fs : List (Key × Val)} {gs : List (Key × V)}, RepK K H fs gs → RepK K H (fs.map (fun kv => if kv.1 = k then (kv.1, d) else kv)) (gs.map (fun kv => if kv.1 = k then (kv.1, v) else kv))
  | _, _, .nil => .nil
  | (g, x) :: _, _, .cons (v := w) a r => by
    rw [List.map_cons, List.map_cons]
    by_cases q : g = k
    · rw [if_pos q, if_pos q]
      exact .cons hd (RepK.maps hd r)
    · rw [if_neg q, if_neg q]
      exact .cons a (RepK.maps hd r)
theorem RepK.append {K : PySem.W.Frag} {H : Hp} : ∀ {fs fs' : List (Key × Val)} {gs gs' : List (Key × V)}, RepK K H fs gs → RepK K H fs' gs' → RepK K H (fs ++ fs') (gs ++ gs')
  | _, _, _, _, .nil, r => r
  | _, _, _, _, .cons a r, q => .cons a (RepK.append r q)
theorem RepK.put {K : PySem.W.Frag} {H : Hp} {k : Key} {d : Val} {v : V} (hd : Rep K H d v) {fs : List (Key × Val)} {gs : List (Key × V)} (r : RepK K H fs gs) : RepK K H (dPut fs k d) (putK gs k v) := by
  unfold dPut putK
  rw [r.any]
  by_cases q : (gs.any fun kv => decide (kv.1 = k)) = true
  · rw [if_pos q, if_pos q]
    exact r.maps hd
  · rw [if_neg q, if_neg q]
    exact r.append (.cons hd .nil)
theorem RepK.get {K : PySem.W.Frag} {H : Hp} {k : Key} {d : Val} : ∀ {fs : List (Key × Val)} {gs : List (Key × V)}, RepK K H fs gs → dGet fs k = some d → ∃ v, valV gs k = some v ∧ Rep K H d v
  | _, _, .nil, e => by cases e
  | (g, x) :: fs, _, .cons (v := v) (gs := gs) a r, e => by
    unfold dGet at e
    by_cases q : g = k
    · rw [if_pos q] at e
      cases e
      exact ⟨v, valV_pos q, a⟩
    · rw [if_neg q] at e
      rw [valV_neg (p := (g, v)) q]
      exact RepK.get r e
section
variable {K : PySem.W.Frag} {H H' : Hp}
theorem RepA.length : ∀ {ds : List Val} {vs : List V}, RepA K H ds vs → ds.length = vs.length
  | _, _, .nil => rfl
  | _, _, .cons _ r => congrArg Nat.succ (RepA.length r)
theorem RepA.get : ∀ {ds : List Val} {vs : List V} {i : Nat} {d : Val}, RepA K H ds vs → ds[i]? = some d → ∃ v, vs[i]? = some v ∧ Rep K H d v
  | _, _, _, _, .nil, e => by simp at e
  | _, _, 0, _, .cons r _, e => by simp at e; subst e; exact ⟨_, rfl, r⟩
  | _, _, i + 1, d, .cons _ t, e => by
    obtain ⟨u, h1, h2⟩ := RepA.get (i := i) (d := d) t (by simpa using e)
    exact ⟨u, by simpa using h1, h2⟩
theorem RepA.getV : ∀ {ds : List Val} {vs : List V} {i : Nat} {v : V}, RepA K H ds vs → vs[i]? = some v → ∃ d, ds[i]? = some d ∧ Rep K H d v
  | _, _, _, _, .nil, e => by simp at e
  | _, _, 0, _, .cons r _, e => by simp at e; subst e; exact ⟨_, rfl, r⟩
  | _, _, i + 1, d, .cons _ t, e => by
    obtain ⟨u, h1, h2⟩ := RepA.getV (i := i) (v := d) t (by simpa using e)
    exact ⟨u, by simpa using h1, h2⟩
theorem RepA.append : ∀ {ds es : List Val} {vs ws : List V}, RepA K H ds vs → RepA K H es ws → RepA K H (ds ++ es) (vs ++ ws)
  | _, _, _, _, .nil, s => s
  | _, _, _, _, .cons r t, s => .cons r (RepA.append t s)
theorem RepA.set {d : Val} {v : V} (r : Rep K H d v) : ∀ {ds : List Val} {vs : List V} (i : Nat), RepA K H ds vs → RepA K H (ds.set i d) (vs.set i v)
  | _, _, _, .nil => .nil
  | _, _, 0, .cons _ t => .cons r t
  | _, _, i + 1, .cons q t => .cons q (RepA.set r i t)
theorem RepA.take : ∀ {ds : List Val} {vs : List V} (n : Nat), RepA K H ds vs → RepA K H (ds.take n) (vs.take n)
  | _, _, 0, _ => .nil
  | _, _, _ + 1, .nil => .nil
  | _, _, n + 1, .cons r t => .cons r (RepA.take n t)
theorem RepA.drop : ∀ {ds : List Val} {vs : List V} (n : Nat), RepA K H ds vs → RepA K H (ds.drop n) (vs.drop n)
  | _, _, 0, r => r
  | _, _, _ + 1, .nil => .nil
  | _, _, n + 1, .cons _ t => RepA.drop n t
theorem RepA.ofInts : ∀ (ns : List Int), RepA K H (ns.map Val.int) (ns.map V.int)
  | [] => .nil
  | n :: ns => .cons (.int n) (RepA.ofInts ns)
theorem RepA.bls : ∀ {ns : List Bool} {vs : List V}, RepA K H (ns.map Val.bl) vs → vs = ns.map V.bl
  | [], _, .nil => rfl
  | _ :: ns, _, .cons (.bl _) t => by rw [RepA.bls (ns := ns) t, List.map_cons]
end
/-! ### what may change -/
inductive Cell0 where
  | lst (xs : List Val)
  | dk (kvs : List (Key × Val))
  | ins (C : Addr) (fs : List (Str × Val))
  /-- a dict while it is known to the object (a loop walks it) -/
  | fz (od : Obj) (kvs : List (Key × V)) (ds : List (Key × Val))
  /-- a table of code objects, all of the name q -/
  | tb (q : Str)
abbrev Mem0 := List (Addr × Cell0)
/-- a cell, or a box: some cells of which only phi is told -/
inductive Cell where
  | b (c : Cell0)
  | box (φ : Mem0 → Prop)
abbrev Cell.lst (xs : List Val) : Cell := .b (.lst xs)
abbrev Cell.dk (kvs : List (Key × Val)) : Cell := .b (.dk kvs)
abbrev Cell.ins (C : Addr) (fs : List (Str × Val)) : Cell := .b (.ins C fs)
def RepC (K : PySem.W.Frag) (H : Hp) : Cell0 → HO → Prop
  | .lst ds, o => ∃ xs, o = .lst xs ∧ RepA K H ds xs
  | .dk ds, o => ∃ kvs : List (Key × V), o = .dK kvs ∧ RepK K H ds kvs
  | .ins C ds, o => ∃ dx fs, o = .ins C dx fs ∧ RepF K H ds fs
  | .fz od kvs ds, o => o = .frz od (.dK kvs) ∧ RepK K H ds kvs
  | .tb q, o => ∃ ps : Array Value, o = .tbl ps ∧ TriplesOk ps.toList ∧ ∀ (pos : Pos) (cv : Value), codeAmong pos ps.toList = some cv → ∃ c, cv = .ref c ∧ H c = some (LamX.CodeO c q)
theorem RepC.mono {K : PySem.W.Frag} {H H' : Hp} (e : Same H H') : ∀ {c : Cell0} {o : HO}, RepC K H c o → RepC K H' c o
  | .lst _, _, ⟨xs, h, r⟩ => ⟨xs, h, r.mono e⟩
  | .dk _, _, ⟨kvs, h, r⟩ => ⟨kvs, h, r.mono e⟩
  | .ins _ _, _, ⟨dx, fs, h, r⟩ => ⟨dx, fs, h, r.mono e⟩
  | .fz _ _ _, _, ⟨h, r⟩ => ⟨h, r.mono e⟩
  | .tb _, _, ⟨ps, h, t, r⟩ => ⟨ps, h, t, fun pos cv hc => let ⟨c, h1, h2⟩ := r pos cv hc; ⟨c, h1, e _ _ h2⟩⟩
abbrev Mem := List (Addr × Cell)
/-- Hi: what never changes; F: the cells -/
structure Ok0 (K : PySem.W.Frag) (Hi : Hp) (F : Mem0) (H : Hp) : Prop where
  im : Same Hi H
  ce : ∀ a c, (a, c) ∈ F → Hi a = none ∧ ∃ o, H a = some o ∧ RepC K Hi c o
  nd : (F.map (·.1)).Nodup
/-- the cells of an entry -/
def Opn (p : Addr) : Cell → Mem0 → Prop
  | .b c, B => B = [(p, c)]
  | .box φ, B => φ B ∧ p ∈ B.map (·.1)
inductive Flat : Mem → Mem0 → Prop
  | nil : Flat [] []
  | cons {p : Addr} {c : Cell} {M : Mem} {B F : Mem0} : Opn p c B → Flat M F → Flat ((p, c) :: M) (B ++ F)
def Ok (K : PySem.W.Frag) (Hi : Hp) (M : Mem) (H : Hp) : Prop := ∃ F, Flat M F ∧ Ok0 K Hi F H
theorem same_upd {H : Hp} {p : Addr} {o : HO} (h : H p = none) : Same H (upd H p o) := fun b x e => by
  rw [upd_ne (ne_of_none e h)]
  exact e
section
variable {K : PySem.W.Frag} {Hi Hi' H H' : Hp} {F F' : Mem0} {a p : Addr} {c c' : Cell0} {o : HO}
theorem Ok0.none (k : Ok0 K Hi F H) (h : H p = Option.none) : Hi p = Option.none := k.im.free h
theorem Ok0.notin (k : Ok0 K Hi F H) (h : H p = Option.none) : ∀ c, (p, c) ∉ F := fun c hm => by
  obtain ⟨_, o, e, _⟩ := k.ce p c hm
  rw [h] at e
  cases e
theorem Ok0.fresh (k : Ok0 K Hi F H) (h : H p = Option.none) : p ∉ F.map (·.1) := fun hm => by
  obtain ⟨⟨q, c⟩, h1, h2⟩ := List.mem_map.mp hm
  have e : q = p := h2
  subst e
  exact k.notin h c h1
theorem Ok0.imm (k : Ok0 K Hi F H) (h : H p = Option.none) : Ok0 K (upd Hi p o) F (upd H p o) where
  im := fun b x e => by
    by_cases hb : b = p
    · subst hb
      rw [upd_same] at e ⊢
      exact e
    · rw [upd_ne hb] at e ⊢
      exact k.im b x e
  ce := fun a c hm => by
    obtain ⟨e0, o', e, r⟩ := k.ce a c hm
    have hb : a ≠ p := fun z => k.notin h c (z ▸ hm)
    refine ⟨by rw [upd_ne hb]; exact e0, o', by rw [upd_ne hb]; exact e, r.mono (same_upd (k.none h))⟩
  nd := k.nd
theorem Ok0.new (k : Ok0 K Hi F H) (h : H p = Option.none) (r : RepC K Hi c o) : Ok0 K Hi ((p, c) :: F) (upd H p o) where
  im := fun b x e => by
    have hb : b ≠ p := fun z => by
      subst z
      rw [k.none h] at e
      cases e
    rw [upd_ne hb]
    exact k.im b x e
  ce := fun a c' hm => by
    rcases List.mem_cons.mp hm with e | hm
    · cases e
      exact ⟨k.none h, o, upd_same, r⟩
    · obtain ⟨e0, o', e, r'⟩ := k.ce a c' hm
      have hb : a ≠ p := fun z => k.notin h c' (z ▸ hm)
      exact ⟨e0, o', by rw [upd_ne hb]; exact e, r'⟩
  nd := by
    rw [List.map_cons]
    exact List.nodup_cons.mpr ⟨k.fresh h, k.nd⟩
theorem Ok0.perm (k : Ok0 K Hi F H) (s : F'.Perm F) : Ok0 K Hi F' H := ⟨k.im, fun a c h => k.ce a c (s.subset h), (s.map _).nodup_iff.mpr k.nd⟩
theorem Ok0.sub (k : Ok0 K Hi F H) (s : F'.Sublist F) : Ok0 K Hi F' H := ⟨k.im, fun a c h => k.ce a c (s.subset h), k.nd.sublist (s.map _)⟩
/-- the first cell is written -/
theorem Ok0.set (k : Ok0 K Hi ((a, c) :: F) H) (r : RepC K Hi c' o) : Ok0 K Hi ((a, c') :: F) (upd H a o) where
  im := fun b x e => by
    have hb : b ≠ a := fun z => by
      subst z
      rw [(k.ce b c List.mem_cons_self).1] at e
      cases e
    rw [upd_ne hb]
    exact k.im b x e
  ce := fun b d hm => by
    have nd := k.nd
    rw [List.map_cons] at nd
    rcases List.mem_cons.mp hm with e | hm2
    · cases e
      exact ⟨(k.ce a c List.mem_cons_self).1, o, upd_same, r⟩
    · have hb : b ≠ a := fun z => by
        subst z
        exact (List.nodup_cons.mp nd).1 (List.mem_map.mpr ⟨(b, d), hm2, rfl⟩)
      obtain ⟨e0, o', e, r'⟩ := k.ce b d (List.mem_cons_of_mem _ hm2)
      exact ⟨e0, o', by rw [upd_ne hb]; exact e, r'⟩
  nd := k.nd
/-- the first cell will change no more -/
theorem Ok0.freeze (k : Ok0 K Hi ((p, c) :: F) H) (h : H p = some o) : Ok0 K (upd Hi p o) F H where
  im := fun b x e => by
    by_cases hb : b = p
    · subst hb
      rw [upd_same] at e
      rw [h]
      exact e
    · rw [upd_ne hb] at e
      exact k.im b x e
  ce := fun a d hm => by
    obtain ⟨e0, o', e, r⟩ := k.ce a d (List.mem_cons_of_mem _ hm)
    have nd := k.nd
    rw [List.map_cons] at nd
    have hb : a ≠ p := fun z => by
      subst z
      exact (List.nodup_cons.mp nd).1 (List.mem_map.mpr ⟨(a, d), hm, rfl⟩)
    exact ⟨by rw [upd_ne hb]; exact e0, o', e, r.mono (same_upd (k.ce p c List.mem_cons_self).1)⟩
  nd := by
    have nd := k.nd
    rw [List.map_cons] at nd
    exact (List.nodup_cons.mp nd).2
end
theorem Flat.append : ∀ {M M' : Mem} {F F' : Mem0}, Flat M F → Flat M' F' → Flat (M ++ M') (F ++ F')
  | _, _, _, _, .nil, q => q
  | _, _, _, _, .cons (B := B) (F := F) o r, q => by
    rw [List.append_assoc]
    exact .cons o (r.append q)
theorem Flat.split : ∀ {M M' : Mem} {F : Mem0}, Flat (M ++ M') F → ∃ F1 F2, F = F1 ++ F2 ∧ Flat M F1 ∧ Flat M' F2
  | [], _, F, h => ⟨[], F, rfl, .nil, h⟩
  | (p, c) :: M, M', _, .cons (B := B) (F := F) o r => by
    obtain ⟨F1, F2, rfl, h1, h2⟩ := Flat.split r
    exact ⟨B ++ F1, F2, by rw [List.append_assoc], .cons o h1, h2⟩
theorem Flat.one {p : Addr} {c : Cell0} {M : Mem} {F : Mem0} (h : Flat M F) : Flat ((p, .b c) :: M) ((p, c) :: F) := .cons (B := [(p, c)]) rfl h
theorem Flat.mem {p : Addr} {c : Cell} : ∀ {M : Mem} {F : Mem0}, Flat M F → (p, c) ∈ M → ∃ B, Opn p c B ∧ B.Sublist F
  | _, _, .nil, h => nomatch h
  | _, _, .cons (B := B) (F := F) o r, h => by
    rcases List.mem_cons.mp h with e | h
    · cases e
      exact ⟨B, o, List.sublist_append_left _ _⟩
    · obtain ⟨B', h1, h2⟩ := r.mem h
      exact ⟨B', h1, h2.trans (List.sublist_append_right _ _)⟩
theorem Flat.perm {M M' : Mem} (s : M.Perm M') : ∀ {F : Mem0}, Flat M F → ∃ F', Flat M' F' ∧ F'.Perm F := by
  induction s with
  | nil => exact fun h => ⟨_, h, .refl _⟩
  | cons x _ ih =>
    intro F h
    cases h with
    | cons o r =>
      obtain ⟨F', h1, h2⟩ := ih r
      exact ⟨_, .cons o h1, h2.append_left _⟩
  | swap x y l =>
    intro F h
    cases h with
    | cons o r =>
      cases r with
      | cons o2 r2 =>
        refine ⟨_, .cons o2 (.cons o r2), ?_⟩
        rw [← List.append_assoc, ← List.append_assoc]
        exact List.perm_append_comm.append_right _
  | trans _ _ ih1 ih2 =>
    intro F h
    obtain ⟨F', h1, h2⟩ := ih1 h
    obtain ⟨F'', h3, h4⟩ := ih2 h1
    exact ⟨F'', h3, h4.trans h2⟩
theorem Flat.sub {M M' : Mem} (s : M'.Sublist M) : ∀ {F : Mem0}, Flat M F → ∃ F', Flat M' F' ∧ F'.Sublist F := by
  induction s with
  | slnil => exact fun h => ⟨_, h, .refl _⟩
  | cons x _ ih =>
    intro F h
    cases h with
    | cons o r =>
      obtain ⟨F', h1, h2⟩ := ih r
      exact ⟨F', h1, h2.trans (List.sublist_append_right _ _)⟩
  | cons_cons x _ ih =>
    intro F h
    cases h with
    | cons o r =>
      obtain ⟨F', h1, h2⟩ := ih r
      exact ⟨_, .cons o h1, (List.append_sublist_append_left _).mpr h2⟩
section
variable {K : PySem.W.Frag} {Hi Hi' H H' : Hp} {M M' : Mem} {a p : Addr} {c c' : Cell0} {x : Cell} {o : HO} {B : Mem0} {φ : Mem0 → Prop}
theorem Ok.im (k : Ok K Hi M H) : Same Hi H := by
  obtain ⟨F, _, k⟩ := k
  exact k.im
theorem Ok.ce (k : Ok K Hi M H) : ∀ a c, (a, Cell.b c) ∈ M → Hi a = none ∧ ∃ o, H a = some o ∧ RepC K Hi c o := fun a c h => by
  obtain ⟨F, f, k⟩ := k
  obtain ⟨B, h1, h2⟩ := f.mem h
  have h1 : B = [(a, c)] := h1
  subst h1
  exact k.ce a c (h2.subset List.mem_cons_self)
theorem Ok.none (k : Ok K Hi M H) (h : H p = Option.none) : Hi p = Option.none := k.im.free h
theorem Ok.notin (k : Ok K Hi M H) (h : H p = Option.none) : ∀ c, (p, c) ∉ M := fun c hm => by
  obtain ⟨F, f, k⟩ := k
  obtain ⟨B, h1, h2⟩ := f.mem hm
  have hp : p ∈ B.map (·.1) := by
    cases c with
    | b c =>
      have h1 : B = [(p, c)] := h1
      subst h1
      exact List.mem_cons_self
    | box φ => exact h1.2
  exact k.fresh h ((h2.map _).subset hp)
theorem Ok.fresh (k : Ok K Hi M H) (h : H p = Option.none) : p ∉ M.map (·.1) := fun hm => by
  obtain ⟨⟨q, c⟩, h1, h2⟩ := List.mem_map.mp hm
  have e : q = p := h2
  subst e
  exact k.notin h c h1
/-- a new object that never changes -/
theorem Ok.imm (k : Ok K Hi M H) (h : H p = Option.none) : Ok K (upd Hi p o) M (upd H p o) := by
  obtain ⟨F, f, k⟩ := k
  exact ⟨F, f, k.imm h⟩
/-- a new cell -/
theorem Ok.new (k : Ok K Hi M H) (h : H p = Option.none) (r : RepC K Hi c o) : Ok K Hi ((p, .b c) :: M) (upd H p o) := by
  obtain ⟨F, f, k⟩ := k
  exact ⟨_, f.one, k.new h r⟩
theorem Ok.get {i : Nat} (k : Ok K Hi M H) (h : M[i]? = some (a, .b c)) : Hi a = Option.none ∧ ∃ o, H a = some o ∧ RepC K Hi c o := k.ce a c (List.mem_of_getElem? h)
theorem Ok.perm (k : Ok K Hi M H) (s : M'.Perm M) : Ok K Hi M' H := by
  obtain ⟨F, f, k⟩ := k
  obtain ⟨F', f', q⟩ := f.perm s.symm
  exact ⟨F', f', k.perm q⟩
theorem Ok.sub (k : Ok K Hi M H) (s : M'.Sublist M) : Ok K Hi M' H := by
  obtain ⟨F, f, k⟩ := k
  obtain ⟨F', f', q⟩ := f.sub s
  exact ⟨F', f', k.sub q⟩
theorem perm_at {α : Type} {M : List α} {i : Nat} {x : α} (h : M[i]? = some x) : M.Perm (x :: M.eraseIdx i) := by
  induction M generalizing i with
  | nil => cases h
  | cons y M ih =>
    cases i with
    | zero =>
      cases h
      exact .refl _
    | succ i =>
      rw [List.eraseIdx_cons_succ]
      exact ((ih h).cons y).trans (.swap x y _)
theorem perm_set {α : Type} {M : List α} {i : Nat} {x y : α} (h : M[i]? = some x) : (M.set i y).Perm (y :: M.eraseIdx i) := by
  induction M generalizing i with
  | nil => cases h
  | cons z M ih =>
    cases i with
    | zero => exact .refl _
    | succ i =>
      rw [List.eraseIdx_cons_succ, List.set_cons_succ]
      exact ((ih h).cons z).trans (.swap y z _)
/-- a cell is written -/
theorem Ok.set {i : Nat} (k : Ok K Hi M H) (h : M[i]? = some (a, .b c)) (r : RepC K Hi c' o) : Ok K Hi (M.set i (a, .b c')) (upd H a o) := by
  obtain ⟨F, f, k⟩ := k.perm (perm_at h).symm
  refine Ok.perm ?_ (perm_set (y := (a, Cell.b c')) h)
  cases f with
  | cons o f =>
    have o : _ = [(a, c)] := o
    subst o
    exact ⟨_, f.one, Ok0.set k r⟩
/-- the first cell will change no more -/
theorem Ok.freeze (k : Ok K Hi ((p, .b c) :: M) H) (h : H p = some o) : Ok K (upd Hi p o) M H := by
  obtain ⟨F, f, k⟩ := k
  cases f with
  | cons q f =>
    have q : _ = [(p, c)] := q
    subst q
    exact ⟨_, f, Ok0.freeze k h⟩
theorem Ok.tail {c : Cell} (k : Ok K Hi ((p, c) :: M) H) : Ok K Hi M H := k.sub (List.sublist_cons_self _ _)
theorem Ok.all (H : Hp) : Ok K H [] H := ⟨[], .nil, Same.refl H, (fun _ _ h => nomatch h), List.nodup_nil⟩
/-- the cells of a list of cells -/
abbrev bs (B : Mem0) : Mem := B.map fun x => (x.1, Cell.b x.2)
theorem Flat.bs : ∀ B : Mem0, Flat (bs B) B
  | [] => .nil
  | (_, _) :: B => (Flat.bs B).one
theorem Flat.ofBs : ∀ {B F : Mem0}, Flat (Ab.bs B) F → F = B
  | [], _, .nil => rfl
  | (p, c) :: B, _, .cons o r => by
    have o : _ = [(p, c)] := o
    subst o
    rw [Flat.ofBs r]
    rfl
/-- a box is opened, closed -/
theorem Ok.opn {i : Nat} (k : Ok K Hi M H) (h : M[i]? = some (p, .box φ)) : ∃ B, φ B ∧ p ∈ B.map (·.1) ∧ Ok K Hi (bs B ++ M.eraseIdx i) H := by
  obtain ⟨F, f, k⟩ := k.perm (perm_at h).symm
  cases f with
  | cons o f => exact ⟨_, o.1, o.2, _, (Flat.bs _).append f, k⟩
theorem Ok.cls (k : Ok K Hi (bs B ++ M) H) (h : φ B) (hp : p ∈ B.map (·.1)) : Ok K Hi ((p, .box φ) :: M) H := by
  obtain ⟨F, f, k⟩ := k
  obtain ⟨F1, F2, rfl, h1, h2⟩ := f.split
  rw [Flat.ofBs h1] at k
  exact ⟨_, .cons (show Opn p (.box φ) B from ⟨h, hp⟩) h2, k⟩
theorem Ok.clsAt {i : Nat} (k : Ok K Hi (bs B ++ M.eraseIdx i) H) (hi : M[i]? = some (p, x)) (h : φ B) (hp : p ∈ B.map (·.1)) : Ok K Hi (M.set i (p, .box φ)) H :=
  (k.cls h hp).perm (perm_set hi)
end
/-! ### slots -/
abbrev Gam := List (Option Val)
def EnvR (K : PySem.W.Frag) (H : Hp) (Γ : Gam) (σ : L2.St) : Prop := Γ.length = σ.length ∧ ∀ (i : Nat) (d : Val), Γ[i]? = some (some d) → ∃ v, σ[i]? = some (some v) ∧ Rep K H d v
theorem EnvR.mono {K : PySem.W.Frag} {H H' : Hp} {Γ : Gam} {σ : L2.St} (h : EnvR K H Γ σ) (e : Same H H') : EnvR K H' Γ σ := ⟨h.1, fun i d q => by
  obtain ⟨v, h1, h2⟩ := h.2 i d q
  exact ⟨v, h1, h2.mono e⟩⟩
theorem EnvR.set {K : PySem.W.Frag} {H : Hp} {Γ : Gam} {σ : L2.St} {i : Nat} {d : Val} {v : V} (h : EnvR K H Γ σ) (r : Rep K H d v) : EnvR K H (Γ.set i (some d)) (σ.set i (some v)) := by
  refine ⟨by rw [List.length_set, List.length_set]; exact h.1, fun j e q => ?_⟩
  by_cases hij : i = j
  · subst hij
    by_cases hl : i < Γ.length
    · rw [List.getElem?_set_self hl] at q
      cases q
      exact ⟨v, List.getElem?_set_self (h.1 ▸ hl), r⟩
    · rw [List.getElem?_eq_none_iff.mpr (by rw [List.length_set]; omega)] at q
      cases q
  · rw [List.getElem?_set_ne hij] at q
    obtain ⟨w, h1, h2⟩ := h.2 j e q
    exact ⟨w, by rw [List.getElem?_set_ne hij]; exact h1, h2⟩
theorem EnvR.drop {K : PySem.W.Frag} {H : Hp} {Γ Γ' : Gam} {σ : L2.St} (h : EnvR K H Γ σ) (hl : Γ'.length = Γ.length) (w : ∀ (i : Nat) (d : Val), Γ'[i]? = some (some d) → Γ[i]? = some (some d)) : EnvR K H Γ' σ := ⟨hl.trans h.1, fun i d q => h.2 i d (w i d q)⟩
/-! ### the readings that always fit -/
def WE (X : Cx) (e : Expr) : TE := fun σ H Q => ∃ t, PE X e t ∧ t σ H Q
def WT (X : Cx) (e : Expr) : TT := fun σ H Q => ∃ t, PT X e t ∧ t σ H Q
def WA (X : Cx) (es : List Expr) : TA := fun σ H Q => ∃ t, PA X es t ∧ t σ H Q
def WS (X : Cx) (s : Stmt) : TS := fun D σ H => ∃ t, PS X s t ∧ t D σ H
def WB (X : Cx) (s : List Stmt) : TS := fun D σ H => ∃ t, PSs X s t ∧ t D σ H
section
variable {X : Cx}
theorem pe_we {e : Expr} : PE X e (WE X e) := ⟨fun pins s σ H Q I ⟨t, p, h⟩ => p.run pins s σ H Q I h⟩
theorem pt_wt {e : Expr} : PT X e (WT X e) := ⟨fun pins s σ H Q I ⟨t, p, h⟩ => p.run pins s σ H Q I h⟩
theorem pa_wa {es : List Expr} : PA X es (WA X es) := ⟨fun pos pins s σ H Q I ⟨t, p, h⟩ => p.run pos pins s σ H Q I h⟩
theorem ps_ws {s : Stmt} : PS X s (WS X s) := ⟨fun pins s σ H D I ⟨t, p, h⟩ => p.run pins s σ H D I h⟩
theorem pss_wb {s : List Stmt} : PSs X s (WB X s) := ⟨fun pins s σ H D I ⟨t, p, h⟩ => p.run pins s σ H D I h⟩
end
/-! ### the judgements: what a piece does to values and cells -/
def Post (K : PySem.W.Frag) (Hi : Hp) (P : Val → Mem → Prop) (Q : VK) : Prop := ∀ d M' v Hi' H', P d M' → Same Hi Hi' → Ok K Hi' M' H' → Rep K Hi' d v → Q v H'
def PostA (K : PySem.W.Frag) (Hi : Hp) (P : List Val → Mem → Prop) (Q : List V → Hp → Prop) : Prop := ∀ d M' v Hi' H', P d M' → Same Hi Hi' → Ok K Hi' M' H' → RepA K Hi' d v → Q v H'
def PostT (K : PySem.W.Frag) (Hi : Hp) (P : Bool → Mem → Prop) (Q : Bool → Hp → Prop) : Prop := ∀ b M' Hi' H', P b M' → Same Hi Hi' → Ok K Hi' M' H' → Q b H'
theorem Post.up {K : PySem.W.Frag} {Hi Hi1 : Hp} {P : Val → Mem → Prop} {Q : VK} (h : Post K Hi P Q) (e : Same Hi Hi1) : Post K Hi1 P Q := fun d M' v Hi' H' p s => h d M' v Hi' H' p (e.trans s)
theorem PostT.up {K : PySem.W.Frag} {Hi Hi1 : Hp} {P : Bool → Mem → Prop} {Q : Bool → Hp → Prop} (h : PostT K Hi P Q) (e : Same Hi Hi1) : PostT K Hi1 P Q := fun b M' Hi' H' p s => h b M' Hi' H' p (e.trans s)
theorem PostA.up {K : PySem.W.Frag} {Hi Hi1 : Hp} {P : List Val → Mem → Prop} {Q : List V → Hp → Prop} (h : PostA K Hi P Q) (e : Same Hi Hi1) : PostA K Hi1 P Q := fun d M' v Hi' H' p s => h d M' v Hi' H' p (e.trans s)
def aE (X : Cx) (e : Expr) (Γ : Gam) (M : Mem) (P : Val → Mem → Prop) : Prop := ∀ Hi H σ, Ok X.K Hi M H → EnvR X.K Hi Γ σ → ∀ Q : VK, Post X.K Hi P Q → WE X e σ H Q
def aT (X : Cx) (e : Expr) (Γ : Gam) (M : Mem) (P : Bool → Mem → Prop) : Prop := ∀ Hi H σ, Ok X.K Hi M H → EnvR X.K Hi Γ σ → ∀ Q, PostT X.K Hi P Q → WT X e σ H Q
def aA (X : Cx) (es : List Expr) (Γ : Gam) (M : Mem) (P : List Val → Mem → Prop) : Prop := ∀ Hi H σ, Ok X.K Hi M H → EnvR X.K Hi Γ σ → ∀ Q, PostA X.K Hi P Q → WA X es σ H Q
abbrev aV (X : Cx) (e : Expr) (Γ : Gam) (M : Mem) (d : Val) : Prop := aE X e Γ M fun x M' => x = d ∧ M' = M
abbrev aB (X : Cx) (e : Expr) (Γ : Gam) (M : Mem) (b : Bool) : Prop := aT X e Γ M fun x M' => x = b ∧ M' = M
abbrev aVs (X : Cx) (es : List Expr) (Γ : Gam) (M : Mem) (ds : List Val) : Prop := aA X es Γ M fun x M' => x = ds ∧ M' = M
/-- what is wanted behind a statement -/
structure AK where
  nx : Gam → Mem → Prop
  rt : Val → Mem → Prop
  bk : Gam → Mem → Prop := fun _ _ => False
  ct : Gam → Mem → Prop := fun _ _ => False
structure Real (K : PySem.W.Frag) (Hi : Hp) (k : AK) (D : Ends) : Prop where
  nx : ∀ Γ M σ Hi' H', k.nx Γ M → Same Hi Hi' → Ok K Hi' M H' → EnvR K Hi' Γ σ → D.nx σ H'
  rt : ∀ d M v Hi' H', k.rt d M → Same Hi Hi' → Ok K Hi' M H' → Rep K Hi' d v → D.rt v H'
  bk : ∀ Γ M σ Hi' H', k.bk Γ M → Same Hi Hi' → Ok K Hi' M H' → EnvR K Hi' Γ σ → D.bk σ H'
  ct : ∀ Γ M σ Hi' H', k.ct Γ M → Same Hi Hi' → Ok K Hi' M H' → EnvR K Hi' Γ σ → D.ct σ H'
theorem Real.up {K : PySem.W.Frag} {Hi Hi1 : Hp} {k : AK} {D : Ends} (h : Real K Hi k D) (e : Same Hi Hi1) : Real K Hi1 k D :=
  ⟨fun Γ M σ Hi' H' p s => h.nx Γ M σ Hi' H' p (e.trans s), fun d M v Hi' H' p s => h.rt d M v Hi' H' p (e.trans s), fun Γ M σ Hi' H' p s => h.bk Γ M σ Hi' H' p (e.trans s), fun Γ M σ Hi' H' p s => h.ct Γ M σ Hi' H' p (e.trans s)⟩
def aS (X : Cx) (s : Stmt) (Γ : Gam) (M : Mem) (k : AK) : Prop := ∀ Hi H σ, Ok X.K Hi M H → EnvR X.K Hi Γ σ → ∀ D, Real X.K Hi k D → WS X s D σ H
def aSs (X : Cx) (s : List Stmt) (Γ : Gam) (M : Mem) (k : AK) : Prop := ∀ Hi H σ, Ok X.K Hi M H → EnvR X.K Hi Γ σ → ∀ D, Real X.K Hi k D → WB X s D σ H
section
variable {X : Cx} {Γ : Gam} {M : Mem} {P : Val → Mem → Prop} {e a b c : Expr} {es : List Expr} {pos : Pos} {k : AK} {d d1 d2 : Val}
theorem aE.mono {P' : Val → Mem → Prop} (h : aE X e Γ M P) (f : ∀ d M', P d M' → P' d M') : aE X e Γ M P' := fun Hi H σ ok en Q q => h Hi H σ ok en Q fun d M' v Hi' H' p => q d M' v Hi' H' (f d M' p)
theorem aT.mono {P P' : Bool → Mem → Prop} (h : aT X e Γ M P) (f : ∀ d M', P d M' → P' d M') : aT X e Γ M P' := fun Hi H σ ok en Q q => h Hi H σ ok en Q fun d M' Hi' H' p => q d M' Hi' H' (f d M' p)
theorem aE.val (h : aV X e Γ M d) (p : P d M) : aE X e Γ M P := h.mono fun x M' q => by
  obtain ⟨h1, h2⟩ := q
  subst h1 h2
  exact p
theorem aT.val {P : Bool → Mem → Prop} {b : Bool} (h : aB X e Γ M b) (p : P b M) : aT X e Γ M P := h.mono fun x M' q => by
  obtain ⟨h1, h2⟩ := q
  subst h1 h2
  exact p
theorem aA.val {P : List Val → Mem → Prop} {ds : List Val} (h : aVs X es Γ M ds) (p : P ds M) : aA X es Γ M P := fun Hi H σ ok en Q q => h Hi H σ ok en Q fun d M' v Hi' H' r => by
  obtain ⟨h1, h2⟩ := r
  subst h1 h2
  exact q _ _ v Hi' H' p
/-- a constant -/
theorem ae_c {v : V} {d : Val} (hp : PE X e (tC v)) (r : ∀ K H, Rep K H d v) (h : P d M) : aE X e Γ M P := fun Hi H σ ok _ Q q => ⟨_, hp, q d M v Hi H h (Same.refl _) ok (r _ _)⟩
theorem ae_int {i : Int} {j} (h : P (.int i) M) : aE X (.Constant (.int i) j pos) Γ M P := ae_c pe_int (fun _ _ => .int i) h
theorem ae_bl {i : Bool} {j} (h : P (.bl i) M) : aE X (.Constant (.bool i) j pos) Γ M P := ae_c pe_bl (fun _ _ => .bl i) h
theorem ae_str {i : Str} {j} (h : P (.str i) M) : aE X (.Constant (.str i) j pos) Γ M P := ae_c pe_str (fun _ _ => .str i) h
theorem ae_non {j} (h : P .non M) : aE X (.Constant .none j pos) Γ M P := ae_c pe_non (fun _ _ => .non) h
/-- a name of the def -/
theorem ae_var {x : Str} (i : Nat) {d : Val} (hd : Γ[i]? = some (some d)) (h : P d M) (hN : X.N[i]? = some x := by rfl) (hv : Vis X.env.scope x := by first | exact Or.inl rfl | exact Or.inr (Or.inl rfl) | exact Or.inr (Or.inr rfl))
    (hdb : (x == ("__debug__" : Str)) = false := by decide) (hcd : (x == ("__classdict__" : Str)) = false := by decide) : aE X (.Name x pos) Γ M P := fun Hi H σ ok en Q q => by
  obtain ⟨v, h1, r⟩ := en.2 i d hd
  exact ⟨_, pe_var hN hv hdb hcd, v, h1, q d M v Hi H h (Same.refl _) ok r⟩
/-- a global of the module that is an address -/
theorem ae_glob {x : Str} {f : Addr} (hm : X.mg x = some (.ref f)) (h : P (.ptr f) M) (hg : Gl X x := by rfl) (hd : (x == ("__debug__" : Str)) = false := by decide) : aE X (.Name x pos) Γ M P :=
  ae_c (pe_glob (v := .ref f) hg hm rfl hd) (fun _ _ => .ptr f) h
/-- what an operation on values asks -/
def RV (X : Cx) (r : R2) (x y : Val) (M : Mem) (P : Val → Mem → Prop) : Prop := ∀ Hi H v w, Ok X.K Hi M H → Rep X.K Hi x v → Rep X.K Hi y w → ∀ Q, Post X.K Hi P Q → r v w H Q
theorem ae_op {op : Operator} {r : R2} (ho : OpR X (binaryOp op) r) (h : aE X a Γ M fun x M1 => aE X b Γ M1 fun y M2 => RV X r x y M2 P) : aE X (.BinOp a op b pos) Γ M P := fun Hi H σ ok en Q q => by
  refine ⟨_, pe_op ho pe_we pe_we, ?_⟩
  refine h Hi H σ ok en _ fun x M1 v Hi1 H1 h1 s1 ok1 r1 => ?_
  refine h1 Hi1 H1 σ ok1 (en.mono s1) _ fun y M2 w Hi2 H2 h2 s2 ok2 r2 => ?_
  exact h2 Hi2 H2 v w ok2 (r1.mono s2) r2 Q (q.up (s1.trans s2))
theorem rv_I0 {g : Int → Int → V} {f : Int → Int → Val} {i j : Int} (hr : ∀ K H, Rep K H (f i j) (g i j)) (h : P (f i j) M) : RV X (rI0 g) (.int i) (.int j) M P := fun Hi H v w ok rv rw_ Q q => by
  cases rv
  cases rw_
  exact ⟨i, j, rfl, rfl, q _ _ _ Hi H h (Same.refl _) ok (hr _ _)⟩
theorem rv_I {C : Int → Int → Prop} {g : Int → Int → V} {f : Int → Int → Val} {i j : Int} (hc : C i j) (hr : ∀ K H, Rep K H (f i j) (g i j)) (h : P (f i j) M) : RV X (rI C g) (.int i) (.int j) M P := fun Hi H v w ok rv rw_ Q q => by
  cases rv
  cases rw_
  exact ⟨i, j, rfl, rfl, hc, q _ _ _ Hi H h (Same.refl _) ok (hr _ _)⟩
theorem av_op {op : Operator} {r : R2} (ho : OpR X (binaryOp op) r) (ha : aV X a Γ M d1) (hb : aV X b Γ M d2) (hr : RV X r d1 d2 M P) : aE X (.BinOp a op b pos) Γ M P := ae_op ho (ha.val (hb.val hr))
variable {i j : Int}
theorem av_add (ha : aV X a Γ M (.int i)) (hb : aV X b Γ M (.int j)) : aV X (.BinOp a .Add b pos) Γ M (.int (i + j)) := av_op op_add ha hb (rv_I0 (f := fun i j => .int (i + j)) (fun _ _ => .int _) ⟨rfl, rfl⟩)
theorem av_sub (ha : aV X a Γ M (.int i)) (hb : aV X b Γ M (.int j)) : aV X (.BinOp a .Sub b pos) Γ M (.int (i - j)) := av_op op_sub ha hb (rv_I0 (f := fun i j => .int (i - j)) (fun _ _ => .int _) ⟨rfl, rfl⟩)
theorem av_mod (ha : aV X a Γ M (.int i)) (hb : aV X b Γ M (.int j)) (hc : 0 < j) : aV X (.BinOp a .Mod b pos) Γ M (.int (i % j)) := av_op op_mod ha hb (rv_I (f := fun i j => .int (i % j)) hc (fun _ _ => .int _) ⟨rfl, rfl⟩)
theorem av_fdiv (ha : aV X a Γ M (.int i)) (hb : aV X b Γ M (.int j)) (hc : CDiv i j) : aV X (.BinOp a .FloorDiv b pos) Γ M (.int (i / j)) := av_op op_fdiv ha hb (rv_I (f := fun i j => .int (i / j)) hc (fun _ _ => .int _) ⟨rfl, rfl⟩)
theorem av_pow (ha : aV X a Γ M (.int i)) (hb : aV X b Γ M (.int j)) (hc : CPow i j) : aV X (.BinOp a .Pow b pos) Γ M (.int (i ^ j.toNat)) := av_op op_pow ha hb (rv_I (f := fun i j => .int (i ^ j.toNat)) hc (fun _ _ => .int _) ⟨rfl, rfl⟩)
end
end Ab
namespace Ab
open PySem PySem.Spec PyProof.Rows L2
/-- a value as it may be read: itself, or the list that stands in its cell -/
inductive Vw (M : Mem) : Val → Val → Prop
  | self (d : Val) : Vw M d d
  | lst (i : Nat) {p : Addr} {xs : List Val} : M[i]? = some (p, .lst xs) → Vw M (.ptr p) (.lst xs)
theorem Vw.rep {K : PySem.W.Frag} {Hi H : Hp} {M : Mem} {d e : Val} {v : V} (h : Vw M d e) (ok : Ok K Hi M H) (r : Rep K Hi d v) : Rep K H e v := by
  cases h with
  | self => exact r.mono ok.im
  | lst i hm =>
    obtain ⟨_, o, ho, xs', rfl, ra⟩ := ok.get hm
    cases r
    exact .lst (SqL.of ho) (ra.mono ok.im)
mutual
def toD : Val → Option PyData
  | .non => some .none
  | .bl b => some (.bool b)
  | .int i => some (.int i)
  | .str x => some (.str x)
  | .lst xs => (toDs xs).map PyData.list
  | .tup xs => (toDs xs).map PyData.tuple
  | .ty _ => none
  | .ptr _ => none
  | .obj _ _ => none
  | .exc _ _ => none
  | .lam _ _ => none
def toDs : List Val → Option (List PyData)
  | [] => some []
  | x :: xs => (toD x).bind fun d => (toDs xs).map fun ds => d :: ds
end
mutual
theorem rep_dp {K : PySem.W.Frag} {H : Hp} : ∀ (x : Val) {v : V} {d : PyData}, Rep K H x v → toD x = some d → Dp K H v d
  | .non, _, _, .non, e => by cases e; exact .non
  | .bl b, _, _, .bl _, e => by cases e; exact .bl b
  | .int i, _, _, .int _, e => by cases e; exact .int i
  | .str x, _, _, .str _, e => by cases e; exact .str x
  | .lst xs, _, _, .lst h r, e => by
    unfold toD at e
    obtain ⟨ds, h1, rfl⟩ := Option.map_eq_some_iff.mp e
    exact .lst h (rep_dps xs r h1)
  | .tup xs, _, _, .tup h r, e => by
    unfold toD at e
    obtain ⟨ds, h1, rfl⟩ := Option.map_eq_some_iff.mp e
    exact .tup h (rep_dps xs r h1)
  | .ty _, _, _, _, e => by cases e
  | .ptr _, _, _, _, e => by cases e
  | .obj _ _, _, _, _, e => by cases e
  | .exc _ _, _, _, _, e => by cases e
  | .lam _ _, _, _, _, e => by cases e
theorem rep_dps {K : PySem.W.Frag} {H : Hp} : ∀ (xs : List Val) {vs : List V} {ds : List PyData}, RepA K H xs vs → toDs xs = some ds → DpAll K H vs ds
  | [], _, _, .nil, e => by cases e; exact .nil
  | x :: xs, _, _, .cons a r, e => by
    unfold toDs at e
    obtain ⟨d, h1, h2⟩ := Option.bind_eq_some_iff.mp e
    obtain ⟨ds, h3, rfl⟩ := Option.map_eq_some_iff.mp h2
    exact .cons (rep_dp x a h1) (rep_dps xs r h3)
end
section
variable {X : Cx} {Γ : Gam} {M : Mem} {P : Val → Mem → Prop} {e a b c : Expr} {es : List Expr} {pos : Pos} {k : AK} {d d1 d2 d3 : Val} {i j : Int}
/-! ### comparisons -/
def Cmp (X : Cx) (op : CmpOp) (M : Mem) (x y : Val) (b : Bool) : Prop := ∃ r, OpR X (compareOp op) r ∧ RV X r x y M fun z M' => z = .bl b ∧ M' = M
theorem cmp_lt : Cmp X .Lt M (.int i) (.int j) (decide (i < j)) := ⟨_, op_lt, rv_I0 (f := fun i j => .bl (decide (i < j))) (fun _ _ => .bl _) ⟨rfl, rfl⟩⟩
theorem cmp_le : Cmp X .LtE M (.int i) (.int j) (decide (i ≤ j)) := ⟨_, op_le, rv_I0 (f := fun i j => .bl (decide (i ≤ j))) (fun _ _ => .bl _) ⟨rfl, rfl⟩⟩
theorem cmp_gt : Cmp X .Gt M (.int i) (.int j) (decide (j < i)) := ⟨_, op_gt, rv_I0 (f := fun i j => .bl (decide (j < i))) (fun _ _ => .bl _) ⟨rfl, rfl⟩⟩
theorem cmp_ge : Cmp X .GtE M (.int i) (.int j) (decide (j ≤ i)) := ⟨_, op_ge, rv_I0 (f := fun i j => .bl (decide (j ≤ i))) (fun _ _ => .bl _) ⟨rfl, rfl⟩⟩
theorem cmp_eqI : Cmp X .Eq M (.int i) (.int j) (decide (i = j)) := ⟨_, op_eq, fun Hi H v w ok rv rw_ Q q => by
  cases rv
  cases rw_
  refine ⟨rfl, ?_⟩
  have e : decide (V.int i = V.int j) = decide (i = j) := by simp
  rw [e]
  exact q _ M _ Hi H ⟨rfl, rfl⟩ (Same.refl _) ok (.bl _)⟩
theorem cmp_neI : Cmp X .NotEq M (.int i) (.int j) (!decide (i = j)) := ⟨_, op_ne, fun Hi H v w ok rv rw_ Q q => by
  cases rv
  cases rw_
  refine ⟨rfl, ?_⟩
  have e : decide (V.int i = V.int j) = decide (i = j) := by simp
  rw [e]
  exact q _ M _ Hi H ⟨rfl, rfl⟩ (Same.refl _) ok (.bl _)⟩
theorem cmp_eqS {x y : Str} : Cmp X .Eq M (.str x) (.str y) (decide (x = y)) := ⟨_, op_eq, fun Hi H v w ok rv rw_ Q q => by
  cases rv
  cases rw_
  refine ⟨rfl, ?_⟩
  have e : decide (V.str x = V.str y) = decide (x = y) := by simp
  rw [e]
  exact q _ M _ Hi H ⟨rfl, rfl⟩ (Same.refl _) ok (.bl _)⟩
/-- data of any depth -/
theorem cmp_eqD {d1' d2' : Val} {p q : PyData} (v1 : Vw M d1 d1') (v2 : Vw M d2 d2') (h1 : toD d1' = some p) (h2 : toD d2' = some q) (s1 : SeqAt.shaped p = true) (s2 : SeqAt.shaped q = true) (hu : X.A.units + 64 < cLine) : Cmp X .Eq M d1 d2 (PyData.eqv p q) :=
  ⟨_, op_eqD hu, fun Hi H v w ok rv rw_ Q post => ⟨p, q, rep_dp _ (v1.rep ok rv) h1, rep_dp _ (v2.rep ok rw_) h2, s1, s2, post _ M _ Hi H ⟨rfl, rfl⟩ (Same.refl _) ok (.bl _)⟩⟩
theorem cmp_neD {d1' d2' : Val} {p q : PyData} (v1 : Vw M d1 d1') (v2 : Vw M d2 d2') (h1 : toD d1' = some p) (h2 : toD d2' = some q) (s1 : SeqAt.shaped p = true) (s2 : SeqAt.shaped q = true) (hu : X.A.units + 64 < cLine) : Cmp X .NotEq M d1 d2 (!PyData.eqv p q) :=
  ⟨_, op_neD hu, fun Hi H v w ok rv rw_ Q post => ⟨p, q, rep_dp _ (v1.rep ok rv) h1, rep_dp _ (v2.rep ok rw_) h2, s1, s2, post _ M _ Hi H ⟨rfl, rfl⟩ (Same.refl _) ok (.bl _)⟩⟩
def Val.isN : Val → Bool
  | .non => true
  | _ => false
theorem rep_isN {K : PySem.W.Frag} {H : Hp} {x : Val} {v : V} (r : Rep K H x v) : decide (v = .non) = x.isN := by
  cases r <;> rfl
theorem cmp_isN : Cmp X .Is M d .non d.isN := ⟨_, op_isN, fun Hi H v w ok rv rw_ Q q => by
  cases rw_
  refine ⟨rfl, ?_⟩
  rw [rep_isN rv]
  exact q _ M _ Hi H ⟨rfl, rfl⟩ (Same.refl _) ok (.bl _)⟩
theorem Cmp.eq {op : CmpOp} {x y : Val} {b b' : Bool} (h : Cmp X op M x y b) (e : b = b') : Cmp X op M x y b' := e ▸ h
/-- a comparison as a value, as a test -/
theorem ae_cmp {op : CmpOp} {k : Bool} (ha : aV X a Γ M d1) (hb : aV X b Γ M d2) (hc : Cmp X op M d1 d2 k) (h : P (.bl k) M) (hm : behindInMarks op b = false := by first | exact nomark _ | rfl) : aE X (.Compare a [op] [b] pos) Γ M P := fun Hi H σ ok en Q q => by
  obtain ⟨r, ho, hr⟩ := hc
  refine ⟨_, pe_cmpR ho pe_we pe_we hm, ?_⟩
  refine ha Hi H σ ok en _ fun x M1 v Hi1 H1 h1 s1 ok1 r1 => ?_
  obtain ⟨rfl, rfl⟩ := h1
  refine hb Hi1 H1 σ ok1 (en.mono s1) _ fun y M2 w Hi2 H2 h2 s2 ok2 r2 => ?_
  obtain ⟨rfl, rfl⟩ := h2
  exact hr Hi2 H2 v w ok2 (r1.mono s2) r2 Q fun z M' v' Hi3 H3 h3 s3 ok3 r3 => by
    obtain ⟨rfl, rfl⟩ := h3
    exact q _ _ v' Hi3 H3 h ((s1.trans s2).trans s3) ok3 r3
theorem at_cmp {op : CmpOp} {k : Bool} {P : Bool → Mem → Prop} (ha : aV X a Γ M d1) (hb : aV X b Γ M d2) (hc : Cmp X op M d1 d2 k) (h : P k M) (hm : behindInMarks op b = false := by first | exact nomark _ | rfl) : aT X (.Compare a [op] [b] pos) Γ M P := fun Hi H σ ok en Q q => by
  obtain ⟨r, ho, hr⟩ := hc
  refine ⟨_, pt_cmpR ho pe_we pe_we hm, ?_⟩
  refine ha Hi H σ ok en _ fun x M1 v Hi1 H1 h1 s1 ok1 r1 => ?_
  obtain ⟨rfl, rfl⟩ := h1
  refine hb Hi1 H1 σ ok1 (en.mono s1) _ fun y M2 w Hi2 H2 h2 s2 ok2 r2 => ?_
  obtain ⟨rfl, rfl⟩ := h2
  exact hr Hi2 H2 v w ok2 (r1.mono s2) r2 _ fun z M' v' Hi3 H3 h3 s3 ok3 r3 => by
    obtain ⟨rfl, rfl⟩ := h3
    cases r3
    exact ⟨k, rfl, q _ _ Hi3 H3 h ((s1.trans s2).trans s3) ok3⟩
theorem at_chain {op op' : CmpOp} {k1 k2 : Bool} {P : Bool → Mem → Prop} (ha : aV X a Γ M d1) (hb : aV X b Γ M d2) (hc : aV X c Γ M d3) (h1 : Cmp X op M d1 d2 k1) (h2 : Cmp X op' M d2 d3 k2) (h : P (k1 && k2) M) (hm : lastMarks [op, op'] [b, c] = false := by with_unfolding_all rfl) :
    aT X (.Compare a [op, op'] [b, c] pos) Γ M P := fun Hi H σ ok en Q q => by
  obtain ⟨r, ho, hr⟩ := h1
  obtain ⟨r', ho', hr'⟩ := h2
  refine ⟨_, pt_chain ho ho' pe_we pe_we pe_we hm, ?_⟩
  refine ha Hi H σ ok en _ fun x M1 v Hi1 H1 h1 s1 ok1 r1 => ?_
  obtain ⟨rfl, rfl⟩ := h1
  refine hb Hi1 H1 σ ok1 (en.mono s1) _ fun y M2 w Hi2 H2 h2 s2 ok2 r2 => ?_
  obtain ⟨rfl, rfl⟩ := h2
  refine hr Hi2 H2 v w ok2 (r1.mono s2) r2 _ fun z M' v' Hi3 H3 h3 s3 ok3 r3 => ?_
  obtain ⟨rfl, rfl⟩ := h3
  cases r3
  refine ⟨k1, rfl, ?_⟩
  have s13 := (s1.trans s2).trans s3
  cases k1 with
  | false => exact iteF ⟨false, rfl, q _ _ Hi3 H3 h s13 ok3⟩
  | true =>
    refine iteT (hc Hi3 H3 σ ok3 (en.mono s13) _ fun y4 M4 w4 Hi4 H4 h4 s4 ok4 r4 => ?_)
    obtain ⟨rfl, rfl⟩ := h4
    exact hr' Hi4 H4 w w4 ok4 (r2.mono (s3.trans s4)) r4 _ fun z M' v' Hi5 H5 h5 s5 ok5 r5 => by
      obtain ⟨rfl, rfl⟩ := h5
      cases r5
      exact ⟨_, rfl, q _ _ Hi5 H5 h ((s13.trans s4).trans s5) ok5⟩
/-! ### tests -/
theorem at_val {P : Bool → Mem → Prop} (h : aE X e Γ M fun x M' => ∃ k, x = .bl k ∧ P k M') (he : ∀ whole, isTrue e X.env whole = (do let v ← whole; standAt e.pos; holding [v] (truthy v)) := by intro _; rfl) : aT X e Γ M P := fun Hi H σ ok en Q q => by
  refine ⟨_, pt_val pe_we he, ?_⟩
  refine h Hi H σ ok en _ fun x M1 v Hi1 H1 h1 s1 ok1 r1 => ?_
  obtain ⟨k, rfl, p⟩ := h1
  cases r1
  exact ⟨k, rfl, q _ _ Hi1 H1 p s1 ok1⟩
theorem at_not {P : Bool → Mem → Prop} (h : aT X a Γ M fun x M' => P (!x) M') : aT X (.UnaryOp .Not a pos) Γ M P := fun Hi H σ ok en Q q => by
  refine ⟨_, pt_not pt_wt, ?_⟩
  exact h Hi H σ ok en _ fun x M1 Hi1 H1 h1 s1 ok1 => q _ _ Hi1 H1 h1 s1 ok1
def WW (X : Cx) (e : Expr) : TT := fun σ H Q => ∃ t, PW X e t ∧ t σ H Q
theorem pw_ww : PW X e (WW X e) := ⟨fun whole pins s σ H Q I ⟨t, p, h⟩ => p.run whole pins s σ H Q I h⟩
def aW (X : Cx) (e : Expr) (Γ : Gam) (M : Mem) (P : Bool → Mem → Prop) : Prop := ∀ Hi H σ, Ok X.K Hi M H → EnvR X.K Hi Γ σ → ∀ Q, PostT X.K Hi P Q → WW X e σ H Q
theorem at_w {P : Bool → Mem → Prop} (h : aW X e Γ M P) : aT X e Γ M P := fun Hi H σ ok en Q q => by
  obtain ⟨t, p, z⟩ := h Hi H σ ok en Q q
  exact ⟨t, p.pt, z⟩
theorem aw_and1 {P : Bool → Mem → Prop} (h : aT X a Γ M P) : aW X (.BoolOp .And [a] pos) Γ M P := fun Hi H σ ok en Q q => ⟨_, pw_and1 pt_wt, h Hi H σ ok en Q q⟩
theorem aw_or1 {P : Bool → Mem → Prop} (h : aT X a Γ M P) : aW X (.BoolOp .Or [a] pos) Γ M P := fun Hi H σ ok en Q q => ⟨_, pw_or1 pt_wt, h Hi H σ ok en Q q⟩
theorem aw_and {P : Bool → Mem → Prop} {rest : List Expr} (h : aT X a Γ M fun x M' => (x = true → aW X (.BoolOp .And (b :: rest) pos) Γ M' P) ∧ (x = false → P false M')) : aW X (.BoolOp .And (a :: b :: rest) pos) Γ M P := fun Hi H σ ok en Q q => by
  refine ⟨_, pw_and pt_wt pw_ww, ?_⟩
  refine h Hi H σ ok en _ fun x M1 Hi1 H1 h1 s1 ok1 => ?_
  cases x with
  | true => exact iteT (h1.1 rfl Hi1 H1 σ ok1 (en.mono s1) _ (q.up s1))
  | false => exact iteF (q _ _ Hi1 H1 (h1.2 rfl) s1 ok1)
theorem aw_or {P : Bool → Mem → Prop} {rest : List Expr} (h : aT X a Γ M fun x M' => (x = true → P true M') ∧ (x = false → aW X (.BoolOp .Or (b :: rest) pos) Γ M' P)) : aW X (.BoolOp .Or (a :: b :: rest) pos) Γ M P := fun Hi H σ ok en Q q => by
  refine ⟨_, pw_or pt_wt pw_ww, ?_⟩
  refine h Hi H σ ok en _ fun x M1 Hi1 H1 h1 s1 ok1 => ?_
  cases x with
  | false => exact iteF (h1.2 rfl Hi1 H1 σ ok1 (en.mono s1) _ (q.up s1))
  | true => exact iteT (q _ _ Hi1 H1 (h1.1 rfl) s1 ok1)
/-- as values -/
theorem ae_and {rest : List Expr} (h : aE X a Γ M fun x M' => ∃ k, x = .bl k ∧ (k = true → aE X (.BoolOp .And (b :: rest) pos) Γ M' P) ∧ (k = false → P (.bl false) M')) : aE X (.BoolOp .And (a :: b :: rest) pos) Γ M P := fun Hi H σ ok en Q q => by
  refine ⟨_, pe_and pe_we pe_we, ?_⟩
  refine h Hi H σ ok en _ fun x M1 v Hi1 H1 h1 s1 ok1 r1 => ?_
  obtain ⟨k, rfl, h2, h3⟩ := h1
  cases r1
  refine ⟨k, rfl, ?_⟩
  cases k with
  | true => exact iteT (h2 rfl Hi1 H1 σ ok1 (en.mono s1) _ (q.up s1))
  | false => exact iteF (q _ _ _ Hi1 H1 (h3 rfl) s1 ok1 (.bl _))
theorem ae_or {rest : List Expr} (h : aE X a Γ M fun x M' => ∃ k, x = .bl k ∧ (k = true → P (.bl true) M') ∧ (k = false → aE X (.BoolOp .Or (b :: rest) pos) Γ M' P)) : aE X (.BoolOp .Or (a :: b :: rest) pos) Γ M P := fun Hi H σ ok en Q q => by
  refine ⟨_, pe_or pe_we pe_we, ?_⟩
  refine h Hi H σ ok en _ fun x M1 v Hi1 H1 h1 s1 ok1 r1 => ?_
  obtain ⟨k, rfl, h2, h3⟩ := h1
  cases r1
  refine ⟨k, rfl, ?_⟩
  cases k with
  | false => exact iteF (h3 rfl Hi1 H1 σ ok1 (en.mono s1) _ (q.up s1))
  | true => exact iteT (q _ _ _ Hi1 H1 (h2 rfl) s1 ok1 (.bl _))
theorem ae_one {op} (h : aE X a Γ M P) : aE X (.BoolOp op [a] pos) Γ M P := fun Hi H σ ok en Q q => ⟨_, pe_one pe_we, h Hi H σ ok en Q q⟩
theorem ae_not (h : aE X a Γ M fun x M' => ∃ k, x = .bl k ∧ P (.bl (!k)) M') : aE X (.UnaryOp .Not a pos) Γ M P := fun Hi H σ ok en Q q => by
  refine ⟨_, pe_not pe_we, ?_⟩
  refine h Hi H σ ok en _ fun x M1 v Hi1 H1 h1 s1 ok1 r1 => ?_
  obtain ⟨k, rfl, h2⟩ := h1
  cases r1
  exact ⟨k, rfl, q _ _ _ Hi1 H1 h2 s1 ok1 (.bl _)⟩
theorem ae_if (h : aT X c Γ M fun x M' => (x = true → aE X a Γ M' P) ∧ (x = false → aE X b Γ M' P)) : aE X (.IfExp c a b pos) Γ M P := fun Hi H σ ok en Q q => by
  refine ⟨_, pe_ifExp pt_wt pe_we pe_we, ?_⟩
  refine h Hi H σ ok en _ fun x M1 Hi1 H1 h1 s1 ok1 => ?_
  cases x with
  | true => exact iteT (h1.1 rfl Hi1 H1 σ ok1 (en.mono s1) _ (q.up s1))
  | false => exact iteF (h1.2 rfl Hi1 H1 σ ok1 (en.mono s1) _ (q.up s1))
/-- truth of a pure test in two ways -/
theorem ae_ifd {p : Prop} [Decidable p] (hc : aB X c Γ M (decide p)) (h1 : p → aE X a Γ M P) (h2 : ¬ p → aE X b Γ M P) : aE X (.IfExp c a b pos) Γ M P :=
  ae_if (hc.val ⟨fun z => h1 (of_decide_eq_true z), fun z => h2 (of_decide_eq_false z)⟩)
/-! ### arguments, displays -/
theorem aa_nil {P : List Val → Mem → Prop} (h : P [] M) : aA X [] Γ M P := fun Hi H σ ok en Q q => ⟨_, pa_nil, q _ _ _ Hi H h (Same.refl _) ok .nil⟩
theorem aa_cons {P : List Val → Mem → Prop} (h : aE X e Γ M fun x M1 => aA X es Γ M1 fun xs M2 => P (x :: xs) M2) (hs : starEach (e :: es) X.env = (false, eval e X.env) :: starEach es X.env := by rfl) : aA X (e :: es) Γ M P := fun Hi H σ ok en Q q => by
  refine ⟨_, pa_cons pe_we pa_wa hs, ?_⟩
  refine h Hi H σ ok en _ fun x M1 v Hi1 H1 h1 s1 ok1 r1 => ?_
  exact h1 Hi1 H1 σ ok1 (en.mono s1) _ fun xs M2 vs Hi2 H2 h2 s2 ok2 r2 => q _ _ _ Hi2 H2 h2 (s1.trans s2) ok2 (.cons (r1.mono s2) r2)
theorem avs_nil : aVs X [] Γ M [] := aa_nil ⟨rfl, rfl⟩
theorem avs_cons {ds : List Val} (h : aV X e Γ M d) (hr : aVs X es Γ M ds) (hs : starEach (e :: es) X.env = (false, eval e X.env) :: starEach es X.env := by rfl) : aVs X (e :: es) Γ M (d :: ds) :=
  aa_cons (h.val (hr.val ⟨rfl, rfl⟩)) hs
theorem ae_tup {x1} (h : aA X es Γ M fun xs M' => xs.length ≤ sizeLine ∧ P (.tup xs) M') : aE X (.Tuple es x1 pos) Γ M P := fun Hi H σ ok en Q q => by
  refine ⟨_, pe_tup pa_wa, ?_⟩
  refine h Hi H σ ok en _ fun xs M1 vs Hi1 H1 h1 s1 ok1 r1 => ?_
  refine ⟨r1.length ▸ h1.1, fun p hp => ?_⟩
  have s2 := same_upd (o := .tup vs) (ok1.none hp)
  exact q _ _ _ _ _ h1.2 (s1.trans s2) (ok1.imm hp) (.tup (SqT.of upd_same) (r1.mono s2))
theorem av_tup {x1} {ds : List Val} (h : aVs X es Γ M ds) (hl : ds.length ≤ sizeLine) : aV X (.Tuple es x1 pos) Γ M (.tup ds) := ae_tup (h.val ⟨hl, rfl, rfl⟩)
/-- a list that will not change -/
theorem ae_lst (h : aA X es Γ M fun xs M' => xs.length ≤ sizeLine ∧ P (.lst xs) M') : aE X (.List es pos) Γ M P := fun Hi H σ ok en Q q => by
  refine ⟨_, pe_lst pa_wa, ?_⟩
  refine h Hi H σ ok en _ fun xs M1 vs Hi1 H1 h1 s1 ok1 r1 => ?_
  refine ⟨r1.length ▸ h1.1, fun p hp => ?_⟩
  have s2 := same_upd (o := .lst vs) (ok1.none hp)
  exact q _ _ _ _ _ h1.2 (s1.trans s2) (ok1.imm hp) (.lst (SqL.of upd_same) (r1.mono s2))
/-- a list that will change: a new cell -/
theorem ae_lstC (h : aA X es Γ M fun xs M' => xs.length ≤ sizeLine ∧ ∀ p, P (.ptr p) ((p, .lst xs) :: M')) : aE X (.List es pos) Γ M P := fun Hi H σ ok en Q q => by
  refine ⟨_, pe_lst pa_wa, ?_⟩
  refine h Hi H σ ok en _ fun xs M1 vs Hi1 H1 h1 s1 ok1 r1 => ?_
  refine ⟨r1.length ▸ h1.1, fun p hp => ?_⟩
  exact q _ _ _ _ _ (h1.2 p) s1 (ok1.new hp ⟨vs, rfl, r1⟩) (.ptr p)
/-! ### places -/
theorem rep_at {K : PySem.W.Frag} {H : Hp} {ds : List Val} {vs : List V} (r : RepA K H ds vs) {i : Int} {d : Val} (h : atI ds i = some d) : ∃ v, atI vs i = some v ∧ Rep K H d v := by
  unfold atI at h ⊢
  rw [← r.length]
  cases e : ixN ds.length i with
  | none => rw [e] at h; cases h
  | some j =>
    rw [e] at h
    exact r.get h
/-- xs[i], t[i] -/
theorem ae_ixL {xs : List Val} (ha : aV X a Γ M d1) (hb : aV X b Γ M (.int i)) (hv : Vw M d1 (.lst xs)) (h : ∃ d, atI xs i = some d ∧ P d M) (hs : PlainIx b := by exact fun _ _ => rfl) : aE X (.Subscript a b pos) Γ M P := fun Hi H σ ok en Q q => by
  obtain ⟨d, hd, p⟩ := h
  refine ⟨_, pe_ix ix_list pe_we pe_we hs, ?_⟩
  refine ha Hi H σ ok en _ fun x M1 v Hi1 H1 h1 s1 ok1 r1 => ?_
  obtain ⟨rfl, rfl⟩ := h1
  refine hb Hi1 H1 σ ok1 (en.mono s1) _ fun y M2 w Hi2 H2 h2 s2 ok2 r2 => ?_
  obtain ⟨rfl, rfl⟩ := h2
  cases r2
  cases hv with
  | self =>
    cases r1.mono s2 with
    | lst hq ra =>
      obtain ⟨z, hz, rz⟩ := rep_at ra hd
      exact ⟨_, _, i, z, rfl, rfl, ok2.im.seq hq, hz, q _ _ z Hi2 H2 p (s1.trans s2) ok2 rz⟩
  | lst j hm =>
    obtain ⟨_, o, ho, xs', rfl, ra⟩ := ok2.get hm
    cases r1
    obtain ⟨z, hz, rz⟩ := rep_at ra hd
    exact ⟨_, _, i, z, rfl, rfl, SqL.of ho, hz, q _ _ z Hi2 H2 p (s1.trans s2) ok2 rz⟩
theorem ae_ixT {xs : List Val} (ha : aV X a Γ M (.tup xs)) (hb : aV X b Γ M (.int i)) (h : ∃ d, atI xs i = some d ∧ P d M) (hs : PlainIx b := by exact fun _ _ => rfl) : aE X (.Subscript a b pos) Γ M P := fun Hi H σ ok en Q q => by
  obtain ⟨d, hd, p⟩ := h
  refine ⟨_, pe_ix ix_tup pe_we pe_we hs, ?_⟩
  refine ha Hi H σ ok en _ fun x M1 v Hi1 H1 h1 s1 ok1 r1 => ?_
  obtain ⟨rfl, rfl⟩ := h1
  refine hb Hi1 H1 σ ok1 (en.mono s1) _ fun y M2 w Hi2 H2 h2 s2 ok2 r2 => ?_
  obtain ⟨rfl, rfl⟩ := h2
  cases r2
  cases r1.mono s2 with
  | tup hq ra =>
    obtain ⟨z, hz, rz⟩ := rep_at ra hd
    exact ⟨_, _, i, z, rfl, rfl, sameT ok2.im hq, hz, q _ _ z Hi2 H2 p (s1.trans s2) ok2 rz⟩
theorem av_ixL {xs : List Val} (ha : aV X a Γ M d1) (hb : aV X b Γ M (.int i)) (hv : Vw M d1 (.lst xs)) (hd : atI xs i = some d) (hs : PlainIx b := by exact fun _ _ => rfl) : aV X (.Subscript a b pos) Γ M d := ae_ixL ha hb hv ⟨d, hd, rfl, rfl⟩ hs
theorem av_ixT {xs : List Val} (ha : aV X a Γ M (.tup xs)) (hb : aV X b Γ M (.int i)) (hd : atI xs i = some d) (hs : PlainIx b := by exact fun _ _ => rfl) : aV X (.Subscript a b pos) Γ M d := ae_ixT ha hb ⟨d, hd, rfl, rfl⟩ hs
end
end Ab
namespace Ab
open PySem PySem.Spec PyProof.Rows L2
section
variable {X : Cx} {Γ : Gam} {M : Mem} {P : Val → Mem → Prop} {e a b c o : Expr} {es : List Expr} {pos p1 p2 apos : Pos} {k : AK} {d d1 d2 d3 : Val} {i j : Int} {x f m : Str}
/-- a new list's cell that will not change -/
theorem ae_frz (h : aE X e Γ M fun d M' => ∃ p xs M'', d = .ptr p ∧ M' = (p, .lst xs) :: M'' ∧ P (.lst xs) M'') : aE X e Γ M P := fun Hi H σ ok en Q q => by
  refine h Hi H σ ok en _ fun d M1 v Hi1 H1 h1 s1 ok1 r1 => ?_
  obtain ⟨p, xs, M2, rfl, rfl, hp⟩ := h1
  obtain ⟨e0, o, ho, vs, rfl, ra⟩ := ok1.ce p _ List.mem_cons_self
  cases r1
  have s2 := same_upd (o := .lst vs) e0
  exact q _ _ _ _ _ hp (s1.trans s2) (ok1.freeze ho) (.lst (SqL.of upd_same) (ra.mono s2))
/-! ### calls of built-ins -/
def RA (X : Cx) (r : List V → Hp → VK → Prop) (xs : List Val) (M : Mem) (P : Val → Mem → Prop) : Prop := ∀ Hi H vs, Ok X.K Hi M H → RepA X.K Hi xs vs → ∀ Q, Post X.K Hi P Q → r vs H Q
theorem ae_callB {id : String} {r : List V → Hp → VK → Prop} (hc : CallR X (.builtin id) r) (hm : X.mg x = none) (hv : bootBuiltins x = some (.builtin id)) (h : aA X (e :: es) Γ M fun xs M' => RA X r xs M' P)
    (hg : Gl X x := by rfl) (hn : x ≠ "__name__" := by decide) (hdb : (x == ("__debug__" : Str)) = false := by decide)
    (he : starEach (e :: es) X.env = (false, eval e X.env) :: starEach es X.env := by rfl) (hpl : (backTo pos (starEach es X.env)).any (·.1) = false := by rfl) : aE X (.Call (.Name x p1) (e :: es) [] pos) Γ M P := fun Hi H σ ok en Q q => by
  refine ⟨_, pe_callB hc hg hm hv pa_wa hn hdb he hpl, ?_⟩
  exact h Hi H σ ok en _ fun xs M1 vs Hi1 H1 h1 s1 ok1 r1 => h1 Hi1 H1 vs ok1 r1 Q (q.up s1)
theorem ae_callTy {T : String} {r : List V → Hp → VK → Prop} (hc : CallR X (.type T) r) (hm : X.mg x = none) (hv : bootBuiltins x = some (.type T)) (h : aA X (e :: es) Γ M fun xs M' => RA X r xs M' P)
    (hg : Gl X x := by rfl) (hn : x ≠ "__name__" := by decide) (hdb : (x == ("__debug__" : Str)) = false := by decide)
    (he : starEach (e :: es) X.env = (false, eval e X.env) :: starEach es X.env := by rfl) (hpl : (backTo pos (starEach es X.env)).any (·.1) = false := by rfl) : aE X (.Call (.Name x p1) (e :: es) [] pos) Γ M P := fun Hi H σ ok en Q q => by
  refine ⟨_, pe_callTy hc hg hm hv pa_wa hn hdb he hpl, ?_⟩
  exact h Hi H σ ok en _ fun xs M1 vs Hi1 H1 h1 s1 ok1 r1 => h1 Hi1 H1 vs ok1 r1 Q (q.up s1)
/-- what a list or tuple value is -/
inductive Sq (M : Mem) : Val → List Val → Prop
  | l {d : Val} {xs : List Val} : Vw M d (.lst xs) → Sq M d xs
  | t {xs : List Val} : Sq M (.tup xs) xs
theorem Sq.rep {K : PySem.W.Frag} {Hi H : Hp} {d : Val} {xs : List Val} {v : V} (h : Sq M d xs) (ok : Ok K Hi M H) (r : Rep K Hi d v) : ∃ p ys, v = .ref p ∧ (SqL K H p ys ∨ SqT K H p ys) ∧ RepA K Hi xs ys := by
  cases h with
  | l h =>
    cases h with
    | self => cases r with
      | lst hq ra => exact ⟨_, _, rfl, .inl (ok.im.seq hq), ra⟩
    | lst i hm =>
      obtain ⟨_, o, ho, ys, rfl, ra⟩ := ok.get hm
      cases r
      exact ⟨_, _, rfl, .inl (SqL.of ho), ra⟩
  | t => cases r with
    | tup hq ra => exact ⟨_, _, rfl, .inr (sameT ok.im hq), ra⟩
theorem Vw.repL {K : PySem.W.Frag} {Hi H : Hp} {d : Val} {xs : List Val} {v : V} (h : Vw M d (.lst xs)) (ok : Ok K Hi M H) (r : Rep K Hi d v) : ∃ p ys, v = .ref p ∧ SqL K H p ys ∧ RepA K Hi xs ys := by
  cases h with
  | self => cases r with
    | lst hq ra => exact ⟨_, _, rfl, ok.im.seq hq, ra⟩
  | lst i hm =>
    obtain ⟨_, o, ho, ys, rfl, ra⟩ := ok.get hm
    cases r
    exact ⟨_, _, rfl, SqL.of ho, ra⟩
theorem ae_len {xs : List Val} (hm : X.mg "len" = none) (ha : aV X a Γ M d) (hs : Sq M d xs) (h : P (.int xs.length) M) (hg : Gl X "len" := by rfl) (hst : starEach [a] X.env = [(false, eval a X.env)] := by rfl) : aE X (.Call (.Name "len" p1) [a] [] pos) Γ M P :=
  ae_callB call_len_seq hm PySem.boot_len (aa_cons (ha.val (aa_nil fun Hi H vs ok r Q q => by
    cases r with
    | cons r1 r2 =>
      cases r2
      obtain ⟨p, ys, rfl, hq, ra⟩ := hs.rep ok r1
      refine ⟨p, ys, rfl, hq, ?_⟩
      rw [← ra.length]
      exact q _ _ _ Hi H h (Same.refl _) ok (.int _))) hst) hg (he := hst) (hpl := rfl)
theorem av_len {xs : List Val} (hm : X.mg "len" = none) (ha : aV X a Γ M d) (hs : Sq M d xs) (hg : Gl X "len" := by rfl) (hst : starEach [a] X.env = [(false, eval a X.env)] := by rfl) : aV X (.Call (.Name "len" p1) [a] [] pos) Γ M (.int xs.length) := ae_len hm ha hs ⟨rfl, rfl⟩ hg hst
/-- list(x): a new cell -/
theorem ae_list (hm : X.mg "list" = none) (ha : aE X a Γ M fun d M' => ∃ xs, Sq M' d xs ∧ ∀ p, P (.ptr p) ((p, .lst xs) :: M')) (hg : Gl X "list" := by rfl) (hst : starEach [a] X.env = [(false, eval a X.env)] := by rfl) : aE X (.Call (.Name "list" p1) [a] [] pos) Γ M P :=
  ae_callTy call_list_of hm (by decide +kernel) (aa_cons (ha.mono fun d M' ⟨xs, hs, h⟩ => aa_nil fun Hi H vs ok r Q q => by
    cases r with
    | cons r1 r2 =>
      cases r2
      obtain ⟨p, ys, rfl, hq, ra⟩ := hs.rep ok r1
      exact ⟨p, ys, rfl, hq, fun l hl => q _ _ _ _ _ (h l) (Same.refl _) (ok.new hl ⟨ys, rfl, ra⟩) (.ptr l)⟩) hst) hg (he := hst) (hpl := rfl)
/-- tuple(x) -/
theorem ae_tuple (hm : X.mg "tuple" = none) (ha : aE X a Γ M fun d M' => ∃ xs, Sq M' d xs ∧ P (.tup xs) M') (hg : Gl X "tuple" := by rfl) (hst : starEach [a] X.env = [(false, eval a X.env)] := by rfl) : aE X (.Call (.Name "tuple" p1) [a] [] pos) Γ M P :=
  ae_callTy call_tuple_of hm (by decide +kernel) (aa_cons (ha.mono fun d M' ⟨xs, hs, h⟩ => aa_nil fun Hi H vs ok r Q q => by
    cases r with
    | cons r1 r2 =>
      cases r2
      cases hs with
      | l hs =>
        obtain ⟨p, ys, rfl, hq, ra⟩ := hs.repL ok r1
        refine ⟨p, ys, rfl, .inl ⟨hq, fun l hl => ?_⟩⟩
        have s2 := same_upd (o := .tup ys) (ok.none hl)
        exact q _ _ _ _ _ h s2 (ok.imm hl) (.tup (SqT.of upd_same) (ra.mono s2))
      | t =>
        cases r1 with
        | tup hq ra => exact ⟨_, _, rfl, .inr ⟨sameT ok.im hq, q _ _ _ Hi H h (Same.refl _) ok (.tup hq ra)⟩⟩) hst) hg (he := hst) (hpl := rfl)
/-! ### slices -/
def aO (X : Cx) (e : Option Expr) (Γ : Gam) (M : Mem) (o : Option Int) : Prop := ∀ Hi H σ, Ok X.K Hi M H → EnvR X.K Hi Γ σ → ∀ Q : Option Int → Hp → Prop, (∀ Hi' H', Same Hi Hi' → Ok X.K Hi' M H' → Q o H') → ∃ t, PO X e t ∧ t σ H Q
theorem ao_none : aO X none Γ M none := fun Hi H σ ok en Q q => ⟨_, po_none, q Hi H (Same.refl _) ok⟩
theorem ao_some (h : aV X e Γ M (.int i)) : aO X (some e) Γ M (some i) := fun Hi H σ ok en Q q => by
  refine ⟨_, po_some pe_we, ?_⟩
  refine h Hi H σ ok en _ fun x M1 v Hi1 H1 h1 s1 ok1 r1 => ?_
  obtain ⟨rfl, rfl⟩ := h1
  cases r1
  exact ⟨i, rfl, q Hi1 H1 s1 ok1⟩
def WO (X : Cx) (e : Option Expr) : TO := fun σ H Q => ∃ t, PO X e t ∧ t σ H Q
theorem po_wo {e : Option Expr} : PO X e (WO X e) := ⟨fun pins s σ H Q I ⟨t, p, h⟩ => p.run pins s σ H Q I h⟩
def cutA (xs : List Val) (lo hi : Option Int) : List Val := (xs.drop (HT.sIx xs.length 0 lo)).take (HT.sIx xs.length xs.length hi - HT.sIx xs.length 0 lo)
theorem rep_cut {K : PySem.W.Frag} {H : Hp} {xs : List Val} {vs : List V} (r : RepA K H xs vs) (lo hi : Option Int) : RepA K H (cutA xs lo hi) (cutV vs lo hi) := by
  unfold cutA cutV
  rw [← r.length]
  exact (r.drop _).take _
theorem ae_sliceL {xs : List Val} {elo ehi : Option Expr} {lo hi : Option Int} (ha : aV X a Γ M d) (hl : aO X elo Γ M lo) (hh : aO X ehi Γ M hi) (hv : Vw M d (.lst xs)) (h : ∀ p, P (.ptr p) ((p, .lst (cutA xs lo hi)) :: M)) : aE X (.Subscript a (.Slice elo ehi none p2) pos) Γ M P := fun Hi H σ ok en Q q => by
  refine ⟨_, pe_slice sl_list pe_we po_wo po_wo, ?_⟩
  refine ha Hi H σ ok en _ fun x M1 v Hi1 H1 h1 s1 ok1 r1 => ?_
  obtain ⟨rfl, rfl⟩ := h1
  refine hl Hi1 H1 σ ok1 (en.mono s1) _ fun Hi2 H2 s2 ok2 => ?_
  refine hh Hi2 H2 σ ok2 (en.mono (s1.trans s2)) _ fun Hi3 H3 s3 ok3 => ?_
  have s13 := (s1.trans s2).trans s3
  obtain ⟨p, ys, rfl, hq, ra⟩ := hv.repL ok3 (r1.mono (s2.trans s3))
  exact ⟨p, ys, rfl, hq, fun l hl => q _ _ _ _ _ (h l) s13 (ok3.new hl ⟨_, rfl, rep_cut ra lo hi⟩) (.ptr l)⟩
theorem ae_sliceT {xs : List Val} {elo ehi : Option Expr} {lo hi : Option Int} (ha : aV X a Γ M (.tup xs)) (hl : aO X elo Γ M lo) (hh : aO X ehi Γ M hi) (h : P (.tup (cutA xs lo hi)) M) : aE X (.Subscript a (.Slice elo ehi none p2) pos) Γ M P := fun Hi H σ ok en Q q => by
  refine ⟨_, pe_slice sl_tupA pe_we po_wo po_wo, ?_⟩
  refine ha Hi H σ ok en _ fun x M1 v Hi1 H1 h1 s1 ok1 r1 => ?_
  obtain ⟨rfl, rfl⟩ := h1
  refine hl Hi1 H1 σ ok1 (en.mono s1) _ fun Hi2 H2 s2 ok2 => ?_
  refine hh Hi2 H2 σ ok2 (en.mono (s1.trans s2)) _ fun Hi3 H3 s3 ok3 => ?_
  have s13 := (s1.trans s2).trans s3
  cases r1.mono (s2.trans s3) with
  | @tup p ys _ hq ra =>
    refine ⟨p, ys, rfl, sameT ok3.im hq, fun hw => ?_, fun hw l hl => ?_⟩
    · have e : cutA xs lo hi = xs := by
        unfold cutA
        rw [ra.length, hw.1, hw.2]
        rw [← ra.length]
        simp
      rw [e] at h
      exact q _ _ _ Hi3 H3 h s13 ok3 (.tup hq ra)
    · have s4 := same_upd (o := .tup (cutV ys lo hi)) (ok3.none hl)
      exact q _ _ _ _ _ h (s13.trans s4) (ok3.imm hl) (.tup (SqT.of upd_same) ((rep_cut ra lo hi).mono s4))
/-! ### fields -/
/-- an instance: one that will not change, or a cell -/
inductive Ob (M : Mem) (C : Addr) : Val → List (Str × Val) → Prop
  | im (fs : List (Str × Val)) : Ob M C (.obj C fs) fs
  | ce (i : Nat) {p : Addr} {fs : List (Str × Val)} : M[i]? = some (p, .ins C fs) → Ob M C (.ptr p) fs
theorem Ob.rep {K : PySem.W.Frag} {Hi H : Hp} {C : Addr} {d : Val} {fs : List (Str × Val)} {v : V} (h : Ob M C d fs) (ok : Ok K Hi M H) (r : Rep K Hi d v) : ∃ p dx gs, v = .ref p ∧ H p = some (.ins C dx gs) ∧ RepF K Hi fs gs := by
  cases h with
  | im => cases r with
    | obj hq ra => exact ⟨_, _, _, rfl, ok.im _ _ hq, ra⟩
  | ce i hm =>
    obtain ⟨_, o, ho, dx, gs, rfl, ra⟩ := ok.get hm
    cases r
    exact ⟨_, _, _, rfl, ho, ra⟩
theorem ae_fld {C : Addr} (c : Cls X.K C) (n : NoAttr X.K C f) (ha : aE X a Γ M fun d M' => ∃ fs v, Ob M' C d fs ∧ fs.lookup f = some v ∧ P v M') (hb : attributeBase a f X.env (eval a X.env) = eval a X.env := by rfl) : aE X (.Attribute a f pos) Γ M P := fun Hi H σ ok en Q q => by
  refine ⟨_, pe_fld pe_we hb, ?_⟩
  refine ha Hi H σ ok en _ fun x M1 v Hi1 H1 h1 s1 ok1 r1 => ?_
  obtain ⟨fs, z, ho, hf, hp⟩ := h1
  obtain ⟨p, dx, gs, rfl, hq, ra⟩ := ho.rep ok1 r1
  obtain ⟨w, hw, rw_⟩ := ra.lookup hf
  exact ⟨p, C, dx, gs, w, rfl, hq, c, n, hw, q _ _ w Hi1 H1 hp s1 ok1 rw_⟩
theorem av_fld {C : Addr} {fs : List (Str × Val)} (c : Cls X.K C) (n : NoAttr X.K C f) (ha : aV X a Γ M d) (ho : Ob M C d fs) (hf : fs.lookup f = some d1) (hb : attributeBase a f X.env (eval a X.env) = eval a X.env := by rfl) : aV X (.Attribute a f pos) Γ M d1 :=
  ae_fld c n (ha.val ⟨fs, d1, ho, hf, rfl, rfl⟩) hb
/-! ### dicts -/
theorem ae_dget {n : Nat} {p : Addr} {kvs : List (Key × Val)} (hu : X.A.units + 1 < cLine) (ha : aV X a Γ M (.ptr p)) (hb : aV X b Γ M (.str x)) (hm : M[n]? = some (p, .dk kvs)) (h : ∃ d, dGet kvs (.inr x) = some d ∧ P d M) (hs : NoSl b := by exact fun _ _ => rfl) : aE X (.Subscript a b pos) Γ M P := fun Hi H σ ok en Q q => by
  obtain ⟨d, hd, hp⟩ := h
  refine ⟨_, pe_dget hu pe_we pe_we hs, ?_⟩
  refine ha Hi H σ ok en _ fun x M1 v Hi1 H1 h1 s1 ok1 r1 => ?_
  obtain ⟨rfl, rfl⟩ := h1
  refine hb Hi1 H1 σ ok1 (en.mono s1) _ fun y M2 w Hi2 H2 h2 s2 ok2 r2 => ?_
  obtain ⟨rfl, rfl⟩ := h2
  cases r1
  cases r2
  obtain ⟨_, o, ho, ks, rfl, rk⟩ := ok2.get hm
  obtain ⟨z, hz, rz⟩ := rk.get hd
  exact ⟨p, z, rfl, .inl ⟨ks, .inr _, .inl ho, rfl, hz.symm⟩, q _ _ z Hi2 H2 hp (s1.trans s2) ok2 rz⟩
theorem av_dget {n : Nat} {p : Addr} {kvs : List (Key × Val)} (hu : X.A.units + 1 < cLine) (ha : aV X a Γ M (.ptr p)) (hb : aV X b Γ M (.str x)) (hm : M[n]? = some (p, .dk kvs)) (hd : dGet kvs (.inr x) = some d) (hs : NoSl b := by exact fun _ _ => rfl) : aV X (.Subscript a b pos) Γ M d := ae_dget hu ha hb hm ⟨d, hd, rfl, rfl⟩ hs
theorem as_dput {n : Nat} {p : Addr} {kvs : List (Key × Val)} {ppos : Pos} (hu : X.A.units + 1 < cLine) (ha : aV X a Γ M (.ptr p)) (hb : aV X b Γ M (.str x)) (he : aV X e Γ M d) (hm : M[n]? = some (p, .dk kvs)) (hl : kvs.length < sizeLine) (h : k.nx Γ (M.set n (p, .dk (dPut kvs (.inr x) d))))
    (hs : swapsWith e (some (.Subscript a b ppos)) pos.line X.env = pure false := by rfl) : aS X (.Assign [.Subscript a b ppos] e pos) Γ M k := fun Hi H σ ok en D q => by
  refine ⟨_, ps_dput hu pe_we pe_we pe_we hs, ?_⟩
  refine he Hi H σ ok en _ fun x0 M0 v0 Hi0 H0 h0 s0 ok0 r0 => ?_
  obtain ⟨rfl, rfl⟩ := h0
  refine ha Hi0 H0 σ ok0 (en.mono s0) _ fun x M1 v Hi1 H1 h1 s1 ok1 r1 => ?_
  obtain ⟨rfl, rfl⟩ := h1
  refine hb Hi1 H1 σ ok1 (en.mono (s0.trans s1)) _ fun y M2 w Hi2 H2 h2 s2 ok2 r2 => ?_
  obtain ⟨rfl, rfl⟩ := h2
  cases r1
  cases r2
  obtain ⟨_, o, ho, ks, rfl, rk⟩ := ok2.get hm
  have s02 := (s0.trans s1).trans s2
  exact ⟨p, _, rfl, .inl ⟨ks, .inr _, ho, rfl, by rw [← rk.length]; exact hl, rfl⟩, q.nx _ _ σ Hi2 _ h s02 (ok2.set hm ⟨_, rfl, rk.put (r0.mono (s1.trans s2))⟩) (en.mono s02)⟩
end
end Ab
namespace Ab
open PySem PySem.Spec PyProof.Rows L2
section
variable {X : Cx} {Γ : Gam} {M : Mem} {P : Val → Mem → Prop} {e a b c o : Expr} {es : List Expr} {pos p1 p2 apos : Pos} {k : AK} {d d1 d2 d3 : Val} {i j : Int} {x y f m : Str} {st : Stmt} {sts : List Stmt}
/-! ### blocks -/
theorem as_nil (h : k.nx Γ M) : aSs X [] Γ M k := fun Hi H σ ok en D q => ⟨_, pss_nil, q.nx Γ M σ Hi H h (Same.refl _) ok en⟩
theorem as_cons (h : aS X st Γ M { k with nx := fun Γ' M' => aSs X sts Γ' M' k }) : aSs X (st :: sts) Γ M k := fun Hi H σ ok en D q => by
  refine ⟨_, pss_cons ps_ws pss_wb, ?_⟩
  exact h Hi H σ ok en { D with nx := WB X sts D } ⟨fun Γ' M' σ' Hi' H' hn s ok' en' => hn Hi' H' σ' ok' en' D (q.up s), q.rt, q.bk, q.ct⟩
theorem as_one (h : aS X st Γ M k) : aSs X [st] Γ M k := fun Hi H σ ok en D q => ⟨_, pss_one ps_ws, h Hi H σ ok en D q⟩
theorem aSs.mono {k' : AK} (h : aSs X sts Γ M k) (f1 : ∀ Γ M, k.nx Γ M → k'.nx Γ M) (f2 : ∀ d M, k.rt d M → k'.rt d M) (f3 : ∀ Γ M, k.bk Γ M → k'.bk Γ M) (f4 : ∀ Γ M, k.ct Γ M → k'.ct Γ M) : aSs X sts Γ M k' := fun Hi H σ ok en D q =>
  h Hi H σ ok en D ⟨fun Γ M σ Hi' H' p => q.nx Γ M σ Hi' H' (f1 Γ M p), fun d M v Hi' H' p => q.rt d M v Hi' H' (f2 d M p), fun Γ M σ Hi' H' p => q.bk Γ M σ Hi' H' (f3 Γ M p), fun Γ M σ Hi' H' p => q.ct Γ M σ Hi' H' (f4 Γ M p)⟩
/-- the list in a slot's cell will change no more -/
theorem as_frz (i : Nat) {p : Addr} {xs : List Val} (hΓ : Γ[i]? = some (some (.ptr p))) (h : aSs X sts (Γ.set i (some (.lst xs))) M k) : aSs X sts Γ ((p, .lst xs) :: M) k := fun Hi H σ ok en D q => by
  obtain ⟨e0, o, ho, vs, rfl, ra⟩ := ok.ce p _ List.mem_cons_self
  have s2 := same_upd (o := .lst vs) e0
  obtain ⟨v, hv, rv⟩ := en.2 i _ hΓ
  cases rv
  have en2 := (en.mono s2).set (i := i) (d := .lst xs) (v := .ref p) (.lst (SqL.of upd_same) (ra.mono s2))
  have e : σ.set i (some (V.ref p)) = σ := by
    apply List.ext_getElem?
    intro j
    by_cases hij : i = j
    · subst hij
      rw [List.getElem?_set_self (List.getElem?_eq_some_iff.mp hv).1, hv]
    · rw [List.getElem?_set_ne hij]
  rw [e] at en2
  exact h _ H σ (ok.freeze ho) en2 D (q.up s2)
/-! ### statements -/
theorem as_expr (h : aE X e Γ M fun _ M' => k.nx Γ M') (hs : swapsWith e none pos.line X.env = pure false := by rfl) : aS X (.Expr e pos) Γ M k := fun Hi H σ ok en D q => by
  refine ⟨_, ps_expr pe_we hs, ?_⟩
  exact h Hi H σ ok en _ fun x M1 v Hi1 H1 h1 s1 ok1 r1 => q.nx _ _ σ Hi1 H1 h1 s1 ok1 (en.mono s1)
theorem as_ret (h : aE X e Γ M k.rt) : aS X (.Return (some e) pos) Γ M k := fun Hi H σ ok en D q => by
  refine ⟨_, ps_ret pe_we, ?_⟩
  exact h Hi H σ ok en _ fun x M1 v Hi1 H1 h1 s1 ok1 r1 => q.rt _ _ v Hi1 H1 h1 s1 ok1 r1
theorem as_if {s1 s2 : List Stmt} (h : aT X c Γ M fun b M' => (b = true → aSs X s1 Γ M' k) ∧ (b = false → aSs X s2 Γ M' k)) : aS X (.If c s1 s2 pos) Γ M k := fun Hi H σ ok en D q => by
  refine ⟨_, ps_if pt_wt pss_wb pss_wb, ?_⟩
  refine h Hi H σ ok en _ fun x M1 Hi1 H1 h1 s1 ok1 => ?_
  cases x with
  | true => exact iteT (h1.1 rfl Hi1 H1 σ ok1 (en.mono s1) D (q.up s1))
  | false => exact iteF (h1.2 rfl Hi1 H1 σ ok1 (en.mono s1) D (q.up s1))
/-! ### targets -/
def WG (X : Cx) (tg : Expr) : TG := fun v σ H Q => ∃ t, PG X tg t ∧ t v σ H Q
theorem pg_wg : PG X e (WG X e) := ⟨fun pins s σ H v u Q I r ⟨t, p, h⟩ => p.run pins s σ H v u Q I r h⟩
def aG (X : Cx) (tg : Expr) (d : Val) (Γ : Gam) (M : Mem) (R : Gam → Mem → Prop) : Prop := ∀ Hi H σ v, Ok X.K Hi M H → EnvR X.K Hi Γ σ → Rep X.K Hi d v → ∀ Q : L2.St → Hp → Prop, (∀ Γ' M' σ' Hi' H', R Γ' M' → Same Hi Hi' → Ok X.K Hi' M' H' → EnvR X.K Hi' Γ' σ' → Q σ' H') → WG X tg v σ H Q
theorem ag_name {R : Gam → Mem → Prop} (n : Nat) (hN : X.N.Nodup) (h : R (Γ.set n (some d)) M) (hi : X.N[n]? = some x := by rfl) (hx : Loc X.env.scope x := by first | exact Or.inl rfl | exact Or.inr rfl) (hf : X.fn x = true ∨ X.env.scope.names.lookup x = some .local := by first | exact .inl rfl | exact .inr rfl | assumption) :
    aG X (.Name x pos) d Γ M R := fun Hi H σ v ok en r Q q => ⟨_, pg_name hN hi hx hf, q _ _ _ Hi H h (Same.refl _) ok (en.set r)⟩
def aGs (X : Cx) (tgs : List Expr) (ds : List Val) (Γ : Gam) (M : Mem) (R : Gam → Mem → Prop) : Prop := ∀ Hi H σ vs, Ok X.K Hi M H → EnvR X.K Hi Γ σ → RepA X.K Hi ds vs → ∀ Q : L2.St → Hp → Prop, (∀ Γ' M' σ' Hi' H', R Γ' M' → Same Hi Hi' → Ok X.K Hi' M' H' → EnvR X.K Hi' Γ' σ' → Q σ' H') → ∃ t, PGs X tgs t ∧ t vs σ H Q
def WGs (X : Cx) (tgs : List Expr) : TGs := fun v σ H Q => ∃ t, PGs X tgs t ∧ t v σ H Q
theorem pgs_wgs : PGs X es (WGs X es) := ⟨fun pins s σ H v u Q I r ⟨t, p, h⟩ => p.run pins s σ H v u Q I r h⟩
theorem ags_nil {R : Gam → Mem → Prop} (h : R Γ M) : aGs X [] [] Γ M R := fun Hi H σ vs ok en r Q q => by
  cases r
  exact ⟨_, pgs_nil, rfl, q _ _ _ Hi H h (Same.refl _) ok en⟩
theorem ags_cons {R : Gam → Mem → Prop} {ds : List Val} (h : aG X e d Γ M fun Γ' M' => aGs X es ds Γ' M' R) (hs : (assignEach (e :: es) X.env).map (·.2) = assign e X.env :: (assignEach es X.env).map (·.2) := by rfl) : aGs X (e :: es) (d :: ds) Γ M R := fun Hi H σ vs ok en r Q q => by
  cases r with
  | cons r1 r2 =>
    refine ⟨_, pgs_cons pg_wg pgs_wgs hs, _, _, rfl, ?_⟩
    refine h Hi H σ _ ok en r1 _ fun Γ' M' σ' Hi' H' h1 s1 ok1 en1 => ?_
    exact h1 Hi' H' σ' _ ok1 en1 (r2.mono s1) Q fun Γ2 M2 σ2 Hi2 H2 h2 s2 ok2 en2 => q _ _ _ Hi2 H2 h2 (s1.trans s2) ok2 en2
theorem ag_tup {kk : Nat} {R : Gam → Mem → Prop} {ds : List Val} (hc : X.calm = true) (h : aGs X es ds Γ M R) (hl : (assignEach es X.env).length = ds.length := by rfl) (hst : (assignEach es X.env).findIdx? (·.1) = none := by rfl) : aG X (.Tuple es kk pos) (.tup ds) Γ M R := fun Hi H σ v ok en r Q q => by
  cases r with
  | tup hq ra => exact ⟨_, pg_tup hc pgs_wgs rfl hst, _, _, rfl, sameT ok.im hq, ra.length.symm.trans hl.symm, h Hi H σ _ ok en ra Q q⟩
theorem as_asg {tg : Expr} (he : aE X e Γ M fun d M' => aG X tg d Γ M' k.nx) (hs : swapsWithSole [tg] e pos.line X.env = pure false := by rfl) (hw : swappedStores [tg] e X.env = pure none := by rfl) (h1 : (assignEach [tg] X.env).map (·.2) = [assign tg X.env] := by rfl) : aS X (.Assign [tg] e pos) Γ M k := fun Hi H σ ok en D q => by
  refine ⟨_, ps_asg pe_we pg_wg hs hw h1, ?_⟩
  refine he Hi H σ ok en _ fun x M1 v Hi1 H1 h1 s1 ok1 r1 => ?_
  exact h1 Hi1 H1 σ v ok1 (en.mono s1) r1 _ fun Γ2 M2 σ2 Hi2 H2 h2 s2 ok2 en2 => q.nx _ _ _ Hi2 H2 h2 (s1.trans s2) ok2 en2
theorem as_set {ps : Pos} (n : Nat) (hN : X.N.Nodup) (he : aE X e Γ M fun d M' => k.nx (Γ.set n (some d)) M') (hi : X.N[n]? = some x := by rfl) (hx : Loc X.env.scope x := by first | exact Or.inl rfl | exact Or.inr rfl)
    (hs : swapsWith e (some (.Name x ps)) pos.line X.env = pure false := by rfl) (hf : X.fn x = true ∨ X.env.scope.names.lookup x = some .local := by first | exact .inl rfl | exact .inr rfl | assumption) : aS X (.Assign [.Name x ps] e pos) Γ M k := fun Hi H σ ok en D q => by
  refine ⟨_, ps_set hN hi hx pe_we hs hf, ?_⟩
  exact he Hi H σ ok en _ fun x M1 v Hi1 H1 h1 s1 ok1 r1 => q.nx _ _ _ Hi1 H1 h1 s1 ok1 ((en.mono s1).set r1)
/-- a, b = e1, e2 -/
theorem as_par {px py pt : Pos} {kt k2 pt2} (n m : Nat) (hN : X.N.Nodup) (hc : X.calm = true) (hnm : n ≠ m) (he : aA X [a, b] Γ M fun ds M' => ∃ d1 d2, ds = [d1, d2] ∧ k.nx ((Γ.set n (some d1)).set m (some d2)) M')
    (hi : X.N[n]? = some x := by rfl) (hj : X.N[m]? = some y := by rfl) (hx : X.env.scope.names.lookup x = some .local := by rfl) (hy : X.env.scope.names.lookup y = some .local := by rfl)
    (hw : swappedStores [.Tuple [.Name x px, .Name y py] kt pt] (.Tuple [a, b] k2 pt2) X.env = pure (some [x, y]) := by rfl)
    (hs : swapsWithSole [.Tuple [.Name x px, .Name y py] kt pt] (.Tuple [a, b] k2 pt2) pos.line X.env = pure false := by rfl) : aS X (.Assign [.Tuple [.Name x px, .Name y py] kt pt] (.Tuple [a, b] k2 pt2) pos) Γ M k := fun Hi H σ ok en D q => by
  refine ⟨_, ps_par hc hN hi hj hnm hx hy pa_wa hw hs, ?_⟩
  refine he Hi H σ ok en _ fun ds M1 vs Hi1 H1 h1 s1 ok1 r1 => ?_
  obtain ⟨d1, d2, rfl, h2⟩ := h1
  cases r1 with
  | cons r1 r2 =>
    cases r2 with
    | cons r2 r3 =>
      cases r3
      exact ⟨_, _, rfl, q.nx _ _ _ Hi1 H1 h2 s1 ok1 (((en.mono s1).set r1).set r2)⟩
/-- xs[i] = e -/
theorem ag_sub {n : Nat} {p : Addr} {xs : List Val} {jj : Nat} {R : Gam → Mem → Prop} (ha : aV X a Γ M (.ptr p)) (hb : aV X b Γ M (.int i)) (hm : M[n]? = some (p, .lst xs)) (hj : ixN xs.length i = some jj) (h : R Γ (M.set n (p, .lst (xs.set jj d))))
    (hsl : ∀ v, assign (.Subscript a b pos) X.env v = (do
      let ov ← holding [v] (eval a X.env)
      let iv ← holding [v, ov] (eval b X.env)
      standAt pos
      holding [v, ov, iv] (setItem ov iv v)
      release [v, ov, iv] []) := by intro _; rfl) : aG X (.Subscript a b pos) d Γ M R := fun Hi H σ v ok en r Q q => by
  refine ⟨_, pg_sub pe_we pe_we set_list hsl, ?_⟩
  refine ha Hi H σ ok en _ fun x M1 v1 Hi1 H1 h1 s1 ok1 r1 => ?_
  obtain ⟨rfl, rfl⟩ := h1
  refine hb Hi1 H1 σ ok1 (en.mono s1) _ fun y M2 w Hi2 H2 h2 s2 ok2 r2 => ?_
  obtain ⟨rfl, rfl⟩ := h2
  cases r1
  cases r2
  obtain ⟨_, o, ho, ys, rfl, ra⟩ := ok2.get hm
  have s12 := s1.trans s2
  exact ⟨p, ys, i, jj, rfl, rfl, ho, by rw [← ra.length]; exact hj, q _ _ _ Hi2 _ h s12 (ok2.set hm ⟨_, rfl, ra.set (r.mono s12) jj⟩) (en.mono s12)⟩
/-! ### fields stored -/
theorem as_fld {C : Addr} {ps : Pos} (c : Cls X.K C) (na : NoAttr X.K C f) (he : aE X e Γ M fun d M' => aE X a Γ M' fun o M2 => ∃ n p fs, o = .ptr p ∧ M2[n]? = some (p, .ins C fs) ∧ fs.length < 1000 ∧ k.nx Γ (M2.set n (p, .ins C (putV f d fs))))
    (hs : swapsWith e (some (.Attribute a f ps)) pos.line X.env = pure false := by rfl) : aS X (.Assign [.Attribute a f ps] e pos) Γ M k := fun Hi H σ ok en D q => by
  refine ⟨_, ps_fld pe_we pe_we hs, ?_⟩
  refine he Hi H σ ok en _ fun d M1 v Hi1 H1 h1 s1 ok1 r1 => ?_
  refine h1 Hi1 H1 σ ok1 (en.mono s1) _ fun o M2 w Hi2 H2 h2 s2 ok2 r2 => ?_
  obtain ⟨n, p, fs, rfl, hm, hl, hk⟩ := h2
  cases r2
  obtain ⟨_, o, ho, dx, gs, rfl, rf⟩ := ok2.get hm
  refine ⟨p, C, dx, gs, rfl, ho, c, na, by rw [← rf.length]; exact hl, ?_⟩
  have s12 := s1.trans s2
  exact q.nx _ _ σ Hi2 _ hk s12 (ok2.set hm ⟨dx, _, rfl, rf.put (r1.mono s2)⟩) (en.mono s12)
/-! ### append -/
theorem ae_append {n0 : Nat} {p : Addr} {xs0 : List Val} (ha : aV X a Γ M (.ptr p)) (hm0 : M[n0]? = some (p, .lst xs0)) (he : aE X e Γ M fun y M2 => ∃ n xs, M2[n]? = some (p, .lst xs) ∧ xs.length < sizeLine ∧ P .non (M2.set n (p, .lst (xs ++ [y]))))
    (hbase : attributeBase a "append" X.env (eval a X.env) = eval a X.env := by rfl)
    (hfew : ((backTo pos (starEach [e] X.env)).all (fun x => !x.1) && (backToKw pos (keywordEach [] X.env)).all (fun x => x.1.isSome)
      && decide (([e] : List Expr).length + ([] : List Keyword).length + (if ([] : List Keyword).isEmpty then 0 else 1) < 30)) = true := by rfl)
    (hline : (apos.endLine == pos.line) = true := by rfl) (hs : starEach [e] X.env = (false, eval e X.env) :: starEach [] X.env := by rfl) : aE X (.Call (.Attribute a "append" apos) [e] [] pos) Γ M P := fun Hi H σ ok en Q q => by
  refine ⟨_, pe_bm PySem.F.plainAttrs_list PySem.F.slot_list_append PySem.F.type_list_append mt_append pe_we (pa_cons pe_we pa_nil hs) hbase hfew hline hs rfl, ?_⟩
  refine ha Hi H σ ok en _ fun d M1 v Hi1 H1 h1 s1 ok1 r1 => ?_
  obtain ⟨rfl, rfl⟩ := h1
  cases r1
  obtain ⟨_, o, ho, ys, rfl, ra⟩ := ok1.get hm0
  refine ⟨.inl ⟨rfl, _, SqL.of ho⟩, ?_⟩
  refine he Hi1 H1 σ ok1 (en.mono s1) _ fun y M2 w Hi2 H2 h2 s2 ok2 r2 => ?_
  obtain ⟨n, xs, hm, hl, hp⟩ := h2
  obtain ⟨_, o, ho2, zs, rfl, rz⟩ := ok2.get hm
  exact ⟨p, zs, w, rfl, rfl, ho2, by rw [← rz.length]; exact hl, q _ _ _ Hi2 _ hp (s1.trans s2) (ok2.set hm ⟨_, rfl, rz.append (.cons r2 .nil)⟩) .non⟩
/-! ### loops -/
def WI (X : Cx) (tg iter : Expr) : TI := fun σ H R => ∃ t, PI X tg iter t ∧ t σ H R
theorem pi_wi {tg iter : Expr} : PI X tg iter (WI X tg iter) := ⟨fun pins s σ H R I ⟨t, p, h⟩ => p.run pins s σ H R I h⟩
/-- n turns, the i-th gives it i; while G holds of the cells -/
def aI (X : Cx) (tg iter : Expr) (Γ : Gam) (M : Mem) (n : Nat) (it : Nat → Val) (G : Mem → Prop) (P : Mem → Prop) : Prop := ∀ Hi H σ, Ok X.K Hi M H → EnvR X.K Hi Γ σ → ∀ R : It → Hp → Prop,
  (∀ J M1 Hi1 H1, P M1 → Same Hi Hi1 → Ok X.K Hi1 M1 H1 →
    Walk J n (fun H' => ∃ Hi' M', Same Hi1 Hi' ∧ Ok X.K Hi' M' H' ∧ G M') (fun i H' v H'' => ∀ Hi' M', Same Hi1 Hi' → Ok X.K Hi' M' H' → G M' → ∃ Hi'', Same Hi' Hi'' ∧ Ok X.K Hi'' M' H'' ∧ Rep X.K Hi'' (it i) v) → R J H1) → WI X tg iter σ H R
theorem as_for {tg iter : Expr} {body : List Stmt} {n : Nat} {it : Nat → Val} {G : Mem → Prop} (I : Nat → Gam → Mem → Prop) (hp : PassesOwn (model X.prog X.w) X.A X.env X.xe) (hc : X.calm = true) (hi : aI X tg iter Γ M n it G (I 0 Γ)) (hG : ∀ i Γ M, i ≤ n → I i Γ M → G M)
    (hs : ∀ i Γ M, i < n → I i Γ M → aG X tg (it i) Γ M fun Γ2 M2 => aSs X body Γ2 M2 { k with nx := I (i + 1), ct := I (i + 1), bk := k.nx }) (hd : ∀ Γ M, I n Γ M → k.nx Γ M)
    (hf : ∀ x, foldedSetIterable iter X.env x = pure x := by intro _; rfl) : aS X (.For tg iter body [] pos) Γ M k := fun Hi H σ ok en D q => by
  refine ⟨_, ps_for hp hc pi_wi pg_wg pss_wb hf, ?_⟩
  refine hi Hi H σ ok en _ fun J M1 Hi1 H1 h1 s1 ok1 w => ?_
  refine for_it w (fun i σ' H' => ∃ Γ' M' Hi', I i Γ' M' ∧ Same Hi1 Hi' ∧ Ok X.K Hi' M' H' ∧ EnvR X.K Hi' Γ' σ') ⟨Γ, M1, Hi1, h1, Same.refl _, ok1, en.mono s1⟩ ?_ ?_ ?_
  · rintro i σ' H' hi ⟨Γ', M', Hi', h2, s2, ok2, en2⟩
    exact ⟨Hi', M', s2, ok2, hG i Γ' M' hi h2⟩
  · rintro i v σ' H' H'' hi ⟨Γ', M', Hi', h2, s2, ok2, en2⟩ hy
    obtain ⟨Hi3, s3, ok3, r3⟩ := hy Hi' M' s2 ok2 (hG i Γ' M' (Nat.le_of_lt hi) h2)
    have s13 := (s1.trans s2).trans s3
    refine hs i Γ' M' hi h2 Hi3 H'' σ' v ok3 (en2.mono s3) r3 _ fun Γ4 M4 σ4 Hi4 H4 h4 s4 ok4 en4 => ?_
    have s24 := (s2.trans s3).trans s4
    exact h4 Hi4 H4 σ4 ok4 en4 _ ⟨fun Γ5 M5 σ5 Hi5 H5 h5 s5 ok5 en5 => ⟨Γ5, M5, Hi5, h5, s24.trans s5, ok5, en5⟩, (q.up (s13.trans s4)).rt, (q.up (s13.trans s4)).nx, fun Γ5 M5 σ5 Hi5 H5 h5 s5 ok5 en5 => ⟨Γ5, M5, Hi5, h5, s24.trans s5, ok5, en5⟩⟩
  · rintro σ' H' ⟨Γ', M', Hi', h2, s2, ok2, en2⟩
    exact q.nx Γ' M' σ' Hi' H' (hd Γ' M' h2) (s1.trans s2) ok2 en2
theorem as_while {body : List Stmt} (I : Nat → Gam → Mem → Prop) (n : Nat) (hp : PassesOwn (model X.prog X.w) X.A X.env X.xe) (h0 : I n Γ M)
    (hs : ∀ n Γ M, I n Γ M → aT X c Γ M fun b M1 => (b = true → aSs X body Γ M1 { k with nx := fun Γ' M' => ∃ m, m < n ∧ I m Γ' M', ct := fun Γ' M' => ∃ m, m < n ∧ I m Γ' M', bk := k.nx }) ∧ (b = false → k.nx Γ M1)) : aS X (.While c body [] pos) Γ M k := fun Hi H σ ok en D q => by
  refine ⟨_, ps_while hp pt_wt pss_wb, ?_⟩
  refine ⟨fun m σ' H' => ∃ Γ' M' Hi', I m Γ' M' ∧ Same Hi Hi' ∧ Ok X.K Hi' M' H' ∧ EnvR X.K Hi' Γ' σ', ⟨n, Γ, M, Hi, h0, Same.refl _, ok, en⟩, ?_⟩
  rintro m σ' H' ⟨Γ', M', Hi', h2, s2, ok2, en2⟩
  refine hs m Γ' M' h2 Hi' H' σ' ok2 en2 _ fun b M3 Hi3 H3 h3 s3 ok3 => ?_
  cases b with
  | true =>
    refine iteT ⟨fun σ5 H5 => ∃ Γ5 M5 Hi5, (∃ m', m' < m ∧ I m' Γ5 M5) ∧ Same Hi3 Hi5 ∧ Ok X.K Hi5 M5 H5 ∧ EnvR X.K Hi5 Γ5 σ5, ?_, ?_⟩
    · rintro σ5 H5 ⟨Γ5, M5, Hi5, ⟨m', hl, h5⟩, s5, ok5, en5⟩
      exact ⟨m', hl, Γ5, M5, Hi5, h5, (s2.trans s3).trans s5, ok5, en5⟩
    · have q3 := q.up (s2.trans s3)
      exact h3.1 rfl Hi3 H3 σ' ok3 (en2.mono s3) _ ⟨fun Γ5 M5 σ5 Hi5 H5 h5 s5 ok5 en5 => ⟨Γ5, M5, Hi5, h5, s5, ok5, en5⟩, q3.rt, q3.nx, fun Γ5 M5 σ5 Hi5 H5 h5 s5 ok5 en5 => ⟨Γ5, M5, Hi5, h5, s5, ok5, en5⟩⟩
  | false => exact iteF (q.nx Γ' M3 σ' Hi3 H3 (h3.2 rfl) (s2.trans s3) ok3 (en2.mono s3))
/-! ### what is walked -/
theorem Sq.at {K : PySem.W.Frag} {H : Hp} {ds : List Val} {vs : List V} {i : Nat} {v : V} (r : RepA K H ds vs) (h : vs[i]? = some v) : Rep K H (ds.getD i .non) v := by
  obtain ⟨d, h1, h2⟩ := r.getV h
  rw [List.getD_eq_getElem?_getD, h1]
  exact h2
theorem ai_lst {tg : Expr} {R : Mem → Prop} {xs : List Val} (ha : aE X a Γ M fun d M' => d = .lst xs ∧ R M') : aI X tg a Γ M xs.length (fun i => xs.getD i .non) (fun _ => True) R := fun Hi H σ ok en R' q => by
  refine ⟨_, pi_list pe_we, ?_⟩
  refine ha Hi H σ ok en _ fun d M1 v Hi1 H1 h1 s1 ok1 r1 => ?_
  obtain ⟨rfl, hp⟩ := h1
  cases r1 with
  | @lst p ys _ hq ra =>
    refine ⟨p, rfl, ⟨ys, ok1.im.seq hq⟩, q _ M1 Hi1 H1 hp s1 ok1 ?_⟩
    rw [ra.length]
    refine walk_list.mono (fun H' hG => ?_) fun i H' v H'' hi hG hy Hi' M' s2 ok2 _ => ?_
    · obtain ⟨Hi', M', s2, ok2, _⟩ := hG
      exact ok2.im.seq (s2.seq hq)
    · obtain ⟨rfl, hv⟩ := hy
      exact ⟨Hi', Same.refl _, ok2, (Sq.at ra hv).mono s2⟩
theorem ai_tup {tg : Expr} {R : Mem → Prop} {xs : List Val} (ha : aE X a Γ M fun d M' => d = .tup xs ∧ R M') : aI X tg a Γ M xs.length (fun i => xs.getD i .non) (fun _ => True) R := fun Hi H σ ok en R' q => by
  refine ⟨_, pi_tup pe_we, ?_⟩
  refine ha Hi H σ ok en _ fun d M1 v Hi1 H1 h1 s1 ok1 r1 => ?_
  obtain ⟨rfl, hp⟩ := h1
  cases r1 with
  | @tup p ys _ hq ra =>
    refine ⟨p, rfl, ⟨ys, sameT ok1.im hq⟩, q _ M1 Hi1 H1 hp s1 ok1 ?_⟩
    rw [ra.length]
    refine walk_tup.mono (fun H' hG => ?_) fun i H' v H'' hi hG hy Hi' M' s2 ok2 _ => ?_
    · obtain ⟨Hi', M', s2, ok2, _⟩ := hG
      exact sameT ok2.im (sameT s2 hq)
    · obtain ⟨rfl, hv⟩ := hy
      exact ⟨Hi', Same.refl _, ok2, (Sq.at ra hv).mono s2⟩
theorem ai_range1 {tg : Expr} {R : Mem → Prop} {n : Nat} (hm : X.mg "range" = none) (ha : aE X a Γ M fun d M' => ∃ j : Int, d = .int j ∧ j.toNat = n ∧ -(2 ^ 62) ≤ j ∧ j < 2 ^ 62 ∧ R M') (hg : Gl X "range" := by rfl) (hs : starEach [a] X.env = [(false, eval a X.env)] := by rfl) :
    aI X tg (.Call (.Name "range" p1) [a] [] pos) Γ M n (fun i => .int (0 + i)) (fun _ => True) R := fun Hi H σ ok en R' q => by
  refine ⟨_, pi_range1 hg hm (pa_cons pe_we pa_nil hs) hs, ?_⟩
  refine ha Hi H σ ok en _ fun d M1 v Hi1 H1 h1 s1 ok1 r1 => ?_
  obtain ⟨j, rfl, rfl, hl, hh, hp⟩ := h1
  cases r1
  refine ⟨j, rfl, hl, hh, q _ M1 Hi1 H1 hp s1 ok1 ?_⟩
  refine walk_range.mono (fun _ _ => trivial) fun i H' v H'' hi hG hy Hi' M' s2 ok2 _ => ?_
  obtain ⟨rfl, rfl⟩ := hy
  exact ⟨Hi', Same.refl _, ok2, .int _⟩
theorem ai_range2 {tg : Expr} {R : Mem → Prop} {n : Nat} {lo : Int} (hm : X.mg "range" = none) (ha : aA X [a, b] Γ M fun ds M' => ∃ hi : Int, ds = [.int lo, .int hi] ∧ (hi - lo).toNat = n ∧ (-(2 ^ 62) ≤ lo ∧ lo < 2 ^ 62 ∧ -(2 ^ 62) ≤ hi ∧ hi < 2 ^ 62) ∧ R M') (hg : Gl X "range" := by rfl)
    (hs : starEach [a, b] X.env = [(false, eval a X.env), (false, eval b X.env)] := by rfl) (hs2 : starEach [b] X.env = [(false, eval b X.env)] := by rfl) :
    aI X tg (.Call (.Name "range" p1) [a, b] [] pos) Γ M n (fun i => .int (lo + i)) (fun _ => True) R := fun Hi H σ ok en R' q => by
  refine ⟨_, pi_range2 hg hm pa_wa hs hs2, ?_⟩
  refine ha Hi H σ ok en _ fun d M1 v Hi1 H1 h1 s1 ok1 r1 => ?_
  obtain ⟨hi, rfl, rfl, hb, hp⟩ := h1
  cases r1 with
  | cons r1 r2 =>
    cases r2 with
    | cons r2 r3 =>
      cases r3
      cases r1
      cases r2
      refine ⟨lo, hi, rfl, hb, q _ M1 Hi1 H1 hp s1 ok1 ?_⟩
      refine walk_range.mono (fun _ _ => trivial) fun i H' v H'' hi hG hy Hi' M' s2 ok2 _ => ?_
      obtain ⟨rfl, rfl⟩ := hy
      exact ⟨Hi', Same.refl _, ok2, .int _⟩
theorem ai_enumL {elts : List Expr} {kk : Nat} {tpos : Pos} {R : Mem → Prop} {xs : List Val} (hm : X.mg "enumerate" = none) (ha : aE X a Γ M fun d M' => d = .lst xs ∧ R M') (hg : Gl X "enumerate" := by rfl) (hs : starEach [a] X.env = [(false, eval a X.env)] := by rfl) :
    aI X (.Tuple elts kk tpos) (.Call (.Name "enumerate" p1) [a] [] pos) Γ M xs.length (fun i => .tup [.int i, xs.getD i .non]) (fun _ => True) R := fun Hi H σ ok en R' q => by
  refine ⟨_, pi_enum hg hm (pa_cons pe_we pa_nil hs) hs, ?_⟩
  refine ha Hi H σ ok en _ fun d M1 v Hi1 H1 h1 s1 ok1 r1 => ?_
  obtain ⟨rfl, hp⟩ := h1
  cases r1 with
  | @lst p ys _ hq ra =>
    refine ⟨p, ys, rfl, ok1.im.seq hq, q _ M1 Hi1 H1 hp s1 ok1 ?_⟩
    rw [ra.length]
    refine walk_enum.mono (fun H' hG => ?_) fun i H' v H'' hi hG hy Hi' M' s2 ok2 _ => ?_
    · obtain ⟨Hi', M', s2, ok2, _⟩ := hG
      exact ok2.im.seq (s2.seq hq)
    · obtain ⟨T, x, y, rfl, hT, rfl, hx, hy⟩ := hy
      cases hx
      have s3 := same_upd (o := .tup [.int (i : Nat), y]) (ok2.none hT)
      exact ⟨_, s3, ok2.imm hT, .tup (SqT.of upd_same) (.cons (.int _) (.cons ((Sq.at ra hy).mono (s2.trans s3)) .nil))⟩
end
end Ab
namespace Ab
open PySem PySem.Spec PyProof.Rows L2
/-! ### promises -/
/-- positional arguments, cells, what follows -/
abbrev ASp := List Val → Mem → (Val → Mem → Prop) → Prop
/-- .. and the keywords' values -/
abbrev ASx := List Val → List Val → Mem → (Val → Mem → Prop) → Prop
def spA (K : PySem.W.Frag) (s : ASp) : Sp := fun vs H Q _ => ∃ Hi M ds P, RepA K Hi ds vs ∧ Ok K Hi M H ∧ s ds M P ∧ Post K Hi P Q
def spX (K : PySem.W.Frag) (s : ASx) (vs zs : List V) (H : Hp) (Q : VK) : Prop := ∃ Hi M ds es P, RepA K Hi ds vs ∧ RepA K Hi es zs ∧ Ok K Hi M H ∧ s ds es M P ∧ Post K Hi P Q
/-- the end of a def: cells of its own are forgotten, or will change no more -/
inductive Ret (P : Val → Mem → Prop) : Val → Mem → Prop
  | ok {d : Val} {M : Mem} : P d M → Ret P d M
  | drop {d : Val} {M : Mem} {c : Addr × Cell} : Ret P d M → Ret P d (c :: M)
  | frz {p : Addr} {xs : List Val} {M : Mem} : Ret P (.lst xs) M → Ret P (.ptr p) ((p, .lst xs) :: M)
  | obj {p C : Addr} {fs : List (Str × Val)} {M : Mem} : Ret P (.obj C fs) M → Ret P (.ptr p) ((p, .ins C fs) :: M)
  | tr {d : Val} {M M' : Mem} : (∀ K Hi H, Ok K Hi M H → Ok K Hi M' H) → Ret P d M' → Ret P d M
theorem Ret.post {K : PySem.W.Frag} {P : Val → Mem → Prop} {Q : VK} {d : Val} {M : Mem} (h : Ret P d M) : ∀ {Hi Hi' H' : Hp} {v : V}, Post K Hi P Q → Same Hi Hi' → Ok K Hi' M H' → Rep K Hi' d v → Q v H' := by
  induction h with
  | ok hp => exact fun q s ok r => q _ _ _ _ _ hp s ok r
  | drop _ ih => exact fun q s ok r => ih q s (Ok.tail ok) r
  | tr t _ ih => exact fun q s ok r => ih q s (t _ _ _ ok) r
  | frz _ ih =>
    intro Hi Hi' H' v q s ok r
    obtain ⟨e0, o, ho, vs, rfl, ra⟩ := ok.ce _ _ List.mem_cons_self
    cases r
    have s2 := same_upd (o := .lst vs) e0
    exact ih q (s.trans s2) (ok.freeze ho) (.lst (SqL.of upd_same) (ra.mono s2))
  | @obj p C fs M _ ih =>
    intro Hi Hi' H' v q s ok r
    obtain ⟨e0, o, ho, dx, gs, rfl, ra⟩ := ok.ce _ _ List.mem_cons_self
    cases r
    have s2 := same_upd (o := .ins C dx gs) e0
    exact ih q (s.trans s2) (ok.freeze ho) (.obj upd_same (ra.mono s2))
/-- the slots at a def's entry -/
def gam (N : List Str) (ds : List Val) : Gam := ds.map some ++ List.replicate (N.length - ds.length) none
theorem env_start {K : PySem.W.Frag} {H : Hp} {N : List Str} {ds : List Val} {vs : List V} (r : RepA K H ds vs) : EnvR K H (gam N ds) (L2.start N vs) := by
  refine ⟨by simp [gam, L2.start, r.length], fun i d h => ?_⟩
  unfold gam at h
  unfold L2.start
  by_cases hi : i < ds.length
  · rw [List.getElem?_append_left (by simpa using hi), List.getElem?_map] at h
    obtain ⟨d', h1, h2⟩ := Option.map_eq_some_iff.mp h
    cases h2
    obtain ⟨v, h3, h4⟩ := r.get h1
    refine ⟨v, ?_, h4⟩
    rw [List.getElem?_append_left (by rw [List.length_map, ← r.length]; exact hi), List.getElem?_map, h3]
    rfl
  · rw [List.getElem?_append_right (by simpa using Nat.le_of_not_lt hi)] at h
    have := List.mem_of_getElem? h
    rw [List.mem_replicate] at this
    cases this.2
abbrev kOf (P : Val → Mem → Prop) : AK := { nx := fun _ M => Ret P .non M, rt := Ret P }
/-- the context of a def's body -/
abbrev bcx (P : Program) (w : World) (K : PySem.W.Frag) (mg : Str → Option Value) (base : Heap) (N : List Str) (qual : Str) (sc : Scope) (f : Addr) (cdv : Value) (A : Around) (outer : List Env) (s : Shared) (H : Hp) (E : XK) : Cx := (cxOf CX0 P w K mg base N qual sc f cdv A outer s H E).nox
/-- room for k calls, nothing guarded -/
structure Rm (k : Nat) (A : Around) : Prop where
  room : Room k A
  gd : A.guards = some []
theorem Rm.mono {j k : Nat} {A : Around} (r : Rm k A) (h : j ≤ k) : Rm j A := ⟨r.room.mono h, r.gd⟩
theorem Rm.deeper {k : Nat} {A : Around} (r : Rm (k + 1) A) (env : Env) : Rm k (A.deeper env) := ⟨r.room.deeper env, r.gd⟩
theorem Rm.in1 {k : Nat} {A : Around} (r : Rm (k + 1) A) : Rm k A.in1 := ⟨r.room.in1, r.gd⟩
theorem Rm.make {k : Nat} {A : Around} (r : Rm (k + 1) A) (C : Addr) (us : List Value) (kw : List (Str × Value)) : Rm k (A.under (.builtin "type.__call__" ⟨.ref C :: us, kw⟩)) := ⟨r.room.make C us kw, by
  show pushGuards (Code.builtin "type.__call__" ⟨.ref C :: us, kw⟩).guards A.guards = some []
  rw [r.gd]
  first | rfl | simp [Code.guards, pushGuards]⟩
theorem Rm.u1 {k : Nat} {A : Around} (r : Rm k A) : A.units + 1 < cLine := hu_of r.room
theorem Rm.u64 {k : Nat} {A : Around} (r : Rm k A) : A.units + 64 < cLine := Nat.lt_of_le_of_lt (by omega) r.room.un
section
variable {P : Program} {w : World} {K : PySem.W.Frag} {mg : Str → Option Value} {base : Heap}
theorem body_of {N : List Str} {qual : Str} {sc : Scope} {f : Addr} {cdv : Value} {A : Around} {outer : List Env} {s : Shared} {H : Hp} {E : XK} {body : List Stmt} {s0 : ASp} {vs : List V} {Q : VK}
    (hb : ∀ ds M R, s0 ds M R → aSs (bcx P w K mg base N qual sc f cdv A outer s H E) body (gam N ds) M (kOf R)) (h : spA K s0 vs H Q E) :
    ∃ t, PSs (bcx P w K mg base N qual sc f cdv A outer s H E) body t ∧ t { nx := fun _ H' => Q .non H', rt := Q } (L2.start N vs) H := by
  obtain ⟨Hi, M, ds, R, r, ok, hs, q⟩ := h
  refine hb ds M R hs Hi H _ ok (env_start r) _ ⟨fun Γ M' σ Hi' H' h1 s1 ok1 _ => h1.post q s1 ok1 .non, fun d M' v Hi' H' h1 s1 ok1 r1 => h1.post q s1 ok1 r1, fun _ _ _ _ _ z => z.elim, fun _ _ _ _ _ z => z.elim⟩
/-- a def by its call: ks the keywords of the call -/
structure FnX (P : Program) (w : World) (K : PySem.W.Frag) (mg : Str → Option Value) (base : Heap) (k : Nat) (f : Addr) (ks : List Str) (sp : List V → List V → Hp → VK → Prop) : Prop where
  run : ∀ (A : Around) (outer : List Env) (s : Shared) (H : Hp) (us ws : List Value) (vs zs : List V) (Q : VK), Rm k A → Env0 P w K mg base A outer s H → Vals vs us → Vals zs ws → zs.length = ks.length → sp vs zs H Q →
    codeAny (model P w) A (.call (.ref f) ⟨us, ks.zip ws⟩) (CR CX0 outer P w H s Q E0) s
theorem FnX.mono {j k : Nat} {f : Addr} {ks : List Str} {sp : List V → List V → Hp → VK → Prop} (F : FnX P w K mg base j f ks sp) (h : j ≤ k) : FnX P w K mg base k f ks sp := ⟨fun A outer s H us ws vs zs Q hr => F.run A outer s H us ws vs zs Q (hr.mono h)⟩
/-- what a def's body must do, in every context in which it may be called -/
abbrev BodyOk (P : Program) (w : World) (K : PySem.W.Frag) (mg : Str → Option Value) (base : Heap) (k : Nat) (f : Addr) (N : List Str) (qual : Str) (sc : Scope) (body : List Stmt) (s0 : ASp) : Prop :=
  ∀ cdv A outer s H E, Rm k (A.deeper (envOfC qual sc s.heap.objs.size f cdv)) → ∀ ds M R, s0 ds M R → aSs (bcx P w K mg base N qual sc f cdv A outer s H E) body (gam N ds) M (kOf R)
theorem fnx_kbn {x qual : Str} {params : Arguments} {body : List Stmt} {sc : Scope} {dvs : List V} {kws : List (Str × V)} {f : Addr} {fd : FuncData} {N ps ks : List Str} {k n : Nat} {s0 : ASp} {g : List Value → List Value → List Value} {gV : List V → List V → List V} (gA : List Val → List Val → List Val)
    (F : FunD K x qual params body sc dvs kws f fd) (S : FnScope N ps sc) (b : KBn K fd ps n ks g gV)
    (hrel : ∀ H ds vs es zs, RepA K H ds vs → RepA K H es zs → ds.length = n → es.length = ks.length → RepA K H (gA ds es) (gV vs zs)) (len : ∀ ds M R, s0 ds M R → ds.length = ps.length)
    (hb : BodyOk P w K mg base k f N qual sc body s0) : FnX P w K mg base (k + 1) f ks (spX K fun ds es M R => ds.length = n ∧ s0 (gA ds es) M R) := by
  refine ⟨fun A outer s H us ws vs zs Q hr e0 r rz hz ⟨Hi, M, ds, es, R, ra, re, ok, ⟨hn, hs⟩, q⟩ => ?_⟩
  obtain ⟨oc, od, dV, kV, doc, pm, an, cdv, ct, osl, rfl, lk, hcd, _, _⟩ := F.ex
  have KX : K.In s.heap := e0.mod.kin.keeps fun b o e => (e0.bs b o e).1
  have hbt := b.to s us ws KX (by rw [← r.length, ← ra.length]; exact hn) (by rw [← rz.length]; exact hz)
  have rg := hrel Hi ds vs es zs ra re hn (re.length.trans hz)
  have hl : (gV vs zs).length = ps.length := rg.length.symm.trans (len _ _ _ hs)
  refine StX.run_bnd (CX := CX0) (E := E0) (G := fun vs' H2 => vs' = gV vs zs ∧ H2 = H) lk hcd S hr.room e0 (fun A' Ex Q' h => ?_) fun s2 H2 vs' hG hr' => ?_
  · exact hbt _ _ _ _ (h s H (gV vs zs) (g us ws) e0 Un.refl rfl (fun _ _ z => z) (b.rel r rz) hl ⟨rfl, rfl⟩)
  · obtain ⟨rfl, rfl⟩ := hG
    obtain ⟨t, p, z⟩ := body_of (hb cdv A outer s2 H2 E0 (hr.deeper _)) (Q := Q) (vs := gV vs zs) ⟨Hi, M, gA ds es, R, rg, ok, hs, q⟩
    exact ⟨t, p.nox, z⟩
theorem fun_d {x qual : Str} {st : Stmt} {f : Addr} {fd : FuncData} (F : Fun K x qual st f fd) : FunD K x qual (defArgs st) (defBody st) (defScope st) [] [] f fd := by
  obtain ⟨⟨oc, od, kV, doc, pm, an, cdv, ct, osl, rfl, lk, hcd⟩, kp⟩ := F
  exact ⟨⟨oc, od, .none, kV, doc, pm, an, cdv, ct, osl, rfl, lk, hcd, .inl ⟨rfl, rfl⟩, .inl rfl⟩, kp⟩
end
/-! ### calls -/
section
variable {X : Cx} {Γ : Gam} {M : Mem} {P : Val → Mem → Prop} {e a b c o : Expr} {es : List Expr} {kws : List Keyword} {pos p1 p2 apos kpos : Pos} {k : AK} {d d1 d2 d3 : Val} {i j : Int} {x y m : Str} {n : Nat} {f C : Addr} {ks : List Str} {sx : ASx} {nm : Option Str}
theorem run_x {pins : List (Addr × Obj)} {σ : L2.St} {H : Hp} {s : Shared} {Q : VK} {us ws : List Value} {vs zs : List V} {sp : List V → List V → Hp → VK → Prop} (F : FnX X.prog X.w X.K X.mg X.base n f ks sp) (hr : Rm n X.A)
    (I : Inv X pins σ H s) (r : Vals vs us) (rz : Vals zs ws) (l2 : zs.length = ks.length) (h : sp vs zs H Q) : wpAny (model X.prog X.w) X.A (call (.ref f) us (ks.zip ws)) (EP X pins σ Q) X.xe s := by
  refine wpAny_call (codeAny_mono (F.run X.A X.stack s H us ws vs zs Q hr I.env0 r rz l2 h) fun r s' hq => ?_)
  cases r with
  | error e => exact False.elim hq
  | ok fl =>
    cases fl with
    | ret u => exact I.after hq
    | next => exact False.elim hq
    | brk => exact False.elim hq
    | cont => exact False.elim hq
def aKw (X : Cx) (kws : List Keyword) (Γ : Gam) (M : Mem) (P : List Val → Mem → Prop) : Prop := ∀ Hi H σ, Ok X.K Hi M H → EnvR X.K Hi Γ σ → ∀ Q, PostA X.K Hi P Q → ∃ t, PK X kws t ∧ t σ H Q
def WK (X : Cx) (kws : List Keyword) : TA := fun σ H Q => ∃ t, PK X kws t ∧ t σ H Q
theorem pk_wk : PK X kws (WK X kws) := ⟨fun pos pins s σ H Q I ⟨t, p, h⟩ => p.run pos pins s σ H Q I h⟩
theorem ak_nil {P : List Val → Mem → Prop} (h : P [] M) : aKw X [] Γ M P := fun Hi H σ ok en Q q => ⟨_, pk_nil, q _ _ _ Hi H h (Same.refl _) ok .nil⟩
theorem ak_cons {P : List Val → Mem → Prop} (h : aE X e Γ M fun x M1 => aKw X kws Γ M1 fun xs M2 => P (x :: xs) M2) : aKw X (⟨nm, e, kpos⟩ :: kws) Γ M P := fun Hi H σ ok en Q q => by
  refine ⟨_, pk_cons pe_we pk_wk, ?_⟩
  refine h Hi H σ ok en _ fun x M1 v Hi1 H1 h1 s1 ok1 r1 => ?_
  exact h1 Hi1 H1 σ ok1 (en.mono s1) _ fun xs M2 vs Hi2 H2 h2 s2 ok2 r2 => q _ _ _ Hi2 H2 h2 (s1.trans s2) ok2 (.cons (r1.mono s2) r2)
/-- f(e, .., k = v, ..) -/
theorem ae_call (F : FnX X.prog X.w X.K X.mg X.base n f ks (spX X.K sx)) (hr : Rm n X.A) (hm : X.mg x = some (.ref f)) (hk : PySem.W.keepIn X.K (.ref f) = true) (h : aA X (e :: es) Γ M fun ds M1 => aKw X kws Γ M1 fun zs M2 => zs.length = ks.length ∧ sx ds zs M2 P)
    (hg : Gl X x := by rfl) (hall : (backToKw pos (keywordEach kws X.env)).all (·.1.isSome) = true := by rfl) (hks : (backToKw pos (keywordEach kws X.env)).filterMap (·.1) = ks := by rfl) (hdb : (x == ("__debug__" : Str)) = false := by decide)
    (he : starEach (e :: es) X.env = (false, eval e X.env) :: starEach es X.env := by rfl) (hpl : ((backTo pos (starEach (e :: es) X.env)).any (·.1) || (backToKw pos (keywordEach kws X.env)).any (·.1.isNone)) = false := by rfl) : aE X (.Call (.Name x p1) (e :: es) kws pos) Γ M P := fun Hi H σ ok en Q q => by
  refine ⟨fun σ H Q => WA X (e :: es) σ H fun vs H1 => WK X kws σ H1 fun zs H2 => zs.length = ks.length ∧ spX X.K sx vs zs H2 Q, ⟨fun pins s σ H Q I h => ?_⟩, ?_⟩
  · refine wpAny_Call_Name_kw (ld_glob I hg hm ?_ hdb)
    refine PySem.W.callWith_KW (h₀ := X.base) I.ok.mod.kin hk hall (thn (pa_wa.run pos pins s σ H _ I h) fun us s1 ⟨vs, H1, I1, r, q⟩ => ?_) hpl he
    refine thn (pk_wk.run pos pins s1 σ H1 _ I1 q) fun ws s2 ⟨zs, H2, I2, rz, l2, q2⟩ => ⟨I2.kIn, ?_⟩
    rw [hks]
    exact run_x F hr I2 r rz l2 q2
  · refine h Hi H σ ok en _ fun ds M1 vs Hi1 H1 h1 s1 ok1 r1 => ?_
    refine h1 Hi1 H1 σ ok1 (en.mono s1) _ fun zs M2 ws Hi2 H2 h2 s2 ok2 r2 => ?_
    exact ⟨r2.length.symm.trans h2.1, Hi2, M2, ds, zs, P, r1.mono s2, r2, ok2, h2.2, q.up (s1.trans s2)⟩
/-- o.m(e, .., k = v, ..) -/
theorem ae_meth {pl : Sem Bool} {fs : List (Str × Val)} (c : Cls X.K C) (hm : Meth X.K C m f) (F : FnX X.prog X.w X.K X.mg X.base n f ks (spX X.K sx)) (hr : Rm n X.A) (ho : aV X o Γ M d) (hob : Ob M C d fs) (hl : fs.lookup m = none)
    (h : aA X (e :: es) Γ M fun ds M1 => aKw X kws Γ M1 fun zs M2 => zs.length = ks.length ∧ sx (d :: ds) zs M2 P)
    (hall : (backToKw pos (keywordEach kws X.env)).all (·.1.isSome) = true := by rfl) (hks : (backToKw pos (keywordEach kws X.env)).filterMap (·.1) = ks := by rfl)
    (he : starEach (e :: es) X.env = (false, eval e X.env) :: starEach es X.env := by rfl) (hpl : ((backTo pos (starEach (e :: es) X.env)).any (·.1) || (backToKw pos (keywordEach kws X.env)).any (·.1.isNone)) = false := by rfl)
    (ht : eval (.Call (.Attribute o m apos) (e :: es) kws pos) X.env = (do
      let ov ← eval o X.env
      standAt apos.atName
      let (f, first) ← holding [ov] (getMethod ov m pl)
      callWith pos f first (backTo pos (starEach (e :: es) X.env)) (backToKw pos (keywordEach kws X.env))) := by rfl) : aE X (.Call (.Attribute o m apos) (e :: es) kws pos) Γ M P := fun Hi H σ ok en Q q => by
  refine ⟨fun σ H Q => WE X o σ H fun x H0 => ∃ a dx fs, x = .ref a ∧ H0 a = some (.ins C dx fs) ∧ fs.lookup m = none ∧ WA X (e :: es) σ H0 fun vs H1 => WK X kws σ H1 fun zs H2 => zs.length = ks.length ∧ spX X.K sx (x :: vs) zs H2 Q, ⟨fun pins s σ H Q I h => ?_⟩, ?_⟩
  · refine PySem.W.methodCall_KW (pl := pl) (thn (pe_we.run pins s σ H _ I h) fun u s1 ⟨x, H1, I1, rx, a, dx, fs, ex, ea, l, q⟩ => ?_) ht
    subst ex
    obtain rfl : u = Value.ref a := rx
    refine getmeth_ok I1 ea c hm l ?_
    refine PySem.W.callWith_KW (first := [.ref a]) (h₀ := X.base) I.ok.mod.kin hm.kp hall (thn (pa_wa.run pos pins s1 σ H1 _ I1 q) fun us s2 ⟨vs, H2, I2, r, q2⟩ => ?_) hpl he
    refine thn (pk_wk.run pos pins s2 σ H2 _ I2 q2) fun ws s3 ⟨zs, H3, I3, rz, l2, q3⟩ => ⟨I3.kIn, ?_⟩
    rw [hks]
    exact run_x (us := .ref a :: us) (vs := .ref a :: vs) F hr I3 (.cons rfl r) rz l2 q3
  · refine ho Hi H σ ok en _ fun x M0 v0 Hi0 H0 h0 s0 ok0 r0 => ?_
    obtain ⟨rfl, rfl⟩ := h0
    obtain ⟨p, dx, gs, rfl, hp, rf⟩ := hob.rep ok0 r0
    refine ⟨p, dx, gs, rfl, hp, rf.none hl, ?_⟩
    refine h Hi0 H0 σ ok0 (en.mono s0) _ fun ds M1 vs Hi1 H1 h1 s1 ok1 r1 => ?_
    refine h1 Hi1 H1 σ ok1 (en.mono (s0.trans s1)) _ fun zs M2 ws Hi2 H2 h2 s2 ok2 r2 => ?_
    exact ⟨r2.length.symm.trans h2.1, Hi2, M2, _ :: ds, zs, P, .cons (r0.mono (s1.trans s2)) (r1.mono s2), r2, ok2, h2.2, q.up ((s0.trans s1).trans s2)⟩
/-- C(e, .., k = v, ..) -/
theorem run_mk {pins : List (Addr × Obj)} {σ : L2.St} {H : Hp} {s : Shared} {Q : VK} {us ws : List Value} {vs zs : List V} {sp : List V → List V → Hp → VK → Prop} (Mk_ : Mk X.K C f) (F : FnX X.prog X.w X.K X.mg X.base n f ks sp) (hr : Rm (n + 1) X.A)
    (I : Inv X pins σ H s) (r : Vals vs us) (rz : Vals zs ws) (l2 : zs.length = ks.length)
    (h : ∀ x dx, H x = none → H dx = none → dx ≠ x → sp (.ref x :: vs) zs (upd (upd H dx (.own x)) x (.ins C dx [])) (fun v H2 => v = .non ∧ Q (.ref x) H2)) :
    wpAny (model X.prog X.w) X.A (call (.ref C) us (ks.zip ws)) (EP X pins σ Q) X.xe s := by
  have hq := h (s.heap.objs.size + 1) s.heap.objs.size (I.hok.fresh (Nat.le_succ _)) (I.hok.fresh (Nat.le_refl _)) (Nat.ne_of_lt (Nat.lt_succ_self _))
  have I2 := Inv.made (C := C) I
  have r1 : Vals (V.ref (s.heap.objs.size + 1) :: vs) (Value.ref (s.heap.objs.size + 1) :: us) := .cons rfl r
  refine wpAny_call (make_map (f := f) I.kIn Mk_.makes Mk_.init (beq_iff_eq.mp Mk_.fn) (codeAny_mono (F.run _ X.stack _ _ (Value.ref (s.heap.objs.size + 1) :: us) ws _ zs _ (hr.make C us (ks.zip ws))
    (I2.env0.make C us (ks.zip ws)) r1 rz l2 hq) fun r s' hq' => ?_))
  cases r with
  | error e => exact False.elim hq'
  | ok fl =>
    cases fl with
    | ret u =>
      obtain ⟨v, H', I3, rv, ev, q3⟩ := I2.after hq'
      subst ev
      exact ⟨rv, ⟨V.ref (s.heap.objs.size + 1), H', I3, rfl, q3⟩⟩
    | next => exact False.elim hq'
    | brk => exact False.elim hq'
    | cont => exact False.elim hq'
theorem ae_make (Mk_ : Mk X.K C f) (F : FnX X.prog X.w X.K X.mg X.base n f ks (spX X.K sx)) (hr : Rm (n + 1) X.A) (hm : X.mg x = some (.ref C))
    (h : aA X (e :: es) Γ M fun ds M1 => aKw X kws Γ M1 fun zs M2 => zs.length = ks.length ∧ ∀ p, p ∉ M2.map (·.1) → sx (.ptr p :: ds) zs ((p, .ins C []) :: M2) (fun v M3 => v = .non ∧ P (.ptr p) M3))
    (hg : Gl X x := by rfl) (hall : (backToKw pos (keywordEach kws X.env)).all (·.1.isSome) = true := by rfl) (hks : (backToKw pos (keywordEach kws X.env)).filterMap (·.1) = ks := by rfl) (hdb : (x == ("__debug__" : Str)) = false := by decide)
    (he : starEach (e :: es) X.env = (false, eval e X.env) :: starEach es X.env := by rfl) (hpl : ((backTo pos (starEach (e :: es) X.env)).any (·.1) || (backToKw pos (keywordEach kws X.env)).any (·.1.isNone)) = false := by rfl) : aE X (.Call (.Name x p1) (e :: es) kws pos) Γ M P := fun Hi H σ ok en Q q => by
  refine ⟨fun σ H Q => WA X (e :: es) σ H fun vs H1 => WK X kws σ H1 fun zs H2 => zs.length = ks.length ∧ ∀ x dx, H2 x = none → H2 dx = none → dx ≠ x → spX X.K sx (.ref x :: vs) zs (upd (upd H2 dx (.own x)) x (.ins C dx [])) (fun v H3 => v = .non ∧ Q (.ref x) H3), ⟨fun pins s σ H Q I h => ?_⟩, ?_⟩
  · refine wpAny_Call_Name_kw (ld_glob I hg hm ?_ hdb)
    refine PySem.W.callWith_KW (h₀ := X.base) I.ok.mod.kin Mk_.kp hall (thn (pa_wa.run pos pins s σ H _ I h) fun us s1 ⟨vs, H1, I1, r, q⟩ => ?_) hpl he
    refine thn (pk_wk.run pos pins s1 σ H1 _ I1 q) fun ws s2 ⟨zs, H2, I2, rz, l2, q2⟩ => ⟨I2.kIn, ?_⟩
    rw [hks]
    exact run_mk Mk_ F hr I2 r rz l2 q2
  · refine h Hi H σ ok en _ fun ds M1 vs Hi1 H1 h1 s1 ok1 r1 => ?_
    refine h1 Hi1 H1 σ ok1 (en.mono s1) _ fun zs M2 ws Hi2 H2 h2 s2 ok2 r2 => ?_
    refine ⟨r2.length.symm.trans h2.1, fun x dx hx hdx hne => ?_⟩
    have s3 := same_upd (o := .own x) (ok2.none hdx)
    have ok3 : Ok X.K (upd Hi2 dx (.own x)) M2 (upd H2 dx (.own x)) := ok2.imm hdx
    have hx3 : upd H2 dx (.own x) x = none := by rw [upd_ne hne.symm]; exact hx
    refine ⟨_, (x, .ins C []) :: M2, .ptr x :: ds, zs, _, .cons (.ptr x) (r1.mono (s2.trans s3)), r2.mono s3, ok3.new hx3 ⟨dx, [], rfl, .nil⟩, h2.2 x (ok2.fresh hx), ?_⟩
    rintro d M4 v Hi4 H4 ⟨rfl, hp⟩ s4 ok4 r4
    cases r4
    exact ⟨rfl, q _ _ _ Hi4 H4 hp (((s1.trans s2).trans s3).trans s4) ok4 (.ptr x)⟩
end
end Ab
namespace Ab
open PySem PySem.Spec PyProof.Rows L2
open AutoSeq1 (wpAny_loadPart')
/-! enumerate(tuple) -/
end Ab
namespace Ab
open PySem PySem.Spec PyProof.Rows L2
/-! ### comprehensions -/
theorem wipe_set (n : Nat) (x : Option V) : ∀ (vs : List Nat) (σ : L2.St), wipe (σ.set n x) vs = if n ∈ vs then wipe σ vs else (wipe σ vs).set n x
  | [], σ => by simp [wipe]
  | v :: vs, σ => by
    unfold wipe
    rw [wipe_set n x vs σ]
    by_cases h : n ∈ vs
    · rw [if_pos h, if_pos (List.mem_cons_of_mem _ h)]
    · rw [if_neg h]
      by_cases e : n = v
      · subst e
        rw [if_pos List.mem_cons_self, List.set_set]
      · rw [if_neg (by simp [e, h]), List.set_comm _ _ e]
def wipeG (Γ : Gam) : List Nat → Gam
  | [] => Γ
  | v :: vs => (wipeG Γ vs).set v none
theorem env_none {K : PySem.W.Frag} {H : Hp} {Γ : Gam} {σ : L2.St} (n : Nat) (h : EnvR K H Γ σ) : EnvR K H (Γ.set n none) (σ.set n none) := by
  refine ⟨by rw [List.length_set, List.length_set]; exact h.1, fun j e q => ?_⟩
  by_cases hij : n = j
  · subst hij
    by_cases hl : n < Γ.length
    · rw [List.getElem?_set_self hl] at q
      cases q
    · rw [List.getElem?_eq_none_iff.mpr (by rw [List.length_set]; omega)] at q
      cases q
  · rw [List.getElem?_set_ne hij] at q
    obtain ⟨w, h1, h2⟩ := h.2 j e q
    exact ⟨w, by rw [List.getElem?_set_ne hij]; exact h1, h2⟩
theorem env_wipe {K : PySem.W.Frag} {H : Hp} {Γ : Gam} {σ : L2.St} (h : EnvR K H Γ σ) : ∀ vs : List Nat, EnvR K H (wipeG Γ vs) (wipe σ vs)
  | [] => h
  | v :: vs => env_none v (env_wipe h vs)
section
variable {X : Cx} {Γ : Gam} {M : Mem} {P : Val → Mem → Prop} {e a b c o : Expr} {es : List Expr} {kws : List Keyword} {pos p1 p2 apos kpos : Pos} {k : AK} {d d1 d2 d3 : Val} {i j : Int} {x y m : Str} {n : Nat} {f C : Addr}
/-- a target within a comprehension: slots of vs alone -/
def aGw (X : Cx) (vs : List Nat) (tg : Expr) (d : Val) (Γ : Gam) (M : Mem) (R : Gam → Mem → Prop) : Prop := ∀ Hi H σ v, Ok X.K Hi M H → EnvR X.K Hi Γ σ → Rep X.K Hi d v → ∀ Q : L2.St → Hp → Prop, (∀ Γ' M' σ' Hi' H', R Γ' M' → Same Hi Hi' → Ok X.K Hi' M' H' → EnvR X.K Hi' Γ' σ' → wipe σ' vs = wipe σ vs → Q σ' H') → WG X tg v σ H Q
theorem agw_name {vs : List Nat} {R : Gam → Mem → Prop} (n : Nat) (hN : X.N.Nodup) (h : R (Γ.set n (some d)) M) (hn : n ∈ vs := by decide) (hi : X.N[n]? = some x := by rfl) (hx : Loc X.env.scope x := by first | exact Or.inl rfl | exact Or.inr rfl) (hf : X.fn x = true ∨ X.env.scope.names.lookup x = some .local := by first | exact .inl rfl | exact .inr rfl | assumption) :
    aGw X vs (.Name x pos) d Γ M R := fun Hi H σ v ok en r Q q => ⟨_, pg_name hN hi hx hf, q _ _ _ Hi H h (Same.refl _) ok (en.set r) (by rw [wipe_set, if_pos hn])⟩
def aTs (X : Cx) (ifs : List Expr) (Γ : Gam) (M : Mem) (P : Bool → Mem → Prop) : Prop := ∀ Hi H σ, Ok X.K Hi M H → EnvR X.K Hi Γ σ → ∀ Q, PostT X.K Hi P Q → ∃ t, PTs X ifs t ∧ t σ H Q
def WTs (X : Cx) (ifs : List Expr) : TT := fun σ H Q => ∃ t, PTs X ifs t ∧ t σ H Q
theorem pts_wts {ifs : List Expr} : PTs X ifs (WTs X ifs) := ⟨fun pins s σ H Q I ⟨t, p, h⟩ => p.run pins s σ H Q I h⟩
theorem ats_nil {P : Bool → Mem → Prop} (h : P true M) : aTs X [] Γ M P := fun Hi H σ ok en Q q => ⟨_, pts_nil, q _ _ Hi H h (Same.refl _) ok⟩
/-- a comprehension's block -/
abbrev bx (X : Cx) (scope : Scope) (s : Shared) (H : Hp) (C : Addr) (cl : List (Str × Addr)) (fp : List Addr) : Cx := X.blk s H scope (compEnvC scope cl C X.env) fp
def bE (X : Cx) (scope : Scope) (e : Expr) (Γ : Gam) (M : Mem) (P : Val → Mem → Prop) : Prop := ∀ s H C cl fp, aE (bx X scope s H C cl fp) e Γ M P
def bTs (X : Cx) (scope : Scope) (es : List Expr) (Γ : Gam) (M : Mem) (P : Bool → Mem → Prop) : Prop := ∀ s H C cl fp, aTs (bx X scope s H C cl fp) es Γ M P
def bG (X : Cx) (scope : Scope) (vs : List Nat) (tg : Expr) (d : Val) (Γ : Gam) (M : Mem) (R : Gam → Mem → Prop) : Prop := ∀ s H C cl fp, aGw (bx X scope s H C cl fp) vs tg d Γ M R
theorem lc_read {tg iter elt : Expr} {ifs : List Expr} {scope : Scope} {vs : List Nat} {n : Nat} {it : Nat → Val} {G : Mem → Prop} (J : Nat → List Val → Mem → Prop)
    (hi : aI X tg iter Γ M n it G (J 0 [])) (hG : ∀ i acc M, i ≤ n → J i acc M → G M) (hGd : ∀ c M, G M → G (c :: M))
    (hs : ∀ i acc M D, i < n → acc.length ≤ i → J i acc M → bG X scope vs tg (it i) (wipeG Γ vs) ((D, .lst acc) :: M) fun Γ2 M2 => bTs X scope ifs Γ2 M2 fun b M3 =>
      (b = true → bE X scope elt Γ2 M3 fun y M4 => ∃ M5, M4 = (D, .lst acc) :: M5 ∧ J (i + 1) (acc ++ [y]) M5) ∧ (b = false → ∃ M5, M3 = (D, .lst acc) :: M5 ∧ J (i + 1) acc M5))
    (hn : n ≤ 100000) (hd : ∀ D acc M, J n acc M → P (.ptr D) ((D, .lst acc) :: M)) {Hi H : Hp} {σ : L2.St} (ok : Ok X.K Hi M H) (en : EnvR X.K Hi Γ σ) {Q : VK} (q : Post X.K Hi P Q) :
    tLc (WI X tg iter) (fun v σ H Q => ∀ s H' C cl fp, WG (bx X scope s H' C cl fp) tg v σ H Q) (fun σ H Q => ∀ s H' C cl fp, WTs (bx X scope s H' C cl fp) ifs σ H Q) (fun σ H Q => ∀ s H' C cl fp, WE (bx X scope s H' C cl fp) elt σ H Q) vs σ H Q := by
  refine hi Hi H σ ok en _ fun J' M1 Hi1 H1 h1 s1 ok1 w => ?_
  intro D hD
  refine lc_it (g := fun v σ H Q => ∀ s H' C cl fp, WG (bx X scope s H' C cl fp) tg v σ H Q) (tt := fun σ H Q => ∀ s H' C cl fp, WTs (bx X scope s H' C cl fp) ifs σ H Q) (te := fun σ H Q => ∀ s H' C cl fp, WE (bx X scope s H' C cl fp) elt σ H Q) (vs := vs) (σ := σ) (Qd := fun H => Q (V.ref D) H)
    w (fun i H' => ∃ acc M' Hi', J i acc M' ∧ acc.length ≤ i ∧ Same Hi1 Hi' ∧ Ok X.K Hi' ((D, .lst acc) :: M') H') ⟨[], M1, Hi1, h1, Nat.le_refl _, Same.refl _, ok1.new hD ⟨[], rfl, .nil⟩⟩ ?_ ?_ ?_
  · rintro i H' hi ⟨acc, M', Hi', h2, _, s2, ok2⟩
    exact ⟨Hi', M', s2, ok2.tail, hG i acc M' hi h2⟩
  · rintro i v H' H'' hi ⟨acc, M', Hi', h2, hl, s2, ok2⟩ hy
    obtain ⟨Hi3, s3, ok3, r3⟩ := hy Hi' ((D, .lst acc) :: M') s2 ok2 (hGd _ _ (hG i acc M' (Nat.le_of_lt hi) h2))
    intro s0 H0 C0 cl0 fp0
    have s13 := s2.trans s3
    refine hs i acc M' D hi hl h2 s0 H0 C0 cl0 fp0 Hi3 H'' (wipe σ vs) v ok3 (env_wipe (en.mono (s1.trans s13)) vs) r3 _ fun Γ4 M4 σ4 Hi4 H4 h4 s4 ok4 en4 w4 => ⟨?_, ?_⟩
    · rw [w4]
      clear w4 en4
      have idem : ∀ (us : List Nat) (τ : L2.St), wipe (wipe τ us) us = wipe τ us := by
        intro us
        induction us with
        | nil => intro τ; rfl
        | cons u us ih =>
          intro τ
          show (wipe ((wipe τ us).set u none) us).set u none = (wipe τ us).set u none
          rw [wipe_set]
          by_cases hu : u ∈ us
          · rw [if_pos hu, ih]
          · rw [if_neg hu, ih, List.set_set]
      exact idem vs σ
    · intro s5 H5 C5 cl5 fp5
      refine h4 s5 H5 C5 cl5 fp5 Hi4 H4 σ4 ok4 en4 _ fun b M6 Hi6 H6 h6 s6 ok6 => ?_
      cases b with
      | true =>
        refine iteT fun s7 H7 C7 cl7 fp7 => ?_
        refine h6.1 rfl s7 H7 C7 cl7 fp7 Hi6 H6 σ4 ok6 (en4.mono s6) _ fun y M8 v8 Hi8 H8 h8 s8 ok8 r8 => ?_
        obtain ⟨M9, rfl, h9⟩ := h8
        obtain ⟨_, o, ho, xs, rfl, ra⟩ := ok8.ce D _ List.mem_cons_self
        refine ⟨xs, ho, ?_, ?_⟩
        · rw [← ra.length]
          exact Nat.lt_of_lt_of_le (Nat.lt_of_le_of_lt hl (Nat.lt_of_lt_of_le hi hn)) (by decide)
        · exact ⟨acc ++ [y], M9, Hi8, h9, by rw [List.length_append]; exact Nat.succ_le_succ hl, ((s13.trans s4).trans s6).trans s8, ok8.set (i := 0) rfl ⟨_, rfl, ra.append (.cons r8 .nil)⟩⟩
      | false =>
        obtain ⟨M9, rfl, h9⟩ := h6.2 rfl
        exact iteF ⟨acc, M9, Hi6, h9, Nat.le_succ_of_le hl, (s13.trans s4).trans s6, ok6⟩
  · rintro H' ⟨acc, M', Hi', h2, hl, s2, ok2⟩
    exact q _ _ _ Hi' H' (hd D acc M' h2) (s1.trans s2) ok2 (.ptr D)
/-- [elt for tg in iter if ..]: a new cell -/
theorem ae_lcC {tg iter elt : Expr} {ifs : List Expr} {scope : Scope} (own : List (Str × Nat)) {n : Nat} {it : Nat → Val} {G : Mem → Prop} (J : Nat → List Val → Mem → Prop) (hc : X.calm = true) (hN : X.N.Nodup) (ok : BlkOk X.N X.env.scope scope own)
    (hi : aI X tg iter Γ M n it G (J 0 [])) (hG : ∀ i acc M, i ≤ n → J i acc M → G M) (hGd : ∀ c M, G M → G (c :: M))
    (hs : ∀ i acc M D, i < n → acc.length ≤ i → J i acc M → bG X scope (own.map (·.2)) tg (it i) (wipeG Γ (own.map (·.2))) ((D, .lst acc) :: M) fun Γ2 M2 => bTs X scope ifs Γ2 M2 fun b M3 =>
      (b = true → bE X scope elt Γ2 M3 fun y M4 => ∃ M5, M4 = (D, .lst acc) :: M5 ∧ J (i + 1) (acc ++ [y]) M5) ∧ (b = false → ∃ M5, M3 = (D, .lst acc) :: M5 ∧ J (i + 1) acc M5))
    (hn : n ≤ 100000) (hd : ∀ D acc M, J n acc M → P (.ptr D) ((D, .lst acc) :: M)) (hf : ∀ x, foldedSetIterable iter X.env x = pure x := by intro _; rfl) :
    aE X (.ListComp elt [⟨tg, iter, ifs, 0⟩] scope pos) Γ M P := fun Hi H σ ok' en Q q =>
  ⟨_, pe_lc hc hN pi_wi ok (fun s H C cl fp => ⟨fun pins s' σ H v u Q I r h => pg_wg.run pins s' σ H v u Q I r (h _ _ _ _ _)⟩) (fun s H C cl fp => ⟨fun pins s' σ H Q I h => pts_wts.run pins s' σ H Q I (h _ _ _ _ _)⟩) (fun s H C cl fp => ⟨fun pins s' σ H Q I h => pe_we.run pins s' σ H Q I (h _ _ _ _ _)⟩) hf,
    lc_read J hi hG hGd hs hn hd ok' en q⟩
end
end Ab
namespace Ab
open PySem PySem.Spec PyProof.Rows L2
section
variable {X : Cx} {Γ : Gam} {M : Mem} {P : Val → Mem → Prop} {e a b c o : Expr} {es : List Expr} {kws : List Keyword} {pos p1 p2 apos kpos : Pos} {k : AK} {d d1 d2 d3 : Val} {i j : Int} {x y m : Str} {n : Nat} {f C : Addr}
/-! ### a class's own things -/
/-- o.f, f a property -/
theorem ae_prop {fl : Str} {p g : Addr} {fs : List (Str × Val)} {sx : ASx} (c : Cls X.K C) (hp : PropOf X.K C fl p g) (F : FnX X.prog X.w X.K X.mg X.base n g [] (spX X.K sx)) (hr : Rm (n + 1) X.A) (ho : aV X o Γ M d) (hob : Ob M C d fs) (h : sx [d] [] M P)
    (hb : attributeBase o fl X.env (eval o X.env) = eval o X.env := by rfl) : aE X (.Attribute o fl pos) Γ M P := fun Hi H σ ok en Q q => by
  refine ⟨fun σ H Q => WE X o σ H fun x H1 => ∃ a dx fs, x = .ref a ∧ H1 a = some (.ins C dx fs) ∧ spX X.K sx [.ref a] [] H1 Q, ⟨fun pins s σ H Q I h => ?_⟩, ?_⟩
  · refine attr_of hb (thn (pe_we.run pins s σ H _ I h) fun u s1 ⟨x, H1, I1, rx, a, dx, fs, ex, ea, q⟩ => ?_)
    subst ex
    obtain rfl : u = Value.ref a := rx
    obtain ⟨mA, O, _, _, _, _⟩ := ins_get I1.hok ea
    obtain ⟨od, J, _⟩ := O.look
    obtain ⟨rest, hrec⟩ := hp.rec_
    have I2 := I1.tok (s1.toks + 1)
    have hc : (PySem.W.clsIn X.K C).isSome = true := by
      obtain ⟨cd, hc, _⟩ := PySem.W.any_some c.hd
      rw [hc]
      rfl
    refine PySem.W.get_bind I1.kIn J (PySem.W.plainGet_of (c.get fl)).1 (PySem.W.findObj_data hc hp.at_ hp.get hp.tak) (PySem.W.plainGet_of (c.get fl)).2 (wpAny_call (PySem.W.prop_get (s := { s1 with toks := s1.toks + 1 }) I1.kIn hrec ?_))
    refine codeAny_mono (F.run X.A.in1 X.stack { s1 with toks := s1.toks + 1 } H1 [.ref a] [] [.ref a] [] Q hr.in1 I2.env0.in1 (.cons rfl .nil) .nil rfl q) fun r s' hq => ?_
    cases r with
    | error er => exact False.elim hq
    | ok fl =>
      cases fl with
      | ret u =>
        obtain ⟨v, H', I3, rv, q3⟩ := I2.after hq
        show wpAny _ _ (handedOut u) _ _ _
        rw [PySem.W.handedOut_of (handed_of rv)]
        exact wpAny_pure ⟨v, H', I3, rv, q3⟩
      | next => exact False.elim hq
      | brk => exact False.elim hq
      | cont => exact False.elim hq
  · refine ho Hi H σ ok en _ fun x M0 v0 Hi0 H0 h0 s0 ok0 r0 => ?_
    obtain ⟨rfl, rfl⟩ := h0
    obtain ⟨p, dx, gs, rfl, hp, rf⟩ := hob.rep ok0 r0
    exact ⟨p, dx, gs, rfl, hp, Hi0, _, [_], [], P, .cons r0 .nil, .nil, ok0, h, q.up s0⟩
/-- C.m is a staticmethod: its record at p, its def at g -/
structure SMet (K : PySem.W.Frag) (C : Addr) (mc : Value) (m : Str) (p g : Addr) : Prop where
  at_ : PySem.W.findCls K (.ref C) mc m = some (.get (.builtin "staticmethod.__get__") (.ref p) .none (.ref C))
  rc : ∃ rest, PySem.W.recIn K p "staticmethod" = some (.ref g :: rest)
  kp : PySem.W.keepIn K (.ref g) = true
theorem ae_smeth {mc : Value} {p g : Addr} {pl : Sem Bool} {ks : List Str} {sx : ASx} (r : ClX.CRead X.K C mc) (sm : SMet X.K C mc m p g) (F : FnX X.prog X.w X.K X.mg X.base n g ks (spX X.K sx)) (hr : Rm n X.A) (ho : aV X o Γ M (.ptr C))
    (h : aA X (e :: es) Γ M fun ds M1 => aKw X kws Γ M1 fun zs M2 => zs.length = ks.length ∧ sx ds zs M2 P)
    (hall : (backToKw pos (keywordEach kws X.env)).all (·.1.isSome) = true := by rfl) (hks : (backToKw pos (keywordEach kws X.env)).filterMap (·.1) = ks := by rfl)
    (he : starEach (e :: es) X.env = (false, eval e X.env) :: starEach es X.env := by rfl) (hpl : ((backTo pos (starEach (e :: es) X.env)).any (·.1) || (backToKw pos (keywordEach kws X.env)).any (·.1.isNone)) = false := by rfl)
    (ht : eval (.Call (.Attribute o m apos) (e :: es) kws pos) X.env = (do
      let ov ← eval o X.env
      standAt apos.atName
      let (f, first) ← holding [ov] (getMethod ov m pl)
      callWith pos f first (backTo pos (starEach (e :: es) X.env)) (backToKw pos (keywordEach kws X.env))) := by rfl) : aE X (.Call (.Attribute o m apos) (e :: es) kws pos) Γ M P := fun Hi H σ ok en Q q => by
  refine ⟨fun σ H Q => WE X o σ H fun x H0 => x = .ref C ∧ WA X (e :: es) σ H0 fun vs H1 => WK X kws σ H1 fun zs H2 => zs.length = ks.length ∧ spX X.K sx vs zs H2 Q, ⟨fun pins s σ H Q I h => ?_⟩, ?_⟩
  · refine PySem.W.methodCall_KW (pl := pl) (thn (pe_we.run pins s σ H _ I h) fun u s1 ⟨x, H1, I1, rx, ex, q⟩ => ?_) ht
    subst ex
    obtain rfl : u = Value.ref C := rx
    obtain ⟨rest, hp⟩ := sm.rc
    refine PySem.W.method_cls I1.kIn r.ga (PySem.W.cls_bind I1.kIn r.rd sm.at_ (wpAny_call (PySem.W.sm_get (s := { s1 with toks := s1.toks + 1 }) I1.kIn hp (PySem.W.handed_on rfl ?_))))
    have I2 := I1.tok (s1.toks + 1)
    refine PySem.W.callWith_KW (first := []) (h₀ := X.base) I.ok.mod.kin sm.kp hall (thn (pa_wa.run pos pins _ σ H1 _ I2 q) fun us s2 ⟨vs, H2, I3, r, q2⟩ => ?_) hpl he
    refine thn (pk_wk.run pos pins s2 σ H2 _ I3 q2) fun ws s3 ⟨zs, H3, I4, rz, l2, q3⟩ => ⟨I4.kIn, ?_⟩
    rw [hks]
    exact run_x F hr I4 r rz l2 q3
  · refine ho Hi H σ ok en _ fun x M0 v0 Hi0 H0 h0 s0 ok0 r0 => ?_
    obtain ⟨rfl, rfl⟩ := h0
    cases r0
    refine ⟨rfl, ?_⟩
    refine h Hi0 H0 σ ok0 (en.mono s0) _ fun ds M1 vs Hi1 H1 h1 s1 ok1 r1 => ?_
    refine h1 Hi1 H1 σ ok1 (en.mono (s0.trans s1)) _ fun zs M2 ws Hi2 H2 h2 s2 ok2 r2 => ?_
    exact ⟨r2.length.symm.trans h2.1, Hi2, M2, ds, zs, P, r1.mono s2, r2, ok2, h2.2, q.up ((s0.trans s1).trans s2)⟩
/-! ### isinstance -/
/-- a value's type -/
inductive TyV (K : PySem.W.Frag) (M : Mem) : Val → Value → Prop
  | non : TyV K M .non (.type "NoneType")
  | bl (b : Bool) : TyV K M (.bl b) (.type "bool")
  | int (i : Int) : TyV K M (.int i) (.type "int")
  | str (x : Str) : TyV K M (.str x) (.type "str")
  | tup (xs : List Val) : TyV K M (.tup xs) (.type "tuple")
  | lst {d : Val} {xs : List Val} : Vw M d (.lst xs) → TyV K M d (.type "list")
  | ob {C : Addr} {d : Val} {fs : List (Str × Val)} : Ob M C d fs → Cls K C → PySem.W.findIn K (.ref C) "__class__" = some (some (.builtin "object.__class__")) → PySem.W.specialIn K (.builtin "object.__class__") "__get__" = some (some (.builtin "getset_descriptor.__get__")) →
      PySem.W.takesIn K (.builtin "object.__class__") = some true → PySem.W.mroIn K C (.type "object") = some true → TyV K M d (.ref C)
theorem tyx_l {K : PySem.W.Frag} {H : Hp} {p : Addr} {xs : List V} (h : SqL K H p xs) : TyX K H (.ref p) (.type "list") := by
  rcases h with (h | ⟨o, h⟩) | h
  · exact .base (.lst h)
  · exact .base (.frz h)
  · obtain ⟨its, _, o, e, c, _⟩ := h
    exact .kList e c
theorem tyx_t {K : PySem.W.Frag} {H : Hp} {p : Addr} {xs : List V} (h : SqT K H p xs) : TyX K H (.ref p) (.type "tuple") := by
  rcases h with (h | ⟨o, h⟩) | h
  · exact .base (.tup h)
  · exact .fTuple h
  · obtain ⟨its, _, o, e, c, _⟩ := h
    exact .kTuple e c
theorem TyV.tyx {K : PySem.W.Frag} {Hi H : Hp} {t : Value} {v : V} (h : TyV K M d t) (ok : Ok K Hi M H) (r : Rep K Hi d v) : TyX K H v t := by
  cases h with
  | non => cases r; exact .base .non
  | bl b => cases r; exact .base (.bl b)
  | int b => cases r; exact .base (.int b)
  | str b => cases r; exact .base (.str b)
  | tup xs => cases r with
    | tup hq ra => exact tyx_t (sameT ok.im hq)
  | lst hv =>
    obtain ⟨p, ys, rfl, hq, _⟩ := hv.repL ok r
    exact tyx_l hq
  | ob ho c h1 h2 h3 h4 =>
    obtain ⟨p, dx, gs, rfl, hq, _⟩ := ho.rep ok r
    exact .base (.ins hq c h1 h2 h3 h4)
/-- a class as a value -/
inductive ClV : Val → Value → Prop
  | ty (n : String) : ClV (.ty n) (.type n)
  | own (C : Addr) : ClV (.ptr C) (.ref C)
theorem ae_isi {t u : Value} {bb : Bool} (hm : X.mg "isinstance" = none) (ha : aV X a Γ M d1) (hb : aV X b Γ M d2) (hc : ClV d2 u) (ht : TyV X.K M d1 t) (hk : PySem.W.kitOne X.K t u = some bb) (h : P (.bl bb) M) (hg : Gl X "isinstance" := by rfl)
    (hs : starEach [a, b] X.env = (false, eval a X.env) :: starEach [b] X.env := by rfl) (hs2 : starEach [b] X.env = (false, eval b X.env) :: starEach [] X.env := by rfl) (hpl : (backTo pos (starEach [b] X.env)).any (·.1) = false := by rfl) : aE X (.Call (.Name "isinstance" p1) [a, b] [] pos) Γ M P :=
  ae_callB call_isi hm (by decide +kernel) (aa_cons (ha.val (aa_cons (hb.val (aa_nil fun Hi H vs ok r Q q => by
    cases r with
    | cons r1 r2 =>
      cases r2 with
      | cons r2 r3 =>
        cases r3
        refine ⟨_, _, t, u, bb, rfl, ?_, ht.tyx ok r1, hk, q _ _ _ Hi H h (Same.refl _) ok (.bl _)⟩
        cases hc with
        | ty n => cases r2; exact .ty n
        | own C => cases r2; exact .own C)) hs2)) hs) hg (he := hs) (hpl := hpl)
/-- a built-in class by its name -/
theorem av_ty {T : String} (hm : X.mg x = none) (hv : bootBuiltins x = some (.type T)) (hg : Gl X x := by rfl) (hn : x ≠ "__name__" := by decide) (hd : (x == ("__debug__" : Str)) = false := by decide) : aV X (.Name x pos) Γ M (.ty T) :=
  ae_c (v := .ty T) (pe_bltn hg hm hv rfl hn hd) (fun _ _ => .ty T) ⟨rfl, rfl⟩
/-! ### all, sum, sorted, min, max -/
theorem ae_all (hm : X.mg "all" = none) (hc : X.calm = true) (ha : aE X a Γ M fun d M' => ∃ bs : List Bool, Vw M' d (.lst (bs.map .bl)) ∧ P (.bl (bs.all id)) M') (hg : Gl X "all" := by rfl) (hst : starEach [a] X.env = [(false, eval a X.env)] := by rfl) : aE X (.Call (.Name "all" p1) [a] [] pos) Γ M P :=
  ae_callB (cr_all hc) hm (by decide +kernel) (aa_cons (ha.mono fun d M' ⟨bs, hv, h⟩ => aa_nil fun Hi H vs ok r Q q => by
    cases r with
    | cons r1 r2 =>
      cases r2
      obtain ⟨p, ys, rfl, hq, ra⟩ := hv.repL ok r1
      rw [ra.bls] at hq
      exact ⟨p, bs, rfl, hq, q _ _ _ Hi H h (Same.refl _) ok (.bl _)⟩) hst) hg (he := hst) (hpl := rfl)
theorem ae_max2 (hm : X.mg "max" = none) (hc : X.calm = true) (ha : aV X a Γ M (.int i)) (hb : aV X b Γ M (.int j)) (h : P (.int (if j > i then j else i)) M) (hg : Gl X "max" := by rfl)
    (hs : starEach [a, b] X.env = (false, eval a X.env) :: starEach [b] X.env := by rfl) (hs2 : starEach [b] X.env = (false, eval b X.env) :: starEach [] X.env := by rfl) (hpl : (backTo pos (starEach [b] X.env)).any (·.1) = false := by rfl) : aE X (.Call (.Name "max" p1) [a, b] [] pos) Γ M P :=
  ae_callB (call_max2 hc) hm (by decide +kernel) (aa_cons (ha.val (aa_cons (hb.val (aa_nil fun Hi H vs ok r Q q => by
    cases r with
    | cons r1 r2 =>
      cases r2 with
      | cons r2 r3 =>
        cases r3
        cases r1
        cases r2
        exact ⟨i, j, rfl, q _ _ _ Hi H h (Same.refl _) ok (.int _)⟩)) hs2)) hs) hg (he := hs) (hpl := hpl)
/-! ### + and * of lists and tuples -/
def rCatL (K : PySem.W.Frag) : R2 := fun x y H Q => ∃ l b xs zs, x = .ref l ∧ y = .ref b ∧ SqL K H l xs ∧ SqL K H b zs ∧ xs.length + zs.length ≤ sizeLine ∧ ∀ p, H p = none → Q (.ref p) (upd H p (.lst (xs ++ zs)))
theorem op_catL : OpR X (binaryOp .Add) (rCatL X.K) := by
  intro pins s σ H x y v u Q I rx ry h
  obtain ⟨l, b, xs, zs, rfl, rfl, hH, hB, hz, q⟩ := h
  cases rx
  cases ry
  obtain ⟨its, r, pl, z⟩ := I.list hH
  obtain ⟨its2, r2, pl2, z2⟩ := I.list hB
  have l1 := r.length
  have l2 := r2.length
  obtain ⟨⟨cl, dd, da, sl⟩, ho, hc, n, hd⟩ := pl.isList
  obtain ⟨⟨cl2, dd2, da2, sl2⟩, ho2, hc2, n2, hd2⟩ := pl2.isList
  obtain rfl : cl = .type "list" := hc
  obtain rfl : cl2 = .type "list" := hc2
  obtain rfl : da = .seq its.toArray n := hd
  obtain rfl : da2 = .seq its2.toArray n2 := hd2
  refine concat_meets ⟨_, ho, rfl⟩ ⟨_, ho2, rfl⟩ noFill_list_add seq_list_add PySem.F.slot_list_add PySem.F.entry_list_add (PySem.F.args_list_add_2 _ _) (list_addW l b its.toArray its2.toArray n n2 dd dd2 sl sl2 (by rw [List.size_toArray, List.size_toArray]; omega)) ⟨ho, ho2, ?_⟩
  rw [show its.toArray ++ its2.toArray = (its ++ its2).toArray by simp]
  exact ⟨.ref _, _, I.lnew (t' := s.toks) (r.append r2) (by rw [List.length_append]; omega), rfl, q _ I.fresh⟩
theorem rv_catL {xs ys : List Val} (h1 : Vw M d1 (.lst xs)) (h2 : Vw M d2 (.lst ys)) (hl : xs.length + ys.length ≤ sizeLine) (h : ∀ p, P (.ptr p) ((p, .lst (xs ++ ys)) :: M)) : RV X (rCatL X.K) d1 d2 M P := fun Hi H v w ok rv rw_ Q q => by
  obtain ⟨p, us, rfl, hq, ra⟩ := h1.repL ok rv
  obtain ⟨p', ws, rfl, hq', ra'⟩ := h2.repL ok rw_
  exact ⟨p, p', us, ws, rfl, rfl, hq, hq', by rw [← ra.length, ← ra'.length]; exact hl, fun l hl => q _ _ _ _ _ (h l) (Same.refl _) (ok.new hl ⟨_, rfl, ra.append ra'⟩) (.ptr l)⟩
theorem rv_catT {xs ys : List Val} (hl : xs.length + ys.length ≤ sizeLine) (h : P (.tup (xs ++ ys)) M) : RV X (rCatA X.K) (.tup xs) (.tup ys) M P := fun Hi H v w ok rv rw_ Q q => by
  cases rv with
  | @tup p us _ hq ra =>
    cases rw_ with
    | @tup p' ws _ hq' ra' =>
      refine ⟨p, p', us, ws, rfl, rfl, sameT ok.im hq, sameT ok.im hq', by rw [← ra.length, ← ra'.length]; exact hl, fun e => ?_, fun _ e => ?_, fun _ _ l hl => ?_⟩
      · subst e
        cases ra
        exact q _ _ _ Hi H h (Same.refl _) ok (.tup hq' ra')
      · subst e
        cases ra'
        rw [List.append_nil] at h
        exact q _ _ _ Hi H h (Same.refl _) ok (.tup hq ra)
      · have s2 := same_upd (o := .tup (us ++ ws)) (ok.none hl)
        exact q _ _ _ _ _ h s2 (ok.imm hl) (.tup (SqT.of upd_same) ((ra.append ra').mono s2))
end
end Ab
namespace Ab
open PySem PySem.Spec PyProof.Rows L2
section
variable {X : Cx} {Γ : Gam} {M : Mem} {P : Val → Mem → Prop} {e a b c o : Expr} {es : List Expr} {kws : List Keyword} {pos p1 p2 apos kpos : Pos} {k : AK} {d d1 d2 d3 : Val} {i j : Int} {x y m : Str} {n : Nat} {f C : Addr}
/-! ### repr of lists and tuples -/
def rRepr (K : PySem.W.Frag) : List V → Hp → VK → Prop := fun xs H Q => ∃ (p : Addr) (d : PyData), xs = [.ref p] ∧ Dp K H (.ref p) d ∧ d.showable = true ∧ d.hasDict = false ∧ d.depth ≤ 60 ∧ d.shown.length ≤ sizeLine ∧ Q (.str d.shown) H
theorem call_repr {n : Nat} (hr : Rm n X.A) : CallR X (.builtin "repr") (rRepr X.K) := by
  intro pins s σ H xs us Q I r h
  obtain ⟨p, d, rfl, hd, h1, h2, h3, h4, q⟩ := h
  obtain ⟨u, rfl, ru⟩ := vals1 r
  obtain rfl : u = Value.ref p := ru
  obtain ⟨as, rd⟩ := Dp.reads I d (.ref p) (.ref p) hd rfl
  have hu := hr.u64
  exact repr_of_reads' rd h1 (PyData.noDict_hsm h2) hr.gd (by omega) (fun _ _ z => z) (fun h' u tk hk => ⟨.str d.shown, H, I.kept (h' := h') (t' := tk) hk, ⟨_, rfl⟩, q⟩) h4
theorem rep_ref {K : PySem.W.Frag} {H : Hp} {d : Val} {v : V} {p : PyData} (r : Rep K H d v) (h : toD d = some p) (hl : (∃ xs, p = .list xs) ∨ ∃ xs, p = .tuple xs) : ∃ a, v = .ref a := by
  cases r <;> first | exact ⟨_, rfl⟩ | (rcases hl with ⟨_, rfl⟩ | ⟨_, rfl⟩ <;> cases h)
theorem ae_repr {n : Nat} (hr : Rm n X.A) (hm : X.mg "repr" = none) (ha : aE X a Γ M fun d M' => ∃ d' p, Vw M' d d' ∧ toD d' = some p ∧ ((∃ xs, p = .list xs) ∨ ∃ xs, p = .tuple xs) ∧ p.showable = true ∧ p.hasDict = false ∧ p.depth ≤ 60 ∧ p.shown.length ≤ sizeLine ∧ P (.str p.shown) M')
    (hg : Gl X "repr" := by rfl) (hst : starEach [a] X.env = [(false, eval a X.env)] := by rfl) : aE X (.Call (.Name "repr" p1) [a] [] pos) Γ M P :=
  ae_callB (call_repr hr) hm (by decide +kernel) (aa_cons (ha.mono fun d M' ⟨d', p, hv, hd, hl, h1, h2, h3, h4, h⟩ => aa_nil fun Hi H vs ok r Q q => by
    cases r with
    | cons r1 r2 =>
      cases r2
      have rH := hv.rep ok r1
      obtain ⟨l, rfl⟩ := rep_ref rH hd hl
      exact ⟨l, p, rfl, rep_dp _ rH hd, h1, h2, h3, h4, q _ _ _ Hi H h (Same.refl _) ok (.str _)⟩) hst) hg (he := hst) (hpl := rfl)
/-! ### [x] * n -/
/-! ### dict displays -/
def aPr (X : Cx) (ps : List (Expr × Expr)) (Γ : Gam) (M : Mem) (P : List (Key × Val) → Mem → Prop) : Prop := ∀ Hi H σ, Ok X.K Hi M H → EnvR X.K Hi Γ σ → ∀ Q : List (V × V) → Hp → Prop,
  (∀ kvs M' (ws : List (Key × V)) Hi' H', P kvs M' → Same Hi Hi' → Ok X.K Hi' M' H' → RepK X.K Hi' kvs ws → Q (ws.map fun kv => (kV kv.1, kv.2)) H') → tPairs (ps.map fun p => (WE X p.1, WE X p.2)) σ H Q
theorem ap_nil {P : List (Key × Val) → Mem → Prop} (h : P [] M) : aPr X [] Γ M P := fun Hi H σ ok en Q q => q [] M [] Hi H h (Same.refl _) ok .nil
theorem ap_cons {P : List (Key × Val) → Mem → Prop} {kk : Str} {ps : List (Expr × Expr)} (hk : aV X a Γ M (.str kk)) (hv : aV X e Γ M d) (h : aPr X ps Γ M fun kvs M' => P ((.inr kk, d) :: kvs) M') : aPr X ((a, e) :: ps) Γ M P := fun Hi H σ ok en Q q => by
  refine hk Hi H σ ok en _ fun x M1 v1 Hi1 H1 h1 s1 ok1 r1 => ?_
  obtain ⟨rfl, rfl⟩ := h1
  cases r1
  refine hv Hi1 H1 σ ok1 (en.mono s1) _ fun x M2 v2 Hi2 H2 h2 s2 ok2 r2 => ?_
  obtain ⟨rfl, rfl⟩ := h2
  have s12 := s1.trans s2
  refine h Hi2 H2 σ ok2 (en.mono s12) _ fun kvs M' ws Hi' H' h3 s3 ok3 r3 => ?_
  exact q ((.inr kk, _) :: kvs) M' ((.inr kk, v2) :: ws) Hi' H' h3 (s12.trans s3) ok3 (.cons (r2.mono s3) r3)
def mergeA (kvs more : List (Key × Val)) : List (Key × Val) := more.foldl (fun acc kv => dPut acc kv.1 kv.2) kvs
theorem rep_merge {K : PySem.W.Frag} {H : Hp} : ∀ {more : List (Key × Val)} {ws : List (Key × V)} {kvs : List (Key × Val)} {gs : List (Key × V)}, RepK K H more ws → RepK K H kvs gs → RepK K H (mergeA kvs more) (mergeK gs ws)
  | [], _, _, _, .nil, r => r
  | (kk, dd) :: more, _, _, _, .cons (v := v) (gs := gs) a t, r => by
    show RepK K H (mergeA (dPut _ kk dd) more) (mergeK (putK _ kk v) gs)
    exact rep_merge t (r.put a)
theorem disp_of {ps : List (Expr × Expr)} {keys : List (Option Expr)} {values : List Expr} (hpp : PPs X pos keys values (ps.map fun p => (WE X p.1, WE X p.2))) (hall : keys.all (·.isSome) = true) (hl : keys.length = values.length) (h0 : keys ≠ []) (h15 : keys.length ≤ 15)
    (h : ∀ p, aPr X ps Γ ((p, .dk []) :: M) fun kvs M' => ∃ M2, M' = (p, .dk []) :: M2 ∧ kvs.length ≤ 15 ∧ P (.ptr p) ((p, .dk (mergeA [] kvs)) :: M2)) : aE X (.Dict keys values pos) Γ M P := fun Hi H σ ok en Q q => by
  refine ⟨_, pe_disp hpp hall hl h0 h15, fun p hp => ?_⟩
  refine h p Hi _ σ (ok.new hp ⟨[], rfl, .nil⟩) en _ fun kvs M' ws Hi' H' h1 s1 ok1 r1 => ?_
  obtain ⟨M2, rfl, h15', hP⟩ := h1
  obtain ⟨_, o, ho, gs, rfl, rk⟩ := ok1.ce p _ List.mem_cons_self
  cases rk
  exact ⟨ho, ws, rfl, by rw [← r1.length]; exact h15', q _ _ _ Hi' _ hP s1 (ok1.set (i := 0) rfl ⟨_, rfl, rep_merge r1 .nil⟩) (.ptr p)⟩
theorem ae_dict3 {a1 a2 a3 e1 e2 e3 : Expr} (h : ∀ p, aPr X [(a1, e1), (a2, e2), (a3, e3)] Γ ((p, .dk []) :: M) fun kvs M' => ∃ M2, M' = (p, .dk []) :: M2 ∧ kvs.length ≤ 15 ∧ P (.ptr p) ((p, .dk (mergeA [] kvs)) :: M2)) : aE X (.Dict [some a1, some a2, some a3] [e1, e2, e3] pos) Γ M P :=
  disp_of (pps_cons pe_we pe_we (pps_cons pe_we pe_we (pps_cons pe_we pe_we pps_nil))) rfl rfl (fun z => nomatch z) (Nat.le_of_ble_eq_true rfl) h
/-! ### a, b, c = e1, e2, e3 -/
theorem ps_par3 {n1 n2 n3 : Nat} {x y z : Str} {e1 e2 e3 : Expr} {ta : TA} {px py pz pt : Pos} {kt k2 pt2} (hc : X.calm = true) (hN : X.N.Nodup) (hi : X.N[n1]? = some x) (hj : X.N[n2]? = some y) (hk : X.N[n3]? = some z) (h12 : n1 ≠ n2) (h13 : n1 ≠ n3) (h23 : n2 ≠ n3)
    (hx : X.env.scope.names.lookup x = some .local) (hy : X.env.scope.names.lookup y = some .local) (hz : X.env.scope.names.lookup z = some .local) (ha : PA X [e1, e2, e3] ta)
    (hw : swappedStores [.Tuple [.Name x px, .Name y py, .Name z pz] kt pt] (.Tuple [e1, e2, e3] k2 pt2) X.env = pure (some [x, y, z]))
    (hs : swapsWithSole [.Tuple [.Name x px, .Name y py, .Name z pz] kt pt] (.Tuple [e1, e2, e3] k2 pt2) pos.line X.env = pure false) :
    PS X (.Assign [.Tuple [.Name x px, .Name y py, .Name z pz] kt pt] (.Tuple [e1, e2, e3] k2 pt2) pos) (fun D σ H => ta σ H fun vs H1 => ∃ v1 v2 v3, vs = [v1, v2, v3] ∧ D.nx (((σ.set n1 (some v1)).set n2 (some v2)).set n3 (some v3)) H1) := by
  refine ⟨fun pins s σ H D I h => ?_⟩
  rw [exec_Assign_arm, hs]
  refine wpAny_bind (wpAny_standAt (wpAny_bind (wpAny_pure ?_)))
  rw [if_neg (by decide)]
  refine wpAny_bind (Tuple_ (thn (ha.run _ pins s σ H _ I h) fun us s1 ⟨vs, H1, I1, r1, v1, v2, v3, e1, q1⟩ => ?_))
  subst e1
  obtain ⟨u1, u2, u3, rfl, ru1, ru2, ru3⟩ : ∃ u1 u2 u3, us = [u1, u2, u3] ∧ RelV v1 u1 ∧ RelV v2 u2 ∧ RelV v3 u3 := by
    cases r1 with
    | cons p q =>
      cases q with
      | cons p' q' =>
        cases q' with
        | cons p'' q'' =>
          cases q''
          exact ⟨_, _, _, rfl, p, p', p''⟩
  refine wpAny_newObj_type ?_ (by show 3 ≤ sizeLine; decide)
  have I2 : Inv X pins σ H1 { s1 with heap := s1.heap.push { cls := .type "tuple", data := .seq [u1, u2, u3].toArray } } := I1.kept (t' := s1.toks) fun b o e => Heap.get?_push_of_some _ e
  rw [hw]
  refine wpAny_bind (wpAny_pure ?_)
  show wpAny (model X.prog X.w) X.A (do rule "assign.swapped-stores"; let items ← unpackItems (.ref s1.heap.objs.size) 3 none; assignInOrder [fun v => bindName X.env z v, fun v => bindName X.env y v, fun v => bindName X.env x v] items.reverse; pure Flow.next) _ _ _
  refine wpAny_bind (wpAny_rule (wpAny_bind (unpackItems_tuple (items := #[u1, u2, u3]) (I.ok.hd hc) (IsTup.new s1.heap _) fun h' hx' => ?_)))
  have I3 := I2.kept (h' := h') (t' := s1.toks) fun b o e => hx' b o (Nat.ne_of_lt (Heap.lt_size e)) e
  show wpAny _ _ (assignInOrder [fun v => bindName X.env z v, fun v => bindName X.env y v, fun v => bindName X.env x v] [u3, u2, u1] >>= fun _ => pure Flow.next) _ _ _
  refine wpAny_bind (assignInOrder_cons (wpAny_bindName (store_ok I3 hN hk (.inl hz) ru3 (fun s2 I4 => ?_) (.inr hz))))
  refine assignInOrder_cons (wpAny_bindName (store_ok I4 hN hj (.inl hy) ru2 (fun s3 I5 => ?_) (.inr hy)))
  refine assignInOrder_cons (wpAny_bindName (store_ok I5 hN hi (.inl hx) ru1 (fun s4 I6 => assignInOrder_nil (wpAny_pure ?_)) (.inr hx)))
  have e : ((σ.set n3 (some v3)).set n2 (some v2)).set n1 (some v1) = ((σ.set n1 (some v1)).set n2 (some v2)).set n3 (some v3) := by
    rw [List.set_comm _ _ (Ne.symm h12), List.set_comm _ _ (Ne.symm h13), List.set_comm _ _ (Ne.symm h23)]
  rw [e] at I6
  exact ⟨_, H1, I6, q1⟩
theorem as_par3 {x y z : Str} {e1 e2 e3 : Expr} {px py pz pt : Pos} {kt k2 pt2} (n1 n2 n3 : Nat) (hN : X.N.Nodup) (hc : X.calm = true) (he : aA X [e1, e2, e3] Γ M fun ds M' => ∃ d1 d2 d3, ds = [d1, d2, d3] ∧ k.nx (((Γ.set n1 (some d1)).set n2 (some d2)).set n3 (some d3)) M')
    (h12 : n1 ≠ n2 := by decide) (h13 : n1 ≠ n3 := by decide) (h23 : n2 ≠ n3 := by decide) (hi : X.N[n1]? = some x := by rfl) (hj : X.N[n2]? = some y := by rfl) (hk : X.N[n3]? = some z := by rfl) (hx : X.env.scope.names.lookup x = some .local := by rfl) (hy : X.env.scope.names.lookup y = some .local := by rfl) (hz : X.env.scope.names.lookup z = some .local := by rfl)
    (hw : swappedStores [.Tuple [.Name x px, .Name y py, .Name z pz] kt pt] (.Tuple [e1, e2, e3] k2 pt2) X.env = pure (some [x, y, z]) := by rfl)
    (hs : swapsWithSole [.Tuple [.Name x px, .Name y py, .Name z pz] kt pt] (.Tuple [e1, e2, e3] k2 pt2) pos.line X.env = pure false := by rfl) : aS X (.Assign [.Tuple [.Name x px, .Name y py, .Name z pz] kt pt] (.Tuple [e1, e2, e3] k2 pt2) pos) Γ M k := fun Hi H σ ok en D q => by
  refine ⟨_, ps_par3 hc hN hi hj hk h12 h13 h23 hx hy hz pa_wa hw hs, ?_⟩
  refine he Hi H σ ok en _ fun ds M1 vs Hi1 H1 h1 s1 ok1 r1 => ?_
  obtain ⟨d1, d2, d3, rfl, h2⟩ := h1
  cases r1 with
  | cons r1 r2 =>
    cases r2 with
    | cons r2 r3 =>
      cases r3 with
      | cons r3 r4 =>
        cases r4
        exact ⟨_, _, _, rfl, q.nx _ _ _ Hi1 H1 h2 s1 ok1 ((((en.mono s1).set r1).set r2).set r3)⟩
end
/-! ### a def with a star and keyword-only parameters -/
end Ab
namespace Ab
open PySem PySem.Spec PyProof.Rows L2
/-! the end of a law: its def runs in the claim's own surroundings, where nothing is guarded -/
/-- only the script is known of -/
def hpS (a : Addr) (o : Obj) (xs : List V) : Hp := fun b => if b = a then some (.frz o (.lst xs)) else none
theorem run_law {P : Program} {w : World} {K : PySem.W.Frag} {mg mb : Str → Option Value} {k : Nat} {fa a : Addr} {sp : List V → List V → Hp → VK → Prop} {s : Shared} {vs : List Value} {ns : List Int}
    (KX : K.In s.heap) (hns : s.heap.Ns mainGlobals mg) (hbl : s.heap.Ns builtinsNs mb) (hbb : ∀ x : Str, x ≠ "__name__" → mb x = bootBuiltins x) (hlim : s.heap.NoLimit) (hg : s.gens = #[])
    (ha : s.heap.get? a = some { cls := .type "list", data := .seq vs.toArray }) (hi : IntsAre vs ns) (hl : ns.length ≤ sizeLine) (hr : Rm k callerA)
    (F : ∀ bs : Heap, K.In bs → bs.Ns mainGlobals mg → FnX P w K mg bs k fa [] sp) (hsp : ∀ H : Hp, SqL K H a (ns.map V.int) → sp [.ref a] [] H (fun v _ => v = .bl true)) :
    codeAny (model P w) callerA (.call (.ref fa) ⟨[.ref a], []⟩) (fun r s' => r = .ok (.ret (.bool true)) ∧ OldK s.heap s'.heap ∧ s'.os = s.os ∧ AllBare s'.gens) s := by
  -- H: nothing, or the script alone; frozen things come out as they went in
  have go : ∀ H : Hp, (∀ b o, H b = some o → b = a ∧ K.lookup a = none ∧ ∃ ob xs, o = .frz ob (.lst xs)) → HOk P w H s.heap → SqL K H a (ns.map V.int) →
      codeAny (model P w) callerA (.call (.ref fa) ⟨[.ref a], []⟩) (fun r s' => r = .ok (.ret (.bool true)) ∧ OldK s.heap s'.heap ∧ s'.os = s.os ∧ AllBare s'.gens) s := by
    intro H only hok hS
    have free : ∀ {b : Addr} {o : Obj} {es : Array DictEntry} {ep : Nat}, s.heap.get? b = some o → o.data = .dict es ep → H b = none := fun {b o es ep} e dd => by
      cases q : H b with
      | none => rfl
      | some u =>
        obtain ⟨rfl, _⟩ := only b u q
        rw [ha] at e
        cases e
        exact nomatch (show Data.seq vs.toArray _ = Data.dict es ep from dd)
    have nsOf : ∀ {b : Addr} {m : Str → Option Value}, s.heap.Ns b m → (hidT s.heap H).Ns b m := fun {b m} ⟨o, es, ep, e, dd, r⟩ => ⟨o, es, ep, hidT_get e (free e dd), dd, r⟩
    have kin : K.In (hidT s.heap H) := fun b o e => hidT_get (KX b o e) (by
      cases q : H b with
      | none => rfl
      | some u =>
        obtain ⟨rfl, hk, _⟩ := only b u q
        rw [hk] at e
        cases e)
    obtain ⟨mc, l1, l2⟩ := hlim
    have e0 : Env0 P w K mg (hidT s.heap H) callerA [] s H := ⟨rfl, ⟨kin, nsOf hns, ⟨mb, nsOf hbl, hbb⟩, mc, nsOf l1, l2⟩, fun b o e => of_hidT e, Nat.le_of_eq (hidT_size _ _), trivial, (fun b hb => nomatch hb), hok, .of_eq hg⟩
    refine codeAny_mono ((F _ kin (nsOf hns)).run callerA [] s H [.ref a] [] [.ref a] [] _ hr e0 (.cons rfl .nil) .nil rfl (hsp H hS)) fun r s' h => ?_
    cases r with
    | error e => exact False.elim h
    | ok fl =>
      cases fl with
      | ret u =>
        obtain ⟨v, H', os, bare, un, hok', rv, rfl⟩ := h
        obtain rfl : u = Value.bool true := rv
        refine ⟨rfl, OldK.of_keep fun b o e => ?_, os, bare⟩
        cases q : H b with
        | none => exact un.keep b o e q (fun z => nomatch z) (fun z => nomatch z)
        | some u =>
          obtain ⟨rfl, _, ob, xs, rfl⟩ := only b u q
          have e1 := (hok _ _ q).1
          rw [e] at e1
          cases e1
          exact (hok' _ _ (un.frzs _ _ _ q)).1
      | next => exact False.elim h
      | brk => exact False.elim h
      | cont => exact False.elim h
  have rv := vals_ints hi
  cases hk : K.lookup a with
  | some o =>
    have e := KX a o hk
    rw [ha] at e
    cases e
    refine go (fun _ => none) (fun _ _ z => nomatch z) (fun _ _ z => nomatch z) (.inr ⟨_, vs.toArray, _, hk, rfl, rfl, rfl, ?_, by simpa using rv⟩)
    rw [List.size_toArray, hi.length]
    exact hl
  | none =>
    refine go (hpS a { cls := .type "list", data := .seq vs.toArray } (ns.map V.int)) (fun b o z => ?_) (fun b o z => ?_) (.inl (.inr ⟨_, if_pos rfl⟩))
    · unfold hpS at z
      by_cases hb : b = a
      · rw [if_pos hb] at z
        cases z
        exact ⟨hb, hk, _, _, rfl⟩
      · rw [if_neg hb] at z
        cases z
    · unfold hpS at z
      by_cases hb : b = a
      · rw [if_pos hb] at z
        cases z
        subst hb
        exact ⟨ha, by rw [List.length_map]; exact hl, vs, _, rv, ha⟩
      · rw [if_neg hb] at z
        cases z
/-- a law's promise: the script's ints in, True out -/
def aLaw : ASx := fun ds _ M R => ∃ ns : List Int, ds = [.lst (ns.map .int)] ∧ ns.length ≤ 63 ∧ R (.bl true) M
theorem walk_x {l : PySem.W.OpenLaw} {k : Nat} {q : Program} {loose : List Str} {XP : (Str → Option Value) → Heap → Prop} {YP : World → Heap → Prop} {d : DefRec} {K : Params → PySem.W.Frag}
    (hn : l.most = some 63) (hdf : d.params.defaults = []) (hr : Room k callerA) (hY : ∀ (w : World) (h : Heap), YP w h → (K w.params).In h)
    (F : ∀ (w : World) (mg : Str → Option Value) (fa : Addr) (h : Heap), (K w.params).In h → h.Ns mainGlobals mg → mg d.name = some (.ref fa) →
        ∀ bs : Heap, (K w.params).In bs → bs.Ns mainGlobals mg → FnX l.prog w (K w.params) mg bs k fa [] (spX (K w.params) aLaw)) :
    PySem.W.WalkO q loose XP YP l.row.toRowW d [] (fun f vs => PySem.call f vs) := by
  refine Att.attach_call hn hdf fun w s₀ s₁ mg mb fa o pm cd doc a vs ns G Y ho hd hcd hmg hobj hints hlen hg => ?_
  have KX := hY w _ Y
  refine run_law KX G.T.g G.T.b G.T.builtins G.T.nolimit hg hobj hints (Nat.le_trans hlen (by decide)) ⟨hr, rfl⟩ (F w mg fa _ KX G.T.g hmg) fun H hS => ?_
  refine ⟨H, [], [.lst (ns.map .int)], [], fun d _ => d = .bl true, .cons (.lst hS (.ofInts ns)) .nil, .nil, Ok.all H, ⟨ns, rfl, hlen, rfl⟩, ?_⟩
  rintro d M' v Hi' H' rfl _ _ r
  cases r
  rfl
end Ab
namespace Ab
open PySem PySem.Spec PyProof.Rows L2
section
variable {X : Cx} {Γ : Gam} {M : Mem} {P : Val → Mem → Prop} {e a b c o : Expr} {es : List Expr} {pos p1 p2 apos kpos : Pos} {k : AK} {d d1 d2 d3 : Val} {i j : Int} {x y m : Str} {n : Nat} {f C : Addr}
theorem av_neg (h : aV X a Γ M (.int i)) : aV X (.UnaryOp .USub a pos) Γ M (.int (-i)) := fun Hi H σ ok en Q q => by
  refine ⟨_, pe_un un_neg pe_we, ?_⟩
  refine h Hi H σ ok en _ fun x M1 v Hi1 H1 h1 s1 ok1 r1 => ?_
  obtain ⟨rfl, rfl⟩ := h1
  cases r1
  exact ⟨i, rfl, q _ _ _ Hi1 H1 ⟨rfl, rfl⟩ s1 ok1 (.int _)⟩
/-- a comprehension whose items are told by their number, and that changes nothing -/
theorem ae_lcP {tg iter elt : Expr} {scope : Scope} (own : List (Str × Nat)) {n : Nat} {it : Nat → Val} (g : Nat → Val) (hc : X.calm = true) (hN : X.N.Nodup) (ok : BlkOk X.N X.env.scope scope own)
    (hi : aI X tg iter Γ M n it (fun _ => True) (fun M' => M' = M))
    (hs : ∀ i acc D, i < n → bG X scope (own.map (·.2)) tg (it i) (wipeG Γ (own.map (·.2))) ((D, .lst acc) :: M) fun Γ2 M2 => bE X scope elt Γ2 M2 fun y M4 => y = g i ∧ M4 = (D, .lst acc) :: M)
    (hn : n ≤ 100000) (hd : P (.lst ((List.range n).map g)) M) (hf : ∀ x, foldedSetIterable iter X.env x = pure x := by intro _; rfl) :
    aE X (.ListComp elt [⟨tg, iter, [], 0⟩] scope pos) Γ M P := by
  refine ae_frz (ae_lcC (it := it) own (fun i acc M' => M' = M ∧ acc = (List.range i).map g) hc hN ok ?_ (fun _ _ _ _ _ => trivial) (fun _ _ _ => trivial) ?_ hn ?_ hf)
  · intro Hi H σ ok en R q
    exact hi Hi H σ ok en R fun J M1 Hi1 H1 h1 => q J M1 Hi1 H1 ⟨h1, rfl⟩
  · rintro i acc M' D hi' _ ⟨rfl, rfl⟩ s H C cl fp
    intro Hi1 H1 σ1 v1 ok1 en1 r1 Q1 q1
    refine hs i _ D hi' s H C cl fp Hi1 H1 σ1 v1 ok1 en1 r1 Q1 fun Γ2 M2 σ2 Hi2 H2 h2 => q1 Γ2 M2 σ2 Hi2 H2 fun s' H' C' cl' fp' => ats_nil ⟨fun _ s2 H2 C2 cl2 fp2 => (h2 s2 H2 C2 cl2 fp2).mono fun y M4 hy => ?_, fun z => nomatch z⟩
    obtain ⟨rfl, rfl⟩ := hy
    exact ⟨_, rfl, rfl, by rw [List.range_succ, List.map_append]; rfl⟩
  · rintro D acc M' ⟨rfl, rfl⟩
    exact ⟨D, _, _, rfl, rfl, hd⟩
end
end Ab
namespace Ab
open PySem PySem.Spec PyProof.Rows L2
section
variable {X : Cx} {Γ : Gam} {M : Mem} {P : Val → Mem → Prop} {e a b c o : Expr} {es : List Expr} {pos p1 p2 apos kpos : Pos} {k : AK} {d d1 d2 d3 : Val} {i j : Int} {x y m : Str} {n : Nat} {f C : Addr}
/-! ### loops whose turns are known only when what they walk has been reckoned -/
def aJ (X : Cx) (tg iter : Expr) (Γ : Gam) (M : Mem) (P : Nat → (Nat → Val) → Mem → Prop) : Prop := ∀ Hi H σ, Ok X.K Hi M H → EnvR X.K Hi Γ σ → ∀ R : It → Hp → Prop,
  (∀ J n it M1 Hi1 H1, P n it M1 → Same Hi Hi1 → Ok X.K Hi1 M1 H1 →
    Walk J n (fun H' => ∃ Hi' M', Same Hi1 Hi' ∧ Ok X.K Hi' M' H') (fun i H' v H'' => ∀ Hi' M', Same Hi1 Hi' → Ok X.K Hi' M' H' → ∃ Hi'', Same Hi' Hi'' ∧ Ok X.K Hi'' M' H'' ∧ Rep X.K Hi'' (it i) v) → R J H1) → WI X tg iter σ H R
theorem aj_ai {tg iter : Expr} {n : Nat} {it : Nat → Val} {R : Mem → Prop} {P : Nat → (Nat → Val) → Mem → Prop} (h : aI X tg iter Γ M n it (fun _ => True) R) (hp : ∀ M1, R M1 → P n it M1) : aJ X tg iter Γ M P := fun Hi H σ ok en R' q =>
  h Hi H σ ok en R' fun J M1 Hi1 H1 h1 s1 ok1 w => q J n it M1 Hi1 H1 (hp M1 h1) s1 ok1 (w.mono (fun H' ⟨Hi', M', a, b⟩ => ⟨Hi', M', a, b, trivial⟩) fun i H' v H'' _ _ hy Hi' M' a b => hy Hi' M' a b trivial)
theorem aj_lst {tg : Expr} {P : Nat → (Nat → Val) → Mem → Prop} (ha : aE X a Γ M fun d M' => ∃ xs, d = .lst xs ∧ P xs.length (fun i => xs.getD i .non) M') : aJ X tg a Γ M P := fun Hi H σ ok en R' q => by
  refine ⟨_, pi_list pe_we, ?_⟩
  refine ha Hi H σ ok en _ fun d M1 v Hi1 H1 h1 s1 ok1 r1 => ?_
  obtain ⟨xs, rfl, hp⟩ := h1
  cases r1 with
  | @lst p ys _ hq ra =>
    refine ⟨p, rfl, ⟨ys, ok1.im.seq hq⟩, q _ xs.length _ M1 Hi1 H1 hp s1 ok1 ?_⟩
    rw [ra.length]
    refine walk_list.mono (fun H' hG => ?_) fun i H' v H'' hi hG hy Hi' M' s2 ok2 => ?_
    · obtain ⟨Hi', M', s2, ok2⟩ := hG
      exact ok2.im.seq (s2.seq hq)
    · obtain ⟨rfl, hv⟩ := hy
      exact ⟨Hi', Same.refl _, ok2, (Sq.at ra hv).mono s2⟩
theorem aj_range1 {tg : Expr} {P : Nat → (Nat → Val) → Mem → Prop} (hm : X.mg "range" = none) (ha : aE X a Γ M fun d M' => ∃ j : Int, d = .int j ∧ -(2 ^ 62) ≤ j ∧ j < 2 ^ 62 ∧ P j.toNat (fun i => .int (0 + i)) M') (hg : Gl X "range" := by rfl) (hs : starEach [a] X.env = [(false, eval a X.env)] := by rfl) :
    aJ X tg (.Call (.Name "range" p1) [a] [] pos) Γ M P := fun Hi H σ ok en R' q => by
  refine ⟨_, pi_range1 hg hm (pa_cons pe_we pa_nil hs) hs, ?_⟩
  refine ha Hi H σ ok en _ fun d M1 v Hi1 H1 h1 s1 ok1 r1 => ?_
  obtain ⟨j, rfl, hl, hh, hp⟩ := h1
  cases r1
  refine ⟨j, rfl, hl, hh, q _ _ _ M1 Hi1 H1 hp s1 ok1 ?_⟩
  refine walk_range.mono (fun _ _ => trivial) fun i H' v H'' hi hG hy Hi' M' s2 ok2 => ?_
  obtain ⟨rfl, rfl⟩ := hy
  exact ⟨Hi', Same.refl _, ok2, .int _⟩
theorem aj_range2 {tg : Expr} {P : Nat → (Nat → Val) → Mem → Prop} (hm : X.mg "range" = none) (ha : aA X [a, b] Γ M fun ds M' => ∃ lo hi : Int, ds = [.int lo, .int hi] ∧ (-(2 ^ 62) ≤ lo ∧ lo < 2 ^ 62 ∧ -(2 ^ 62) ≤ hi ∧ hi < 2 ^ 62) ∧ P (hi - lo).toNat (fun i => .int (lo + i)) M') (hg : Gl X "range" := by rfl)
    (hs : starEach [a, b] X.env = [(false, eval a X.env), (false, eval b X.env)] := by rfl) (hs2 : starEach [b] X.env = [(false, eval b X.env)] := by rfl) : aJ X tg (.Call (.Name "range" p1) [a, b] [] pos) Γ M P := fun Hi H σ ok en R' q => by
  refine ⟨_, pi_range2 hg hm pa_wa hs hs2, ?_⟩
  refine ha Hi H σ ok en _ fun d M1 v Hi1 H1 h1 s1 ok1 r1 => ?_
  obtain ⟨lo, hi, rfl, hb, hp⟩ := h1
  cases r1 with
  | cons r1 r2 =>
    cases r2 with
    | cons r2 r3 =>
      cases r3
      cases r1
      cases r2
      refine ⟨lo, hi, rfl, hb, q _ _ _ M1 Hi1 H1 hp s1 ok1 ?_⟩
      refine walk_range.mono (fun _ _ => trivial) fun i H' v H'' hi hG hy Hi' M' s2 ok2 => ?_
      obtain ⟨rfl, rfl⟩ := hy
      exact ⟨Hi', Same.refl _, ok2, .int _⟩
/-- a for, its invariant told behind what it walks -/
theorem as_forJ {tg iter : Expr} {body : List Stmt} (hp : PassesOwn (model X.prog X.w) X.A X.env X.xe) (hc : X.calm = true)
    (hi : aJ X tg iter Γ M fun n it M1 => ∃ I : Nat → Gam → Mem → Prop, I 0 Γ M1 ∧ (∀ i Γ M, i < n → I i Γ M → aG X tg (it i) Γ M fun Γ2 M2 => aSs X body Γ2 M2 { k with nx := I (i + 1), ct := I (i + 1), bk := k.nx }) ∧ ∀ Γ M, I n Γ M → k.nx Γ M)
    (hf : ∀ x, foldedSetIterable iter X.env x = pure x := by intro _; rfl) : aS X (.For tg iter body [] pos) Γ M k := fun Hi H σ ok en D q => by
  refine ⟨_, ps_for hp hc pi_wi pg_wg pss_wb hf, ?_⟩
  refine hi Hi H σ ok en _ fun J n it M1 Hi1 H1 h1 s1 ok1 w => ?_
  obtain ⟨I, h0, hs, hd⟩ := h1
  refine for_it w (fun i σ' H' => ∃ Γ' M' Hi', I i Γ' M' ∧ Same Hi1 Hi' ∧ Ok X.K Hi' M' H' ∧ EnvR X.K Hi' Γ' σ') ⟨Γ, M1, Hi1, h0, Same.refl _, ok1, en.mono s1⟩ ?_ ?_ ?_
  · rintro i σ' H' hi ⟨Γ', M', Hi', h2, s2, ok2, en2⟩
    exact ⟨Hi', M', s2, ok2⟩
  · rintro i v σ' H' H'' hi ⟨Γ', M', Hi', h2, s2, ok2, en2⟩ hy
    obtain ⟨Hi3, s3, ok3, r3⟩ := hy Hi' M' s2 ok2
    have s13 := (s1.trans s2).trans s3
    refine hs i Γ' M' hi h2 Hi3 H'' σ' v ok3 (en2.mono s3) r3 _ fun Γ4 M4 σ4 Hi4 H4 h4 s4 ok4 en4 => ?_
    have s24 := (s2.trans s3).trans s4
    exact h4 Hi4 H4 σ4 ok4 en4 _ ⟨fun Γ5 M5 σ5 Hi5 H5 h5 s5 ok5 en5 => ⟨Γ5, M5, Hi5, h5, s24.trans s5, ok5, en5⟩, (q.up (s13.trans s4)).rt, (q.up (s13.trans s4)).nx, fun Γ5 M5 σ5 Hi5 H5 h5 s5 ok5 en5 => ⟨Γ5, M5, Hi5, h5, s24.trans s5, ok5, en5⟩⟩
  · rintro σ' H' ⟨Γ', M', Hi', h2, s2, ok2, en2⟩
    exact q.nx Γ' M' σ' Hi' H' (hd Γ' M' h2) (s1.trans s2) ok2 en2
/-- what a comprehension must show, behind what it walks -/
abbrev LcJ (X : Cx) (scope : Scope) (vs : List Nat) (tg elt : Expr) (ifs : List Expr) (Γ : Gam) (P : Val → Mem → Prop) : Nat → (Nat → Val) → Mem → Prop := fun n it M1 => n ≤ 100000 ∧ ∃ J : Nat → List Val → Mem → Prop, J 0 [] M1 ∧
  (∀ i acc M D, i < n → acc.length ≤ i → J i acc M → bG X scope vs tg (it i) (wipeG Γ vs) ((D, .lst acc) :: M) fun Γ2 M2 => bTs X scope ifs Γ2 M2 fun b M3 =>
    (b = true → bE X scope elt Γ2 M3 fun y M4 => ∃ M5, M4 = (D, .lst acc) :: M5 ∧ J (i + 1) (acc ++ [y]) M5) ∧ (b = false → ∃ M5, M3 = (D, .lst acc) :: M5 ∧ J (i + 1) acc M5)) ∧
  ∀ D acc M, J n acc M → P (.ptr D) ((D, .lst acc) :: M)
theorem lc_readJ {tg iter elt : Expr} {ifs : List Expr} {scope : Scope} {vs : List Nat} (hi : aJ X tg iter Γ M (LcJ X scope vs tg elt ifs Γ P)) {Hi H : Hp} {σ : L2.St} (ok : Ok X.K Hi M H) (en : EnvR X.K Hi Γ σ) {Q : VK} (q : Post X.K Hi P Q) :
    tLc (WI X tg iter) (fun v σ H Q => ∀ s H' C cl fp, WG (bx X scope s H' C cl fp) tg v σ H Q) (fun σ H Q => ∀ s H' C cl fp, WTs (bx X scope s H' C cl fp) ifs σ H Q) (fun σ H Q => ∀ s H' C cl fp, WE (bx X scope s H' C cl fp) elt σ H Q) vs σ H Q := by
  refine hi Hi H σ ok en _ fun J' n it M1 Hi1 H1 h1 s1 ok1 w => ?_
  obtain ⟨hn, J, h0, hs, hd⟩ := h1
  intro D hD
  refine lc_it (g := fun v σ H Q => ∀ s H' C cl fp, WG (bx X scope s H' C cl fp) tg v σ H Q) (tt := fun σ H Q => ∀ s H' C cl fp, WTs (bx X scope s H' C cl fp) ifs σ H Q) (te := fun σ H Q => ∀ s H' C cl fp, WE (bx X scope s H' C cl fp) elt σ H Q) (vs := vs) (σ := σ) (Qd := fun H => Q (V.ref D) H)
    w (fun i H' => ∃ acc M' Hi', J i acc M' ∧ acc.length ≤ i ∧ Same Hi1 Hi' ∧ Ok X.K Hi' ((D, .lst acc) :: M') H') ⟨[], M1, Hi1, h0, Nat.le_refl _, Same.refl _, ok1.new hD ⟨[], rfl, .nil⟩⟩ ?_ ?_ ?_
  · rintro i H' hi ⟨acc, M', Hi', h2, _, s2, ok2⟩
    exact ⟨Hi', M', s2, ok2.tail⟩
  · rintro i v H' H'' hi ⟨acc, M', Hi', h2, hl, s2, ok2⟩ hy
    obtain ⟨Hi3, s3, ok3, r3⟩ := hy Hi' ((D, .lst acc) :: M') s2 ok2
    intro s0 H0 C0 cl0 fp0
    have s13 := s2.trans s3
    refine hs i acc M' D hi hl h2 s0 H0 C0 cl0 fp0 Hi3 H'' (wipe σ vs) v ok3 (env_wipe (en.mono (s1.trans s13)) vs) r3 _ fun Γ4 M4 σ4 Hi4 H4 h4 s4 ok4 en4 w4 => ⟨?_, ?_⟩
    · rw [w4]
      clear w4 en4
      have idem : ∀ (us : List Nat) (τ : L2.St), wipe (wipe τ us) us = wipe τ us := by
        intro us
        induction us with
        | nil => intro τ; rfl
        | cons u us ih =>
          intro τ
          show (wipe ((wipe τ us).set u none) us).set u none = (wipe τ us).set u none
          rw [wipe_set]
          by_cases hu : u ∈ us
          · rw [if_pos hu, ih]
          · rw [if_neg hu, ih, List.set_set]
      exact idem vs σ
    · intro s5 H5 C5 cl5 fp5
      refine h4 s5 H5 C5 cl5 fp5 Hi4 H4 σ4 ok4 en4 _ fun b M6 Hi6 H6 h6 s6 ok6 => ?_
      cases b with
      | true =>
        refine iteT fun s7 H7 C7 cl7 fp7 => ?_
        refine h6.1 rfl s7 H7 C7 cl7 fp7 Hi6 H6 σ4 ok6 (en4.mono s6) _ fun y M8 v8 Hi8 H8 h8 s8 ok8 r8 => ?_
        obtain ⟨M9, rfl, h9⟩ := h8
        obtain ⟨_, o, ho, xs, rfl, ra⟩ := ok8.ce D _ List.mem_cons_self
        refine ⟨xs, ho, ?_, ?_⟩
        · rw [← ra.length]
          exact Nat.lt_of_lt_of_le (Nat.lt_of_le_of_lt hl (Nat.lt_of_lt_of_le hi hn)) (by decide)
        · exact ⟨acc ++ [y], M9, Hi8, h9, by rw [List.length_append]; exact Nat.succ_le_succ hl, ((s13.trans s4).trans s6).trans s8, ok8.set (i := 0) rfl ⟨_, rfl, ra.append (.cons r8 .nil)⟩⟩
      | false =>
        obtain ⟨M9, rfl, h9⟩ := h6.2 rfl
        exact iteF ⟨acc, M9, Hi6, h9, Nat.le_succ_of_le hl, (s13.trans s4).trans s6, ok6⟩
  · rintro H' ⟨acc, M', Hi', h2, hl, s2, ok2⟩
    exact q _ _ _ Hi' H' (hd D acc M' h2) (s1.trans s2) ok2 (.ptr D)
theorem as_lcJ {tg iter elt : Expr} {ifs : List Expr} {scope : Scope} {py spos : Pos} (m : Nat) (own : List (Str × Nat)) (hc : X.calm = true) (hN : X.N.Nodup) (ok : BlkOk X.N X.env.scope scope own)
    (hi : aJ X tg iter Γ M (LcJ X scope (own.map (·.2)) tg elt ifs Γ fun d M' => k.nx (Γ.set m (some d)) M')) (hy : X.N[m]? = some y := by rfl) (hyl : X.env.scope.names.lookup y = some .local := by rfl)
    (hsw : swapsWith (.ListComp elt [⟨tg, iter, ifs, 0⟩] scope pos) (some (.Name y py)) spos.line X.env = pure true := by exact sw_true rfl rfl rfl (by decide +kernel))
    (hf : ∀ x, foldedSetIterable iter X.env x = pure x := by intro _; rfl) :
    aS X (.Assign [.Name y py] (.ListComp elt [⟨tg, iter, ifs, 0⟩] scope pos) spos) Γ M k := fun Hi H σ ok' en D q =>
  ⟨_, ps_setLc hc hN hy hyl hsw pi_wi ok (fun s H C cl fp => ⟨fun pins s' σ H v u Q I r h => pg_wg.run pins s' σ H v u Q I r (h _ _ _ _ _)⟩) (fun s H C cl fp => ⟨fun pins s' σ H Q I h => pts_wts.run pins s' σ H Q I (h _ _ _ _ _)⟩) (fun s H C cl fp => ⟨fun pins s' σ H Q I h => pe_we.run pins s' σ H Q I (h _ _ _ _ _)⟩) hf,
    lc_readJ hi ok' en fun d M' v Hi' H' h' s' ok2 r => q.nx _ _ _ Hi' H' h' s' ok2 ((en.mono s').set r)⟩
end
end Ab
namespace Ab
open PySem PySem.Spec PyProof.Rows L2
section
variable {X : Cx} {Γ : Gam} {M : Mem} {P : Val → Mem → Prop} {e a b c o : Expr} {es : List Expr} {pos p1 p2 apos kpos : Pos} {k : AK} {d d1 d2 d3 : Val} {i j : Int} {x y m : Str} {n : Nat} {f C : Addr}
/-! ### operands that change cells -/
def WC (X : Cx) (g : Value → Value → Sem Value) : R2 := fun x y H Q => ∃ r, OpR X g r ∧ r x y H Q
theorem op_wc {g : Value → Value → Sem Value} : OpR X g (WC X g) := fun pins s σ H x y v u Q I rx ry ⟨r, ho, h⟩ => ho pins s σ H x y v u Q I rx ry h
def BinV (X : Cx) (op : Operator) (M : Mem) (x y : Val) (P : Val → Mem → Prop) : Prop := ∃ r, OpR X (binaryOp op) r ∧ RV X r x y M P
theorem ae_bin {op : Operator} (h : aE X a Γ M fun x M1 => aE X b Γ M1 fun y M2 => BinV X op M2 x y P) : aE X (.BinOp a op b pos) Γ M P :=
  ae_op op_wc (h.mono fun x M1 h1 => h1.mono fun y M2 ⟨r, ho, hr⟩ Hi H v w ok rv rw_ Q q => ⟨r, ho, hr Hi H v w ok rv rw_ Q q⟩)
theorem bv_add (h : P (.int (i + j)) M) : BinV X .Add M (.int i) (.int j) P := ⟨_, op_add, rv_I0 (f := fun i j => .int (i + j)) (fun _ _ => .int _) h⟩
theorem bv_sub (h : P (.int (i - j)) M) : BinV X .Sub M (.int i) (.int j) P := ⟨_, op_sub, rv_I0 (f := fun i j => .int (i - j)) (fun _ _ => .int _) h⟩
theorem bv_catL {xs ys : List Val} (h1 : Vw M d1 (.lst xs)) (h2 : Vw M d2 (.lst ys)) (hl : xs.length + ys.length ≤ sizeLine) (h : ∀ p, P (.ptr p) ((p, .lst (xs ++ ys)) :: M)) : BinV X .Add M d1 d2 P := ⟨_, op_catL, rv_catL h1 h2 hl h⟩
theorem bv_catT {xs ys : List Val} (hl : xs.length + ys.length ≤ sizeLine) (h : P (.tup (xs ++ ys)) M) : BinV X .Add M (.tup xs) (.tup ys) P := ⟨_, op_catA, rv_catT hl h⟩
theorem at_cmpM {op : CmpOp} {P : Bool → Mem → Prop} (h : aE X a Γ M fun x M1 => aE X b Γ M1 fun y M2 => ∃ k, Cmp X op M2 x y k ∧ P k M2) (hm : behindInMarks op b = false := by first | exact nomark _ | rfl) : aT X (.Compare a [op] [b] pos) Γ M P := fun Hi H σ ok en Q q => by
  refine ⟨_, pt_cmpR op_wc pe_we pe_we hm, ?_⟩
  refine h Hi H σ ok en _ fun x M1 v Hi1 H1 h1 s1 ok1 r1 => ?_
  refine h1 Hi1 H1 σ ok1 (en.mono s1) _ fun y M2 w Hi2 H2 h2 s2 ok2 r2 => ?_
  obtain ⟨kk, ⟨r, ho, hr⟩, hp⟩ := h2
  refine ⟨r, ho, hr Hi2 H2 v w ok2 (r1.mono s2) r2 _ fun z M' v' Hi3 H3 h3 s3 ok3 r3 => ?_⟩
  obtain ⟨rfl, rfl⟩ := h3
  cases r3
  exact ⟨kk, rfl, q _ _ Hi3 H3 hp ((s1.trans s2).trans s3) ok3⟩
theorem ae_cmpM {op : CmpOp} (h : aE X a Γ M fun x M1 => aE X b Γ M1 fun y M2 => ∃ k, Cmp X op M2 x y k ∧ P (.bl k) M2) (hm : behindInMarks op b = false := by first | exact nomark _ | rfl) : aE X (.Compare a [op] [b] pos) Γ M P := fun Hi H σ ok en Q q => by
  refine ⟨_, pe_cmpR op_wc pe_we pe_we hm, ?_⟩
  refine h Hi H σ ok en _ fun x M1 v Hi1 H1 h1 s1 ok1 r1 => ?_
  refine h1 Hi1 H1 σ ok1 (en.mono s1) _ fun y M2 w Hi2 H2 h2 s2 ok2 r2 => ?_
  obtain ⟨kk, ⟨r, ho, hr⟩, hp⟩ := h2
  refine ⟨r, ho, hr Hi2 H2 v w ok2 (r1.mono s2) r2 _ fun z M' v' Hi3 H3 h3 s3 ok3 r3 => ?_⟩
  obtain ⟨rfl, rfl⟩ := h3
  exact q _ _ v' Hi3 H3 hp ((s1.trans s2).trans s3) ok3 r3
/-- xs[i] -/
theorem ae_ixM (h : aE X a Γ M fun x M1 => aE X b Γ M1 fun y M2 => ∃ i xs d, y = .int i ∧ Sq M2 x xs ∧ atI xs i = some d ∧ P d M2) (hs : PlainIx b := by exact fun _ _ => rfl) : aE X (.Subscript a b pos) Γ M P := fun Hi H σ ok en Q q => by
  refine ⟨_, pe_ix ix_seq pe_we pe_we hs, ?_⟩
  refine h Hi H σ ok en _ fun x M1 v Hi1 H1 h1 s1 ok1 r1 => ?_
  refine h1 Hi1 H1 σ ok1 (en.mono s1) _ fun y M2 w Hi2 H2 h2 s2 ok2 r2 => ?_
  obtain ⟨i, xs, d, rfl, hsq, hat, hp⟩ := h2
  cases r2
  obtain ⟨p, ys, rfl, hq, ra⟩ := hsq.rep ok2 (r1.mono s2)
  obtain ⟨z, hz, rz⟩ := rep_at ra hat
  have fin := q _ _ z Hi2 H2 hp (s1.trans s2) ok2 rz
  rcases hq with hq | hq
  · exact .inl ⟨p, ys, i, z, rfl, rfl, hq, hz, fin⟩
  · exact .inr (.inl ⟨p, ys, i, z, rfl, rfl, hq, hz, fin⟩)
/-- ints as data -/
theorem toDs_ints : ∀ ns : List Int, toDs (ns.map .int) = some (ns.map PyData.int)
  | [] => rfl
  | n :: ns => by
    rw [List.map_cons, List.map_cons]
    unfold toDs
    rw [toDs_ints ns]
    rfl
theorem toD_tup {xs : List Val} {ds : List PyData} (h : toDs xs = some ds) : toD (.tup xs) = some (.tuple ds) := by
  unfold toD
  rw [h]
  rfl
theorem toD_lst {xs : List Val} {ds : List PyData} (h : toDs xs = some ds) : toD (.lst xs) = some (.list ds) := by
  unfold toD
  rw [h]
  rfl
theorem lay_ints : ∀ ns : List Int, PyData.canLayAll0 (ns.map PyData.int) = true
  | [] => rfl
  | n :: ns => by
    rw [List.map_cons]
    unfold PyData.canLayAll0
    rw [lay_ints ns]
    rfl
theorem dep_ints : ∀ ns : List Int, PyData.depthAll (ns.map PyData.int) = 0
  | [] => rfl
  | n :: ns => by
    rw [List.map_cons]
    unfold PyData.depthAll
    rw [dep_ints ns]
    rfl
theorem shaped_tupI (ns : List Int) : SeqAt.shaped (.tuple (ns.map PyData.int)) = true := by
  unfold SeqAt.shaped PyData.canLay0 PyData.depth
  rw [lay_ints, dep_ints]
  rfl
theorem shaped_lstI (ns : List Int) : SeqAt.shaped (.list (ns.map PyData.int)) = true := by
  unfold SeqAt.shaped PyData.canLay0 PyData.depth
  rw [lay_ints, dep_ints]
  rfl
theorem eqv_ints : ∀ ns ms : List Int, PyData.eqvAll (ns.map PyData.int) (ms.map PyData.int) = decide (ns = ms)
  | [], [] => rfl
  | [], _ :: _ => rfl
  | _ :: _, [] => rfl
  | n :: ns, m :: ms => by
    rw [List.map_cons, List.map_cons]
    unfold PyData.eqvAll PyData.eqv
    rw [eqv_ints ns ms]
    by_cases h : n = m
    · subst h
      simp
    · simp [h]
theorem cmp_neLI {ns ms : List Int} (v1 : Vw M d1 (.lst (ns.map .int))) (v2 : Vw M d2 (.lst (ms.map .int))) (hu : X.A.units + 64 < cLine) : Cmp X .NotEq M d1 d2 (!decide (ns = ms)) := by
  have h := cmp_neD v1 v2 (toD_lst (toDs_ints ns)) (toD_lst (toDs_ints ms)) (shaped_lstI ns) (shaped_lstI ms) hu
  rw [show PyData.eqv (.list (ns.map PyData.int)) (.list (ms.map PyData.int)) = decide (ns = ms) from eqv_ints ns ms] at h
  exact h
theorem cmp_eqTI {ns ms : List Int} (hu : X.A.units + 64 < cLine) : Cmp X .Eq M (.tup (ns.map .int)) (.tup (ms.map .int)) (decide (ns = ms)) := by
  have h := cmp_eqD (X := X) (M := M) (.self (.tup (ns.map .int))) (.self (.tup (ms.map .int))) (toD_tup (toDs_ints ns)) (toD_tup (toDs_ints ms)) (shaped_tupI ns) (shaped_tupI ms) hu
  rw [show PyData.eqv (.tuple (ns.map PyData.int)) (.tuple (ms.map PyData.int)) = decide (ns = ms) from eqv_ints ns ms] at h
  exact h
theorem cmp_neTI {ns ms : List Int} (hu : X.A.units + 64 < cLine) : Cmp X .NotEq M (.tup (ns.map .int)) (.tup (ms.map .int)) (!decide (ns = ms)) := by
  have h := cmp_neD (X := X) (M := M) (.self (.tup (ns.map .int))) (.self (.tup (ms.map .int))) (toD_tup (toDs_ints ns)) (toD_tup (toDs_ints ms)) (shaped_tupI ns) (shaped_tupI ms) hu
  rw [show PyData.eqv (.tuple (ns.map PyData.int)) (.tuple (ms.map PyData.int)) = decide (ns = ms) from eqv_ints ns ms] at h
  exact h
end
end Ab
namespace Ab
open PySem PySem.Spec PyProof.Rows L2
section
variable {X : Cx} {Γ : Gam} {M : Mem} {P : Val → Mem → Prop} {e a b c o : Expr} {es : List Expr} {pos p1 p2 apos kpos : Pos} {k : AK} {d d1 d2 d3 : Val} {i j : Int} {x y m : Str} {n : Nat} {f C : Addr}
/-! ### lists that are never changed, as values -/
theorem av_lst {ds : List Val} (h : aVs X es Γ M ds) (hl : ds.length ≤ sizeLine) : aV X (.List es pos) Γ M (.lst ds) := ae_lst (h.val ⟨hl, rfl, rfl⟩)
theorem av_sliceL {xs : List Val} {elo ehi : Option Expr} {lo hi : Option Int} (ha : aV X a Γ M d) (hl : aO X elo Γ M lo) (hh : aO X ehi Γ M hi) (hv : Vw M d (.lst xs)) : aV X (.Subscript a (.Slice elo ehi none p2) pos) Γ M (.lst (cutA xs lo hi)) :=
  ae_frz (ae_sliceL ha hl hh hv fun p => ⟨p, _, _, rfl, rfl, rfl, rfl⟩)
theorem av_sliceT {xs : List Val} {elo ehi : Option Expr} {lo hi : Option Int} (ha : aV X a Γ M (.tup xs)) (hl : aO X elo Γ M lo) (hh : aO X ehi Γ M hi) : aV X (.Subscript a (.Slice elo ehi none p2) pos) Γ M (.tup (cutA xs lo hi)) :=
  ae_sliceT ha hl hh ⟨rfl, rfl⟩
theorem av_catL {xs ys : List Val} (ha : aV X a Γ M d1) (hb : aV X b Γ M d2) (h1 : Vw M d1 (.lst xs)) (h2 : Vw M d2 (.lst ys)) (hl : xs.length + ys.length ≤ sizeLine) : aV X (.BinOp a .Add b pos) Γ M (.lst (xs ++ ys)) :=
  ae_frz (ae_bin (ha.val (hb.val (bv_catL h1 h2 hl fun p => ⟨p, _, _, rfl, rfl, rfl, rfl⟩))))
theorem av_catT {xs ys : List Val} (ha : aV X a Γ M (.tup xs)) (hb : aV X b Γ M (.tup ys)) (hl : xs.length + ys.length ≤ sizeLine) : aV X (.BinOp a .Add b pos) Γ M (.tup (xs ++ ys)) :=
  ae_bin (ha.val (hb.val (bv_catT hl ⟨rfl, rfl⟩)))
theorem av_tuple {xs : List Val} (hm : X.mg "tuple" = none) (ha : aV X a Γ M d) (hs : Sq M d xs) (hg : Gl X "tuple" := by rfl) (hst : starEach [a] X.env = [(false, eval a X.env)] := by rfl) : aV X (.Call (.Name "tuple" p1) [a] [] pos) Γ M (.tup xs) :=
  ae_tuple hm (ha.val ⟨xs, hs, rfl, rfl⟩) hg hst
theorem av_list {xs : List Val} (hm : X.mg "list" = none) (ha : aV X a Γ M d) (hs : Sq M d xs) (hg : Gl X "list" := by rfl) (hst : starEach [a] X.env = [(false, eval a X.env)] := by rfl) : aV X (.Call (.Name "list" p1) [a] [] pos) Γ M (.lst xs) :=
  ae_frz (ae_list hm (ha.val ⟨xs, hs, fun p => ⟨p, _, _, rfl, rfl, rfl, rfl⟩⟩) hg hst)
/-! ### slices of lists of ints -/
def cutI (g : List Int) (lo hi : Option Int) : List Int := (g.drop (HT.sIx g.length 0 lo)).take (HT.sIx g.length g.length hi - HT.sIx g.length 0 lo)
theorem cut_map {g : List Int} {lo hi : Option Int} : cutA (g.map Val.int) lo hi = (cutI g lo hi).map Val.int := by
  unfold cutA cutI
  rw [List.length_map, ← List.map_drop, ← List.map_take]
theorem cut_len {g : List Int} {lo hi : Option Int} : (cutI g lo hi).length ≤ g.length := by
  unfold cutI
  rw [List.length_take, List.length_drop]
  omega
theorem cut_hi {g : List Int} {j : Int} (h0 : 0 ≤ j) (h1 : j ≤ g.length) : cutI g none (some j) = g.take j.toNat := by
  obtain ⟨n, rfl⟩ := Int.eq_ofNat_of_zero_le h0
  unfold cutI
  rw [HT.sIx_nat, HT.sIx_none, List.drop_zero, Nat.sub_zero, Nat.min_eq_left (by omega), Int.toNat_natCast]
theorem cut_lo {g : List Int} {j : Int} (h0 : 0 ≤ j) (h1 : j ≤ g.length) : cutI g (some j) none = g.drop j.toNat := by
  obtain ⟨n, rfl⟩ := Int.eq_ofNat_of_zero_le h0
  unfold cutI
  rw [HT.sIx_nat, HT.sIx_none, Nat.min_eq_left (by omega), Int.toNat_natCast]
  exact List.take_of_length_le (by rw [List.length_drop]; omega)
end
end Ab
namespace Ab
open PySem PySem.Spec PyProof.Rows L2
section
variable {X : Cx} {Γ : Gam} {M : Mem} {P : Val → Mem → Prop} {e a b c o : Expr} {es : List Expr} {pos p1 p2 apos kpos : Pos} {k : AK} {d d1 d2 d3 : Val} {i j : Int} {x y m : Str} {n : Nat} {f C : Addr}
/-- an instance that will change no more -/
theorem ae_frzO (h : aE X e Γ M fun d M' => ∃ p C fs M'', d = .ptr p ∧ M' = (p, .ins C fs) :: M'' ∧ P (.obj C fs) M'') : aE X e Γ M P := fun Hi H σ ok en Q q => by
  refine h Hi H σ ok en _ fun d M1 v Hi1 H1 h1 s1 ok1 r1 => ?_
  obtain ⟨p, C, fs, M2, rfl, rfl, hp⟩ := h1
  obtain ⟨e0, o, ho, dx, gs, rfl, ra⟩ := ok1.ce p _ List.mem_cons_self
  cases r1
  have s2 := same_upd (o := .ins C dx gs) e0
  exact q _ _ _ _ _ hp (s1.trans s2) (ok1.freeze ho) (.obj upd_same (ra.mono s2))
theorem Ret.drops {P : Val → Mem → Prop} {d : Val} {M : Mem} : ∀ {cs : Mem}, Ret P d M → Ret P d (cs ++ M)
  | [], h => h
  | _ :: _, h => .drop (Ret.drops h)
/-! ### ints are shown -/
theorem log_lt {n : Nat} (h : n < 2 ^ 1920) : n.log2 < 1920 := by
  by_cases h0 : n = 0
  · subst h0
    decide
  · exact (Nat.log2_lt h0).mpr h
def showI (v : Int) : Prop := v.natAbs.log2 < 1920
theorem shownI_le {v : Int} (h : showI v) : (PyData.shown (.int v)).length ≤ 1921 := int_text_len_1921 h
end
end Ab
namespace Ab
open PySem PySem.Spec PyProof.Rows L2
/-! defs out of the head's facts -/
section
variable {P : Program} {w : World} {K : PySem.W.Frag} {mg : Str → Option Value} {base : Heap} {x qual : Str} {st : Stmt} {f : Addr} {oc : Value} {od an : Option Addr} {osl : Array (Option Value)} {kV doc pm cdv ct : Value} {fd : FuncData}
theorem fd_mk (l : K.lookup f = some ⟨oc, od, .func (PySem.W.fnOf x qual (defArgs st) (defBody st) (defScope st) .none kV doc pm an cdv ct), osl⟩)
    (c : PySem.W.codeIn K cdv qual = true) (k : PySem.W.keepIn K (.ref f) = true) : FunD K x qual (defArgs st) (defBody st) (defScope st) [] [] f (PySem.W.fnOf x qual (defArgs st) (defBody st) (defScope st) .none kV doc pm an cdv ct) :=
  fun_d (fun_mk l c k)
/-- two keyword-only defaults -/
theorem fd_kw2 {D : Addr} {k1 k2 : Str} {v1 v2 : V} {u1 u2 : Value} (l : K.lookup f = some ⟨oc, od, .func (PySem.W.fnOf x qual (defArgs st) (defBody st) (defScope st) .none (.ref D) doc pm an cdv ct), osl⟩)
    (c : PySem.W.codeIn K cdv qual = true) (k : PySem.W.keepIn K (.ref f) = true) (n1 : PySem.W.nsIn K D k1 = some (some u1)) (n2 : PySem.W.nsIn K D k2 = some (some u2)) (r1 : RelV v1 u1) (r2 : RelV v2 u2) :
    FunD K x qual (defArgs st) (defBody st) (defScope st) [] [(k1, v1), (k2, v2)] f (PySem.W.fnOf x qual (defArgs st) (defBody st) (defScope st) .none (.ref D) doc pm an cdv ct) :=
  ⟨⟨oc, od, .none, .ref D, doc, pm, an, cdv, ct, osl, rfl, l, c, .inl ⟨rfl, rfl⟩, .inr ⟨D, rfl, fun q hq => by
    rcases List.mem_cons.mp hq with e | hq
    · subst e
      exact ⟨u1, n1, r1⟩
    · rcases List.mem_cons.mp hq with e | hq
      · subst e
        exact ⟨u2, n2, r2⟩
      · cases hq⟩⟩, k⟩
/-- a def called by positions and keywords, every parameter written -/
theorem kbn_kw {params : Arguments} {body : List Stmt} {sc : Scope} {kws : List (Str × V)} {ps ks : List Str} {n : Nat} (F : FunD K x qual params body sc [] kws f fd)
    (h : ∀ (kV doc pm : Value) (an : Option Addr) (cdv ct : Value) (us ws : List Value), us.length = n → ws.length = ks.length → bindArgs (PySem.W.fnOf x qual params body sc .none kV doc pm an cdv ct) ⟨us, ks.zip ws⟩ = pure (ps.zip (us ++ ws))) :
    KBn K fd ps n ks (fun us ws => us ++ ws) (fun vs zs => vs ++ zs) := by
  obtain ⟨oc, od, dV, kV, doc, pm, an, cdv, ct, osl, rfl, lk, hcd, hD, _⟩ := F.ex
  obtain ⟨_, rfl⟩ : ([] : List V) = [] ∧ dV = .none := by
    rcases hD with h | ⟨e, _⟩
    · exact h
    · exact absurd rfl e
  exact ⟨fun s us ws _ h1 h2 => .of_eq (h kV doc pm an cdv ct us ws h1 h2), fun r1 r2 => r1.append r2⟩
/-- .. and its promise -/
theorem fnx_kw {params : Arguments} {body : List Stmt} {sc : Scope} {kws : List (Str × V)} {N ps ks : List Str} {k n : Nat} {s0 : ASp} (F : FunD K x qual params body sc [] kws f fd) (S : FnScope N ps sc)
    (h : ∀ (kV doc pm : Value) (an : Option Addr) (cdv ct : Value) (us ws : List Value), us.length = n → ws.length = ks.length → bindArgs (PySem.W.fnOf x qual params body sc .none kV doc pm an cdv ct) ⟨us, ks.zip ws⟩ = pure (ps.zip (us ++ ws)))
    (len : ∀ ds M R, s0 ds M R → ds.length = ps.length) (hb : BodyOk P w K mg base k f N qual sc body s0) : FnX P w K mg base (k + 1) f ks (spX K fun ds es M R => ds.length = n ∧ s0 (ds ++ es) M R) :=
  fnx_kbn (fun ds es => ds ++ es) F S (kbn_kw F h) (fun H ds vs es zs r1 r2 _ _ => r1.append r2) len hb
/-- .. by positions alone -/
theorem fnx_pos' {params : Arguments} {body : List Stmt} {sc : Scope} {kws : List (Str × V)} {N ps : List Str} {k : Nat} {s0 : ASp} (F : FunD K x qual params body sc [] kws f fd) (S : FnScope N ps sc)
    (h : ∀ (kV doc pm : Value) (an : Option Addr) (cdv ct : Value) (us : List Value), us.length = ps.length → bindArgs (PySem.W.fnOf x qual params body sc .none kV doc pm an cdv ct) ⟨us, []⟩ = pure (ps.zip us))
    (len : ∀ ds M R, s0 ds M R → ds.length = ps.length) (hb : BodyOk P w K mg base k f N qual sc body s0) : FnX P w K mg base (k + 1) f [] (spX K fun ds _ => s0 ds) := by
  have F1 := fnx_kbn (n := ps.length) (ks := []) (fun ds _ => ds) F S (g := fun us _ => us) (gV := fun vs _ => vs) (by
    obtain ⟨oc, od, dV, kV, doc, pm, an, cdv, ct, osl, rfl, lk, hcd, hD, _⟩ := F.ex
    obtain ⟨_, rfl⟩ : ([] : List V) = [] ∧ dV = .none := by
      rcases hD with h | ⟨e, _⟩
      · exact h
      · exact absurd rfl e
    refine ⟨fun s us ws _ h1 h2 => .of_eq ?_, fun r1 _ => r1⟩
    obtain rfl := List.length_eq_zero_iff.mp h2
    exact h kV doc pm an cdv ct us h1) (fun H ds vs es zs r _ _ _ => r) len hb
  exact ⟨fun A outer s H us ws vs zs Q hr e0 r rz hz ⟨Hi, M, ds, es, R, ra, re, ok, hs, q⟩ => F1.run A outer s H us ws vs zs Q hr e0 r rz hz ⟨Hi, M, ds, es, R, ra, re, ok, ⟨len _ _ _ hs, hs⟩, q⟩⟩
end
end Ab
namespace Ab
open PySem PySem.Spec PyProof.Rows L2 Builtin
/-! ### == and != of instances by their own __eq__ -/
end Ab
namespace Ab
open PySem PySem.Spec PyProof.Rows L2
/-- a call somewhere below the running body -/
theorem run_at {X : Cx} {A : Around} {n : Nat} {f : Addr} {pins : List (Addr × Obj)} {σ : L2.St} {H : Hp} {s : Shared} {Q : VK} {us : List Value} {vs : List V} {sp : List V → List V → Hp → VK → Prop} (F : FnX X.prog X.w X.K X.mg X.base n f [] sp) (hr : Rm n A) (hf : A.frames = X.A.frames)
    (I : Inv X pins σ H s) (r : Vals vs us) (h : sp vs [] H Q) : wpAny (model X.prog X.w) A (call (.ref f) us) (EP X pins σ Q) X.xe s := by
  have e0 : Env0 X.prog X.w X.K X.mg X.base A X.stack s H := by
    have e := I.env0
    exact ⟨by rw [hf]; exact e.frames, e.mod, e.bs, e.bsz, e.funs, e.frf, e.hok, e.bare⟩
  refine wpAny_call (codeAny_mono (F.run A X.stack s H us [] vs [] Q hr e0 r .nil rfl h) fun r s' hq => ?_)
  cases r with
  | error e => exact False.elim hq
  | ok fl =>
    cases fl with
    | ret u => exact I.after hq
    | next => exact False.elim hq
    | brk => exact False.elim hq
    | cont => exact False.elim hq
/-- == of the class at C by the def at f: what it answers of the fields -/
structure OwnE (P : Program) (w : World) (K : PySem.W.Frag) (mg : Str → Option Value) (base : Heap) (n : Nat) (C f : Addr) (good : List (Str × Val) → Prop) (rel : List (Str × Val) → List (Str × Val) → Bool) : Prop where
  fx : FnX P w K mg base n f [] (spX K fun ds _ M R => ∃ fs gs, ds = [.obj C fs, .obj C gs] ∧ good fs ∧ good gs ∧ R (.bl (rel fs gs)) M)
  at_ : PySem.W.findIn K (.ref C) "__eq__" = some (some (.ref f))
  fn : PySem.W.isFn K (.ref f) = true
  ne : PySem.W.findIn K (.ref C) "__ne__" = some (some (.builtin "object.__ne__"))
  ob : PySem.W.subIn K (.ref C) (.type "object") = some true
section
variable {X : Cx} {n : Nat} {C f : Addr} {good : List (Str × Val) → Prop} {rel : List (Str × Val) → List (Str × Val) → Bool} {M : Mem} {fs gs : List (Str × Val)}
def rO (K : PySem.W.Frag) (C : Addr) (good : List (Str × Val) → Prop) (rel : List (Str × Val) → List (Str × Val) → Bool) (neg : Bool) : R2 := fun x y H Q => ∃ a b dx dy fs gs, x = .ref a ∧ y = .ref b ∧ H a = some (.ins C dx fs) ∧ H b = some (.ins C dy gs) ∧
  spX K (fun ds _ M R => ∃ fs gs, ds = [.obj C fs, .obj C gs] ∧ good fs ∧ good gs ∧ R (.bl (rel fs gs)) M) [x, y] [] H (fun v H' => ∃ bb, v = .bl bb ∧ Q (.bl (if neg then !bb else bb)) H')
theorem op_eqO (O : OwnE X.prog X.w X.K X.mg X.base n C f good rel) (hr : Rm n X.A) : OpR X (compareOp .Eq) (rO X.K C good rel false) := by
  intro pins s σ H x y v u Q I rx ry h
  obtain ⟨a, b, dx, dy, fs, gs, rfl, rfl, ha, hb, hsp⟩ := h
  cases rx
  cases ry
  obtain ⟨mA, J, _⟩ := ins_get I.hok ha
  obtain ⟨mB, J', _⟩ := ins_get I.hok hb
  obtain ⟨od, J, _⟩ := J.look
  obtain ⟨od', J', _⟩ := J'.look
  obtain ⟨m, hF⟩ := I.fr
  show wpAny (model X.prog X.w) X.A (richCompare .Eq (.ref a) (.ref b)) (EP X pins σ Q) X.xe s
  refine PySem.W.cmp_K (op := .Eq) (tb := .ref C) hr.room.units0 hF I.ok.mod.kin J J'.type (by simp [PySem.W.notFirst]) O.at_ O.fn ?_
  refine wpAny_mono (run_at O.fx hr rfl I (vs := [.ref a, .ref b]) (.cons rfl (.cons rfl .nil)) hsp) (fun r s' z => ?_) fun _ _ x => x
  obtain ⟨v', H', I', rv, bb, rfl, q⟩ := z
  cases rv
  exact ⟨.bl bb, H', I', rfl, q⟩
theorem rv_O {neg : Bool} (hf : good fs) (hg : good gs) : RV X (rO X.K C good rel neg) (.obj C fs) (.obj C gs) M fun z M' => z = .bl (if neg then !rel fs gs else rel fs gs) ∧ M' = M := fun Hi H v w ok rv rw_ Q q => by
  cases id rv with
  | @obj a _ dx vs _ ha ra =>
    cases id rw_ with
    | @obj b _ dy ws _ hb rb =>
      refine ⟨a, b, dx, dy, vs, ws, rfl, rfl, ok.im _ _ ha, ok.im _ _ hb, Hi, M, [.obj C fs, .obj C gs], [], fun z M' => z = .bl (rel fs gs) ∧ M' = M, .cons rv (.cons rw_ .nil), .nil, ok, ⟨fs, gs, rfl, hf, hg, rfl, rfl⟩, ?_⟩
      intro d M' v Hi' H' h s' ok' r
      obtain ⟨rfl, rfl⟩ := h
      cases r
      exact ⟨_, rfl, q _ _ _ Hi' H' ⟨rfl, rfl⟩ s' ok' (.bl _)⟩
theorem cmp_eqO (O : OwnE X.prog X.w X.K X.mg X.base n C f good rel) (hr : Rm n X.A) (hf : good fs) (hg : good gs) : Cmp X .Eq M (.obj C fs) (.obj C gs) (rel fs gs) := ⟨_, op_eqO O hr, rv_O (neg := false) hf hg⟩
end
end Ab
namespace Ab
open PySem PySem.Spec PyProof.Rows L2
open AutoSeq1 (wpAny_loadPart')
open PySem.SeqAt MeetsSeq MeetsSeq2 MeetsSeq3 SeqRoads2
/-! ### lists whose items are equal: == and != (neg) -/
/-! ### items by their own == -/
def DV (K : PySem.W.Frag) (ed : Val → Val → Prop) : Eqv := fun x y H => ∃ d e, Rep K H d x ∧ Rep K H e y ∧ ed d e
theorem DV.mono {K : PySem.W.Frag} {ed : Val → Val → Prop} {x y : V} {H H' : Hp} (s : Same H H') (h : DV K ed x y H) : DV K ed x y H' := by
  obtain ⟨d, e, r1, r2, h⟩ := h
  exact ⟨d, e, r1.mono s, r2.mono s, h⟩
end Ab
namespace Ab
open PySem PySem.Spec PyProof.Rows L2
section
variable {X : Cx} {Γ : Gam} {M : Mem} {P : Val → Mem → Prop} {e a b c o : Expr} {es : List Expr} {pos p1 p2 apos kpos : Pos} {k : AK} {d d1 d2 d3 : Val} {i j : Int} {x y m : Str} {n : Nat} {f C : Addr}
/-- a global name that holds an int -/
theorem av_gint {t : Tok} (hm : X.mg x = some (.int i t)) (hg : Gl X x := by rfl) (hd : (x == ("__debug__" : Str)) = false := by decide) : aV X (.Name x pos) Γ M (.int i) := fun Hi H σ ok en Q q =>
  ⟨fun σ H Q => Q (.int i) H, ⟨fun pins s σ H Q I h => ld_glob I hg hm ⟨.int i, H, I, ⟨t, rfl⟩, h⟩ hd⟩, q _ _ _ Hi H ⟨rfl, rfl⟩ (Same.refl _) ok (.int i)⟩
/-- t * n -/
theorem av_repT {xs : List Val} (ha : aV X a Γ M (.tup xs)) (hb : aV X b Γ M (.int j)) (hx : xs ≠ []) (h1 : 2 ≤ j) (h2 : j ≤ 1000) (hl : xs.length ≤ 1000) : aV X (.BinOp a .Mult b pos) Γ M (.tup (List.replicate j.toNat xs).flatten) :=
  av_op op_repT ha hb fun Hi H v w ok rv rw_ Q q => by
    cases rw_
    cases rv with
    | @tup p ys _ hq ra =>
      have rep : ∀ m : Nat, RepA X.K Hi (List.replicate m xs).flatten (List.replicate m ys).flatten := by
        intro m
        induction m with
        | zero => exact .nil
        | succ m ih =>
          rw [List.replicate_succ, List.replicate_succ, List.flatten_cons, List.flatten_cons]
          exact ra.append ih
      refine ⟨p, j, ys, rfl, rfl, sameT ok.im hq, fun z => hx ?_, h1, h2, by rw [← ra.length]; exact hl, fun l hl => ?_⟩
      · subst z
        cases ra
        rfl
      · have s2 := same_upd (o := .tup (List.replicate j.toNat ys).flatten) (ok.none hl)
        exact q _ _ _ _ _ ⟨rfl, rfl⟩ s2 (ok.imm hl) (.tup (SqT.of upd_same) ((rep _).mono s2))
/-- list(range(n)) -/
theorem av_listRg {a : Expr} {pr : Pos} {p3 : Pos} (m1 : X.mg "list" = none) (m2 : X.mg "range" = none) (hc : X.calm = true) (ha : aV X a Γ M (.int j)) (h0 : 0 ≤ j) (h1 : j ≤ 16777216) (hg1 : Gl X "list" := by rfl) (hg2 : Gl X "range" := by rfl) (na : starEach [a] X.env = (false, eval a X.env) :: starEach [] X.env := by rfl)
    (nb : starEach [.Call (.Name "range" pr) [a] [] p3] X.env = (false, eval (.Call (.Name "range" pr) [a] [] p3) X.env) :: starEach [] X.env := by rfl) : aV X (.Call (.Name "list" p1) [.Call (.Name "range" pr) [a] [] p3] [] pos) Γ M (.lst ((List.range j.toNat).map fun i => .int (i : Nat))) := fun Hi H σ ok en Q q => by
  refine ⟨_, pe_listRg hc hg1 m1 (prg_1 hg2 m2 pe_we na) nb, ?_⟩
  refine ha Hi H σ ok en _ fun x M1 v Hi1 H1 h1' s1 ok1 r1 => ?_
  obtain ⟨rfl, rfl⟩ := h1'
  cases r1
  refine ⟨j, rfl, RgOk.of_le (by decide) h1 (by decide) h0, fun l hl => ?_⟩
  have s2 := same_upd (o := .lst (rgV 0 j)) (ok1.none hl)
  refine q _ _ _ _ _ ⟨rfl, rfl⟩ (s1.trans s2) (ok1.imm hl) (.lst (SqL.of upd_same) ?_)
  unfold rgV
  rw [Int.sub_zero]
  have : ∀ (H0 : Hp) (l : List Nat), RepA X.K H0 (l.map fun i => Val.int (i : Nat)) (l.map fun i => V.int (0 + (i : Nat))) := fun H0 l => by
    induction l with
    | nil => exact .nil
    | cons z l ih =>
      rw [List.map_cons, List.map_cons, Int.zero_add]
      exact .cons (.int _) ih
  exact this _ _
end
/-! ### def f( *v) -/
section
variable {P : Program} {w : World} {K : PySem.W.Frag} {mg : Str → Option Value} {base : Heap}
/-- positional defaults fill up -/
theorem fnx_dfl {x qual : Str} {params : Arguments} {body : List Stmt} {sc : Scope} {dvs : List V} {kws : List (Str × V)} {f : Addr} {fd : FuncData} {N ps : List Str} {k n : Nat} {s0 : ASp} (F : FunD K x qual params body sc dvs kws f fd) (S : FnScope N ps sc) (hd : dvs ≠ []) (dd : List Val) (hdd : ∀ H, RepA K H dd dvs)
    (h : ∀ (T : Addr) (kV doc pm : Value) (an : Option Addr) (cdv ct : Value) (us its : List Value), us.length = n → its.length = dvs.length →
      ∃ k, bindArgs (PySem.W.fnOf x qual params body sc (.ref T) kV doc pm an cdv ct) ⟨us, []⟩ = seqItems? (.ref T) >>= k ∧ k (some its.toArray) = pure (ps.zip (us ++ its)))
    (len : ∀ ds M R, s0 ds M R → ds.length = ps.length) (hb : BodyOk P w K mg base k f N qual sc body s0) : FnX P w K mg base (k + 1) f [] (spX K fun ds _ M R => ds.length = n ∧ s0 (ds ++ dd) M R) := by
  obtain ⟨oc, od, dV, kV, doc, pm, an, cdv, ct, osl, e, lk, hcd, hD, hK⟩ := F.ex
  rcases hD with ⟨e, _⟩ | ⟨_, T, o, its, m, e2, lT, oT, rT⟩
  · exact absurd e hd
  · subst e2
    subst e
    have l1 : its.length = dvs.length := rT.length.symm
    refine fnx_kbn (n := n) (ks := []) (fun ds _ => ds ++ dd) F S (g := fun us _ => us ++ its) (gV := fun vs _ => vs ++ dvs) ⟨fun s us ws X l2 h2 => ?_, fun r1 _ => r1.append rT⟩ (fun H ds vs es zs r _ _ _ => r.append (hdd H)) len hb
    obtain rfl := List.length_eq_zero_iff.mp h2
    obtain ⟨k', e1, e2⟩ := h T kV doc pm an cdv ct us its l2 l1
    refine BindsTo.of_looks fun M => ?_
    show PySem.W.Looks M s.heap (bindArgs _ ⟨us, []⟩) _
    rw [e1]
    exact looks_items X lT oT (.of_pure e2)
end
end Ab
/-! streams: a front and a loop; the normal form is one -/
namespace Sm
abbrev Stm := List Int × List Int
def lp (l : List Int) (i : Nat) : Int := l.getD (i % l.length) 0
def item (s : Stm) (i : Nat) : Int := if i < s.1.length then s.1.getD i 0 else lp s.2 (i - s.1.length)
theorem gd_eq {l : List Int} {i : Nat} (h : i < l.length) : l.getD i 0 = l[i] := by
  rw [List.getD_eq_getElem?_getD, List.getElem?_eq_getElem h]
  rfl
theorem ext_gd {l m : List Int} (hl : l.length = m.length) (h : ∀ i, i < l.length → l.getD i 0 = m.getD i 0) : l = m := by
  apply List.ext_getElem hl
  intro i h1 h2
  have := h i h1
  rwa [gd_eq h1, gd_eq h2] at this
theorem lp_add {l : List Int} (i : Nat) : lp l (i + l.length) = lp l i := by
  unfold lp
  rw [Nat.add_mod_right]
theorem lp_lt {l : List Int} {i : Nat} (h : i < l.length) : lp l i = l.getD i 0 := by
  unfold lp
  rw [Nat.mod_eq_of_lt h]
/-! ### periods -/
theorem per_mul {h : Nat → Int} {p : Nat} (hp : ∀ i, h (i + p) = h i) : ∀ (k i : Nat), h (i + p * k) = h i
  | 0, i => by rw [Nat.mul_zero, Nat.add_zero]
  | k + 1, i => by
    rw [Nat.mul_succ, ← Nat.add_assoc, hp, per_mul hp k]
theorem per_mod {h : Nat → Int} {p : Nat} (hp : ∀ i, h (i + p) = h i) (i : Nat) : h (i % p) = h i := by
  have := per_mul hp (i / p) (i % p)
  rw [Nat.mod_add_div] at this
  exact this.symm
theorem per_gcd {h : Nat → Int} (p q : Nat) (hp : ∀ i, h (i + p) = h i) (hq : ∀ i, h (i + q) = h i) : ∀ i, h (i + Nat.gcd p q) = h i := by
  induction p, q using Nat.gcd.induction with
  | H0 q => rw [Nat.gcd_zero_left]; exact hq
  | H1 m n hm ih =>
    rw [Nat.gcd_rec]
    refine ih (fun i => ?_) hp
    have e := per_mul hp (n / m) (i + n % m)
    rw [Nat.add_assoc, Nat.mod_add_div] at e
    rw [← e]
    exact hq i
/-- no smaller period that divides the length -/
def prim (l : List Int) : Prop := ∀ p, 0 < p → p < l.length → p ∣ l.length → ¬ ∀ i, lp l (i + p) = lp l i
def last0 (l : List Int) : Int := l.getD (l.length - 1) 0
structure NF (s : Stm) : Prop where
  ne : s.2 ≠ []
  pr : prim s.2
  fr : s.1 = [] ∨ last0 s.1 ≠ last0 s.2
theorem prim_per {l : List Int} (hn : l ≠ []) (hp : prim l) {d : Nat} (h0 : 0 < d) (hd : d ∣ l.length) (h : ∀ i, lp l (i + d) = lp l i) : d = l.length := by
  have hl : 0 < l.length := List.length_pos_iff.mpr hn
  have := Nat.le_of_dvd hl hd
  rcases Nat.lt_or_ge d l.length with h1 | h1
  · exact absurd h (hp d h0 h1 hd)
  · omega
theorem item_ge {s : Stm} {i : Nat} (h : s.1.length ≤ i) : item s i = lp s.2 (i - s.1.length) := by
  unfold item
  rw [if_neg (by omega)]
theorem item_lt {s : Stm} {i : Nat} (h : i < s.1.length) : item s i = s.1.getD i 0 := by
  unfold item
  rw [if_pos h]
theorem uniq_le {s t : Stm} (hs : NF s) (ht : NF t) (h : ∀ i, item s i = item t i) (hle : s.1.length ≤ t.1.length) : s = t := by
  have ps : 0 < s.2.length := List.length_pos_iff.mpr hs.ne
  have pt : 0 < t.2.length := List.length_pos_iff.mpr ht.ne
  generalize hc : t.1.length - s.1.length = c
  -- behind t's front
  have hh : ∀ i, lp s.2 (i + c) = lp t.2 i := fun i => by
    have := h (i + t.1.length)
    rw [item_ge (by omega), item_ge (by omega)] at this
    rw [show i + t.1.length - s.1.length = i + c by omega, Nat.add_sub_cancel] at this
    exact this
  have per1 : ∀ i, lp t.2 (i + s.2.length) = lp t.2 i := fun i => by
    rw [← hh, ← hh, show i + s.2.length + c = i + c + s.2.length by omega, lp_add]
  have d1 := per_gcd _ _ per1 (fun i => lp_add (l := t.2) i)
  have dpos : 0 < Nat.gcd s.2.length t.2.length := Nat.gcd_pos_of_pos_left _ ps
  have e1 := prim_per ht.ne ht.pr dpos (Nat.gcd_dvd_right _ _) d1
  have d2 : ∀ i, lp s.2 (i + Nat.gcd s.2.length t.2.length) = lp s.2 i := fun i => by
    have k : ∀ j, lp s.2 j = lp t.2 (j + s.2.length * c - c) := fun j => by
      have hc' : c ≤ s.2.length * c := Nat.le_mul_of_pos_left _ ps
      rw [← hh, show j + s.2.length * c - c + c = j + s.2.length * c by omega]
      exact (per_mul (fun i => lp_add (l := s.2) i) c j).symm
    have hc' : c ≤ s.2.length * c := Nat.le_mul_of_pos_left _ ps
    rw [k, k, show i + Nat.gcd s.2.length t.2.length + s.2.length * c - c = (i + s.2.length * c - c) + Nat.gcd s.2.length t.2.length by omega, d1]
  have e2 := prim_per hs.ne hs.pr dpos (Nat.gcd_dvd_left _ _) d2
  have hpq : s.2.length = t.2.length := e2.symm.trans e1
  have hc0 : c = 0 := by
    rcases Nat.eq_zero_or_pos c with z | z
    · exact z
    · exfalso
      have hN : 0 < t.1.length := by omega
      rcases ht.fr with q | q
      · rw [q] at hN
        exact absurd hN (by simp)
      · refine q ?_
        have a1 := h (t.1.length - 1)
        rw [item_ge (by omega), item_lt (by omega)] at a1
        have a2 := hh (t.2.length - 1)
        rw [show t.2.length - 1 + c = (c - 1) + s.2.length by omega, lp_add, lp_lt (l := t.2) (by omega)] at a2
        rw [show t.1.length - 1 - s.1.length = c - 1 by omega] at a1
        show t.1.getD (t.1.length - 1) 0 = t.2.getD (t.2.length - 1) 0
        rw [← a1, ← a2]
  have hl : s.1.length = t.1.length := by omega
  have f1 : s.1 = t.1 := ext_gd hl fun i hi => by
    have := h i
    rwa [item_lt hi, item_lt (hl ▸ hi)] at this
  have f2 : s.2 = t.2 := ext_gd hpq fun i hi => by
    have := hh i
    rw [hc0, Nat.add_zero, lp_lt hi, lp_lt (hpq ▸ hi)] at this
    exact this
  exact Prod.ext f1 f2
theorem uniq {s t : Stm} (hs : NF s) (ht : NF t) (h : ∀ i, item s i = item t i) : s = t := by
  rcases Nat.le_total s.1.length t.1.length with q | q
  · exact uniq_le hs ht h q
  · exact (uniq_le ht hs (fun i => (h i).symm) q).symm
/-! ### the program's way there -/
def cyc (t : List Int) (m : Nat) : List Int := (List.replicate m t).flatten
theorem cyc_succ (t : List Int) (m : Nat) : cyc t (m + 1) = t ++ cyc t m := by
  unfold cyc
  rw [List.replicate_succ, List.flatten_cons]
theorem cyc_len (t : List Int) : ∀ m, (cyc t m).length = m * t.length
  | 0 => by simp [cyc]
  | m + 1 => by
    rw [cyc_succ, List.length_append, cyc_len t m, Nat.succ_mul, Nat.add_comm]
theorem cyc_get (t : List Int) : ∀ (m i : Nat), i < m * t.length → (cyc t m).getD i 0 = lp t i
  | 0, i, h => by simp at h
  | m + 1, i, h => by
    rw [cyc_succ, List.getD_eq_getElem?_getD]
    by_cases hi : i < t.length
    · rw [List.getElem?_append_left hi, lp_lt hi, List.getD_eq_getElem?_getD]
    · have hi' : t.length ≤ i := by omega
      rw [List.getElem?_append_right hi', ← List.getD_eq_getElem?_getD, cyc_get t m (i - t.length) (by rw [Nat.succ_mul] at h; omega)]
      have := lp_add (l := t) (i - t.length)
      rw [Nat.sub_add_cancel hi'] at this
      exact this.symm
/-- the loop is its first p items over and over -/
def isRep (l : List Int) (p : Nat) : Bool := decide (l.length % p = 0) && decide (l = cyc (l.take p) (l.length / p))
def slFrom (l : List Int) : Nat → Nat → List Int
  | 0, _ => l
  | c + 1, p => if isRep l p = true then l.take p else slFrom l c (p + 1)
def sloop (l : List Int) : List Int := slFrom l (l.length - 1) 1
theorem take_len {l : List Int} {p : Nat} (h : p ≤ l.length) : (l.take p).length = p := by rw [List.length_take]; omega
theorem isRep_iff {l : List Int} {p : Nat} (h0 : 0 < p) (h1 : p < l.length) : isRep l p = true ↔ p ∣ l.length ∧ ∀ i, lp l (i + p) = lp l i := by
  unfold isRep
  rw [Bool.and_eq_true, decide_eq_true_iff, decide_eq_true_iff, ← Nat.dvd_iff_mod_eq_zero]
  have tl := take_len (Nat.le_of_lt h1)
  refine ⟨fun ⟨hd, he⟩ => ⟨hd, ?_⟩, fun ⟨hd, hp⟩ => ⟨hd, ?_⟩⟩
  · have hm : l.length / p * p = l.length := Nat.div_mul_cancel hd
    have g : ∀ i, i < l.length → l.getD i 0 = lp (l.take p) i := fun i hi => by
      have := cyc_get (l.take p) (l.length / p) i (by rw [tl, hm]; exact hi)
      rw [← he] at this
      exact this
    have g2 : ∀ i, lp l i = lp (l.take p) i := fun i => by
      unfold lp
      have hl : 0 < l.length := by omega
      have hi := Nat.mod_lt i hl
      have := g _ hi
      unfold lp at this
      rw [this, tl, Nat.mod_mod_of_dvd _ hd]
    intro i
    rw [g2, g2]
    have := lp_add (l := l.take p) i
    rw [tl] at this
    exact this
  · have hm : l.length / p * p = l.length := Nat.div_mul_cancel hd
    refine ext_gd (by rw [cyc_len, tl, hm]) fun i hi => ?_
    rw [cyc_get _ _ _ (by rw [tl, hm]; exact hi)]
    have := per_mod hp i
    rw [lp_lt hi, lp_lt (Nat.lt_trans (Nat.mod_lt i h0) h1)] at this
    rw [← this]
    unfold lp
    rw [tl, List.getD_eq_getElem?_getD, List.getD_eq_getElem?_getD, List.getElem?_take_of_lt (Nat.mod_lt i h0)]
theorem lp_take {l : List Int} {p : Nat} (h0 : 0 < p) (h1 : p < l.length) (hp : ∀ i, lp l (i + p) = lp l i) (i : Nat) : lp (l.take p) i = lp l i := by
  have tl := take_len (Nat.le_of_lt h1)
  have hm := Nat.mod_lt i h0
  rw [← per_mod hp i, lp_lt (Nat.lt_trans hm h1)]
  unfold lp
  rw [tl, List.getD_eq_getElem?_getD, List.getD_eq_getElem?_getD, List.getElem?_take_of_lt hm]
/-- what the search has behind it -/
theorem slFrom_spec {l : List Int} (hn : l ≠ []) : ∀ (c p : Nat), 0 < p → c + p = l.length → (∀ q, 0 < q → q < p → q ∣ l.length → ¬ ∀ i, lp l (i + q) = lp l i) →
    slFrom l c p ≠ [] ∧ prim (slFrom l c p) ∧ (∀ i, lp (slFrom l c p) i = lp l i) ∧ (slFrom l c p).length ≤ l.length ∧ ∀ v ∈ slFrom l c p, v ∈ l
  | 0, p, h0, hc, hb => by
    refine ⟨hn, fun q q0 q1 => hb q q0 ?_, fun _ => rfl, Nat.le_refl _, fun v h => h⟩
    have : slFrom l 0 p = l := rfl
    rw [this] at q1
    omega
  | c + 1, p, h0, hc, hb => by
    unfold slFrom
    have h1 : p < l.length := by omega
    by_cases hr : isRep l p = true
    · rw [if_pos hr]
      obtain ⟨hd, hp⟩ := (isRep_iff h0 h1).mp hr
      have tl := take_len (Nat.le_of_lt h1)
      refine ⟨fun z => ?_, fun q q0 q1 qd hq => ?_, lp_take h0 h1 hp, by omega, fun v hv => List.mem_of_mem_take hv⟩
      · rw [z] at tl
        simp at tl
        omega
      · rw [tl] at q1 qd
        refine hb q q0 q1 (Nat.dvd_trans qd hd) fun i => ?_
        have := hq i
        rwa [lp_take h0 h1 hp, lp_take h0 h1 hp] at this
    · rw [if_neg hr]
      refine slFrom_spec hn c (p + 1) (by omega) (by omega) fun q q0 q1 qd hq => ?_
      rcases Nat.lt_or_ge q p with z | z
      · exact hb q q0 z qd hq
      · have : q = p := by omega
        subst this
        exact hr ((isRep_iff h0 h1).mpr ⟨qd, hq⟩)
theorem sloop_spec {l : List Int} (hn : l ≠ []) : sloop l ≠ [] ∧ prim (sloop l) ∧ (∀ i, lp (sloop l) i = lp l i) ∧ (sloop l).length ≤ l.length ∧ ∀ v ∈ sloop l, v ∈ l := by
  have hl : 0 < l.length := List.length_pos_iff.mpr hn
  exact slFrom_spec hn _ _ (by decide) (by omega) fun q q0 q1 => by omega
def rotR (l : List Int) : List Int := last0 l :: l.dropLast
def nfGo : Nat → List Int → List Int → Stm
  | 0, f, l => (f, l)
  | c + 1, f, l => if f ≠ [] ∧ last0 f = last0 l then nfGo c f.dropLast (rotR l) else (f, l)
def nf (s : Stm) : Stm := nfGo s.1.length s.1 (sloop s.2)
theorem rot_len {l : List Int} (hn : l ≠ []) : (rotR l).length = l.length := by
  have hl : 0 < l.length := List.length_pos_iff.mpr hn
  unfold rotR
  rw [List.length_cons, List.length_dropLast]
  omega
theorem last_mem {l : List Int} (hn : l ≠ []) : last0 l ∈ l := by
  have hl : 0 < l.length := List.length_pos_iff.mpr hn
  unfold last0
  rw [gd_eq (by omega)]
  exact List.getElem_mem _
theorem mem_dl {l : List Int} {v : Int} (h : v ∈ l.dropLast) : v ∈ l := by
  rw [List.dropLast_eq_take] at h
  exact List.mem_of_mem_take h
theorem rot_mem {l : List Int} (hn : l ≠ []) {v : Int} (h : v ∈ rotR l) : v ∈ l := by
  rcases List.mem_cons.mp h with rfl | h
  · exact last_mem hn
  · exact mem_dl h
theorem gd_dropLast {l : List Int} {i : Nat} (h : i < l.length - 1) : l.dropLast.getD i 0 = l.getD i 0 := by
  rw [gd_eq (by rw [List.length_dropLast]; exact h), gd_eq (by omega), List.getElem_dropLast]
theorem rot_lp {l : List Int} (hn : l ≠ []) (i : Nat) : lp (rotR l) (i + 1) = lp l i := by
  have hl : 0 < l.length := List.length_pos_iff.mpr hn
  have hr := rot_len hn
  have hm := Nat.mod_lt i hl
  have k : ∀ j, j < l.length → lp (rotR l) (j + 1) = lp l j := fun j hj => by
    by_cases z : j + 1 < l.length
    · rw [lp_lt (by omega), lp_lt hj]
      show (last0 l :: l.dropLast).getD (j + 1) 0 = _
      rw [List.getD_cons_succ, gd_dropLast (by omega)]
    · have e : j = l.length - 1 := by omega
      subst e
      have : lp (rotR l) (l.length - 1 + 1) = lp (rotR l) 0 := by
        have := lp_add (l := rotR l) 0
        rw [hr] at this
        rw [show l.length - 1 + 1 = 0 + l.length by omega]
        exact this
      rw [this, lp_lt (by omega), lp_lt hj]
      rfl
  have e1 : lp l i = lp l (i % l.length) := (per_mod (fun i => lp_add (l := l) i) i).symm
  rw [e1, ← k _ hm]
  have := per_mul (h := fun j => lp (rotR l) (j + 1)) (p := l.length) (fun j => by
    have := lp_add (l := rotR l) (j + 1)
    rw [hr] at this
    show lp (rotR l) (j + l.length + 1) = _
    rw [show j + l.length + 1 = j + 1 + l.length by omega]
    exact this) (i / l.length) (i % l.length)
  rw [Nat.mod_add_div] at this
  exact this
theorem rot_prim {l : List Int} (hn : l ≠ []) (hp : prim l) : prim (rotR l) := fun q q0 q1 qd hq => by
  rw [rot_len hn] at q1 qd
  refine hp q q0 q1 qd fun i => ?_
  have := hq (i + 1)
  rw [show i + 1 + q = i + q + 1 by omega, rot_lp hn, rot_lp hn] at this
  exact this
theorem step_item {f l : List Int} (hf : f ≠ []) (hn : l ≠ []) (he : last0 f = last0 l) (i : Nat) : item (f.dropLast, rotR l) i = item (f, l) i := by
  have hl : 0 < f.length := List.length_pos_iff.mpr hf
  have h2 : 0 < l.length := List.length_pos_iff.mpr hn
  have hd : f.dropLast.length = f.length - 1 := List.length_dropLast
  by_cases h : i < f.length - 1
  · rw [item_lt (by show i < f.dropLast.length; omega), item_lt (by show i < f.length; omega)]
    exact gd_dropLast h
  · rw [item_ge (by show f.dropLast.length ≤ i; omega)]
    show lp (rotR l) (i - f.dropLast.length) = _
    rw [hd]
    by_cases z : i = f.length - 1
    · subst z
      rw [Nat.sub_self, item_lt (by show f.length - 1 < f.length; omega), lp_lt (by rw [rot_len hn]; exact h2)]
      exact he.symm
    · rw [item_ge (by show f.length ≤ i; omega), show i - (f.length - 1) = (i - f.length) + 1 by omega, rot_lp hn]
theorem nfGo_spec : ∀ (c : Nat) (f l : List Int), f.length ≤ c → l ≠ [] → prim l → NF (nfGo c f l) ∧ (∀ i, item (nfGo c f l) i = item (f, l) i) ∧ (nfGo c f l).1.length ≤ f.length ∧ (nfGo c f l).2.length = l.length ∧ (∀ v ∈ (nfGo c f l).1, v ∈ f) ∧ ∀ v ∈ (nfGo c f l).2, v ∈ l
  | 0, f, l, hc, hn, hp => by
    have e : f = [] := List.length_eq_zero_iff.mp (Nat.le_zero.mp hc)
    subst e
    exact ⟨⟨hn, hp, .inl rfl⟩, fun _ => rfl, Nat.le_refl _, rfl, fun _ h => h, fun _ h => h⟩
  | c + 1, f, l, hc, hn, hp => by
    unfold nfGo
    by_cases h : f ≠ [] ∧ last0 f = last0 l
    · rw [if_pos h]
      have hl : 0 < f.length := List.length_pos_iff.mpr h.1
      have hr : rotR l ≠ [] := fun z => by
        unfold rotR at z
        cases z
      obtain ⟨h1, h2, h3, h4, h5, h6⟩ := nfGo_spec c f.dropLast (rotR l) (by rw [List.length_dropLast]; omega) hr (rot_prim hn hp)
      exact ⟨h1, fun i => (h2 i).trans (step_item h.1 hn h.2 i), by rw [List.length_dropLast] at h3; omega, h4.trans (rot_len hn), fun v hv => mem_dl (h5 v hv), fun v hv => rot_mem hn (h6 v hv)⟩
    · rw [if_neg h]
      refine ⟨⟨hn, hp, ?_⟩, fun _ => rfl, Nat.le_refl _, rfl, fun _ h => h, fun _ h => h⟩
      by_cases z : f = []
      · exact .inl z
      · exact .inr fun e => h ⟨z, e⟩
structure NfS (s t : Stm) : Prop where
  nf : NF t
  it : ∀ i, item t i = item s i
  l1 : t.1.length ≤ s.1.length
  l2 : t.2.length ≤ s.2.length
  m1 : ∀ v ∈ t.1, v ∈ s.1
  m2 : ∀ v ∈ t.2, v ∈ s.2
theorem nf_spec {s : Stm} (hn : s.2 ≠ []) : NfS s (nf s) := by
  obtain ⟨a1, a2, a3, a4, a5⟩ := sloop_spec hn
  obtain ⟨h1, h2, h3, h4, h5, h6⟩ := nfGo_spec s.1.length s.1 (sloop s.2) (Nat.le_refl _) a1 a2
  refine ⟨h1, fun i => (h2 i).trans ?_, h3, h4 ▸ a4, h5, fun v hv => a5 v (h6 v hv)⟩
  unfold item
  by_cases z : i < s.1.length
  · rw [if_pos z, if_pos z]
  · rw [if_neg z, if_neg z]
    exact a3 _
end Sm
namespace K13
open PySem L2 Ab
def topS (i : Nat) : Stmt := PySem.Challenge.pw_nestcount_k13_whole_branches_alike.main.body.getD i (.Pass ⟨0, 0, 0, 0⟩)
abbrev s_is_integer : Stmt := topS 11
abbrev n_is_integer : List Str := ["value", "low", "high"]
theorem q_is_integer : FnScope n_is_integer ["value", "low", "high"] (defScope s_is_integer) := ⟨rfl, rfl, rfl, by decide +kernel, rfl, by decide +kernel, by decide +kernel⟩
abbrev s_check_integer : Stmt := topS 13
abbrev n_check_integer : List Str := ["value", "low", "high"]
theorem q_check_integer : FnScope n_check_integer ["value", "low", "high"] (defScope s_check_integer) := ⟨rfl, rfl, rfl, by decide +kernel, rfl, by decide +kernel, by decide +kernel⟩
abbrev s_are_items : Stmt := topS 14
abbrev n_are_items : List Str := ["value", "least_size", "most_size", "item"]
theorem q_are_items : FnScope n_are_items ["value", "least_size", "most_size"] (defScope s_are_items) := ⟨rfl, rfl, rfl, by decide +kernel, rfl, by decide +kernel, by decide +kernel⟩
abbrev s_shortest_loop : Stmt := topS 15
abbrev n_shortest_loop : List Str := ["loop", "size"]
theorem q_shortest_loop : FnScope n_shortest_loop ["loop"] (defScope s_shortest_loop) := ⟨rfl, rfl, rfl, by decide +kernel, rfl, by decide +kernel, by decide +kernel⟩
abbrev s_normal_form : Stmt := topS 16
abbrev n_normal_form : List Str := ["front", "loop"]
theorem q_normal_form : FnScope n_normal_form ["front", "loop"] (defScope s_normal_form) := ⟨rfl, rfl, rfl, by decide +kernel, rfl, by decide +kernel, by decide +kernel⟩
abbrev s_stream_item : Stmt := topS 17
abbrev n_stream_item : List Str := ["stream", "index", "front", "loop"]
theorem q_stream_item : FnScope n_stream_item ["stream", "index"] (defScope s_stream_item) := ⟨rfl, rfl, rfl, by decide +kernel, rfl, by decide +kernel, by decide +kernel⟩
abbrev c_Schedule___init__ : Stmt := inClass (topS 19) 4
abbrev n_Schedule___init__ : List Str := ["self", "arity", "spine", "levels"]
theorem q_Schedule___init__ : FnScope n_Schedule___init__ ["self", "arity", "spine", "levels"] (defScope c_Schedule___init__) := ⟨rfl, rfl, rfl, by decide +kernel, rfl, by decide +kernel, by decide +kernel⟩
abbrev c_Schedule_is_stream : Stmt := inClass (topS 19) 5
abbrev n_Schedule_is_stream : List Str := ["value"]
theorem q_Schedule_is_stream : FnScope n_Schedule_is_stream ["value"] (defScope c_Schedule_is_stream) := ⟨rfl, rfl, rfl, by decide +kernel, rfl, by decide +kernel, by decide +kernel⟩
abbrev c_Schedule_arity : Stmt := inClass (topS 19) 8
abbrev n_Schedule_arity : List Str := ["self"]
theorem q_Schedule_arity : FnScope n_Schedule_arity ["self"] (defScope c_Schedule_arity) := ⟨rfl, rfl, rfl, by decide +kernel, rfl, by decide +kernel, by decide +kernel⟩
abbrev c_Schedule_spine : Stmt := inClass (topS 19) 9
abbrev n_Schedule_spine : List Str := ["self"]
theorem q_Schedule_spine : FnScope n_Schedule_spine ["self"] (defScope c_Schedule_spine) := ⟨rfl, rfl, rfl, by decide +kernel, rfl, by decide +kernel, by decide +kernel⟩
abbrev c_Schedule_levels : Stmt := inClass (topS 19) 10
abbrev n_Schedule_levels : List Str := ["self"]
theorem q_Schedule_levels : FnScope n_Schedule_levels ["self"] (defScope c_Schedule_levels) := ⟨rfl, rfl, rfl, by decide +kernel, rfl, by decide +kernel, by decide +kernel⟩
abbrev c_Schedule_spine_at : Stmt := inClass (topS 19) 12
abbrev n_Schedule_spine_at : List Str := ["self", "index"]
theorem q_Schedule_spine_at : FnScope n_Schedule_spine_at ["self", "index"] (defScope c_Schedule_spine_at) := ⟨rfl, rfl, rfl, by decide +kernel, rfl, by decide +kernel, by decide +kernel⟩
abbrev c_Schedule_level_at : Stmt := inClass (topS 19) 13
abbrev n_Schedule_level_at : List Str := ["self", "height"]
theorem q_Schedule_level_at : FnScope n_Schedule_level_at ["self", "height"] (defScope c_Schedule_level_at) := ⟨rfl, rfl, rfl, by decide +kernel, rfl, by decide +kernel, by decide +kernel⟩
abbrev c_Schedule___eq__ : Stmt := inClass (topS 19) 22
abbrev n_Schedule___eq__ : List Str := ["self", "other"]
theorem q_Schedule___eq__ : FnScope n_Schedule___eq__ ["self", "other"] (defScope c_Schedule___eq__) := ⟨rfl, rfl, rfl, by decide +kernel, rfl, by decide +kernel, by decide +kernel⟩
abbrev s_is_integer_nodes : Stmt := topS 21
abbrev n_is_integer_nodes : List Str := ["value", "least"]
theorem q_is_integer_nodes : FnScope n_is_integer_nodes ["value", "least"] (defScope s_is_integer_nodes) := ⟨rfl, rfl, rfl, by decide +kernel, rfl, by decide +kernel, by decide +kernel⟩
abbrev s_need_schedule : Stmt := topS 23
abbrev n_need_schedule : List Str := ["value"]
theorem q_need_schedule : FnScope n_need_schedule ["value"] (defScope s_need_schedule) := ⟨rfl, rfl, rfl, by decide +kernel, rfl, by decide +kernel, by decide +kernel⟩
abbrev s_sizes_up_to : Stmt := topS 24
abbrev n_sizes_up_to : List Str := ["schedule", "height", "found", "at"]
theorem q_sizes_up_to : FnScope n_sizes_up_to ["schedule", "height"] (defScope s_sizes_up_to) := ⟨rfl, rfl, rfl, by decide +kernel, rfl, by decide +kernel, by decide +kernel⟩
abbrev s_end_of_stage : Stmt := topS 25
abbrev n_end_of_stage : List Str := ["schedule", "sizes", "stage", "found", "at"]
theorem q_end_of_stage : FnScope n_end_of_stage ["schedule", "sizes", "stage"] (defScope s_end_of_stage) := ⟨rfl, rfl, rfl, by decide +kernel, rfl, by decide +kernel, by decide +kernel⟩
abbrev s_digits_of : Stmt := topS 26
abbrev n_digits_of : List Str := ["arity", "number", "found", "digit"]
theorem q_digits_of : FnScope n_digits_of ["arity", "number"] (defScope s_digits_of) := ⟨rfl, rfl, rfl, by decide +kernel, rfl, by decide +kernel, by decide +kernel⟩
abbrev s_labels_before : Stmt := topS 27
abbrev n_labels_before : List Str := ["schedule", "height", "index", "below", "digits", "at", "sizes", "found", "digit"]
theorem q_labels_before : FnScope n_labels_before ["schedule", "height", "index"] (defScope s_labels_before) := ⟨rfl, rfl, rfl, by decide +kernel, rfl, by decide +kernel, by decide +kernel⟩
abbrev s_path_inside : Stmt := topS 28
abbrev n_path_inside : List Str := ["schedule", "sizes", "stage", "before", "at", "steps", "rest"]
theorem q_path_inside : FnScope n_path_inside ["schedule", "sizes", "stage", "before"] (defScope s_path_inside) := ⟨rfl, rfl, rfl, by decide +kernel, rfl, by decide +kernel, by decide +kernel⟩
abbrev s_path_of : Stmt := topS 29
abbrev n_path_of : List Str := ["schedule", "label", "end", "sizes", "stage", "begin"]
theorem q_path_of : FnScope n_path_of ["schedule", "label"] (defScope s_path_of) := ⟨rfl, rfl, rfl, by decide +kernel, rfl, by decide +kernel, by decide +kernel⟩
abbrev c_Node___init__ : Stmt := inClass (topS 30) 1
abbrev n_Node___init__ : List Str := ["self", "schedule", "height", "index"]
theorem q_Node___init__ : FnScope n_Node___init__ ["self", "schedule", "height", "index"] (defScope c_Node___init__) := ⟨rfl, rfl, rfl, by decide +kernel, rfl, by decide +kernel, by decide +kernel⟩
abbrev c_Node___eq__ : Stmt := inClass (topS 30) 2
abbrev n_Node___eq__ : List Str := ["self", "other"]
theorem q_Node___eq__ : FnScope n_Node___eq__ ["self", "other"] (defScope c_Node___eq__) := ⟨rfl, rfl, rfl, by decide +kernel, rfl, by decide +kernel, by decide +kernel⟩
abbrev c_Node_schedule : Stmt := inClass (topS 30) 3
abbrev n_Node_schedule : List Str := ["self"]
theorem q_Node_schedule : FnScope n_Node_schedule ["self"] (defScope c_Node_schedule) := ⟨rfl, rfl, rfl, by decide +kernel, rfl, by decide +kernel, by decide +kernel⟩
abbrev c_Node_height : Stmt := inClass (topS 30) 4
abbrev n_Node_height : List Str := ["self"]
theorem q_Node_height : FnScope n_Node_height ["self"] (defScope c_Node_height) := ⟨rfl, rfl, rfl, by decide +kernel, rfl, by decide +kernel, by decide +kernel⟩
abbrev c_Node_first_label : Stmt := inClass (topS 30) 6
abbrev n_Node_first_label : List Str := ["self"]
theorem q_Node_first_label : FnScope n_Node_first_label ["self"] (defScope c_Node_first_label) := ⟨rfl, rfl, rfl, by decide +kernel, rfl, by decide +kernel, by decide +kernel⟩
abbrev c_Node_end_label : Stmt := inClass (topS 30) 8
abbrev n_Node_end_label : List Str := ["self", "sizes"]
theorem q_Node_end_label : FnScope n_Node_end_label ["self"] (defScope c_Node_end_label) := ⟨rfl, rfl, rfl, by decide +kernel, rfl, by decide +kernel, by decide +kernel⟩
abbrev c_Node_at : Stmt := inClass (topS 30) 9
abbrev n_Node_at : List Str := ["cls", "schedule", "label", "stage", "steps", "rest"]
theorem q_Node_at : FnScope n_Node_at ["cls", "schedule", "label"] (defScope c_Node_at) := ⟨rfl, rfl, rfl, by decide +kernel, rfl, by decide +kernel, by decide +kernel⟩
abbrev c_Node_led : Stmt := inClass (topS 30) 10
abbrev n_Node_led : List Str := ["schedule", "stage", "steps", "index", "step"]
theorem q_Node_led : FnScope n_Node_led ["schedule", "stage", "steps"] (defScope c_Node_led) := ⟨rfl, rfl, rfl, by decide +kernel, rfl, by decide +kernel, by decide +kernel⟩
abbrev c_Node_named : Stmt := inClass (topS 30) 11
abbrev n_Node_named : List Str := ["schedule", "height", "index"]
theorem q_Node_named : FnScope n_Node_named ["schedule", "height", "index"] (defScope c_Node_named) := ⟨rfl, rfl, rfl, by decide +kernel, rfl, by decide +kernel, by decide +kernel⟩
abbrev c_Node_child : Stmt := inClass (topS 30) 13
abbrev n_Node_child : List Str := ["self", "number"]
theorem q_Node_child : FnScope n_Node_child ["self", "number"] (defScope c_Node_child) := ⟨rfl, rfl, rfl, by decide +kernel, rfl, by decide +kernel, by decide +kernel⟩
abbrev c_Node_children : Stmt := inClass (topS 30) 14
abbrev n_Node_children : List Str := ["self", "many", "number"]
theorem q_Node_children : FnScope n_Node_children ["self"] (defScope c_Node_children) := ⟨rfl, rfl, rfl, by decide +kernel, rfl, by decide +kernel, by decide +kernel⟩
abbrev c_SpineNode___init__ : Stmt := inClass (topS 31) 0
abbrev n_SpineNode___init__ : List Str := ["self", "schedule", "height", "__class__"]
theorem q_SpineNode___init__ : NdefX.NScope n_SpineNode___init__ ["self", "schedule", "height"] ["__class__"] (defScope c_SpineNode___init__) := NdefX.nscope_by (by decide +kernel)
abbrev c_SpineNode___repr__ : Stmt := inClass (topS 31) 1
abbrev n_SpineNode___repr__ : List Str := ["self"]
theorem q_SpineNode___repr__ : FnScope n_SpineNode___repr__ ["self"] (defScope c_SpineNode___repr__) := ⟨rfl, rfl, rfl, by decide +kernel, rfl, by decide +kernel, by decide +kernel⟩
abbrev c_BranchNode___init__ : Stmt := inClass (topS 32) 0
abbrev n_BranchNode___init__ : List Str := ["self", "schedule", "height", "index", "__class__"]
theorem q_BranchNode___init__ : NdefX.NScope n_BranchNode___init__ ["self", "schedule", "height", "index"] ["__class__"] (defScope c_BranchNode___init__) := NdefX.nscope_by (by decide +kernel)
abbrev c_BranchNode___repr__ : Stmt := inClass (topS 32) 1
abbrev n_BranchNode___repr__ : List Str := ["self"]
theorem q_BranchNode___repr__ : FnScope n_BranchNode___repr__ ["self"] (defScope c_BranchNode___repr__) := ⟨rfl, rfl, rfl, by decide +kernel, rfl, by decide +kernel, by decide +kernel⟩
abbrev s_need_height : Stmt := topS 34
abbrev n_need_height : List Str := ["height"]
theorem q_need_height : FnScope n_need_height ["height"] (defScope s_need_height) := ⟨rfl, rfl, rfl, by decide +kernel, rfl, by decide +kernel, by decide +kernel⟩
abbrev s_branch_size : Stmt := topS 35
abbrev n_branch_size : List Str := ["schedule", "height"]
theorem q_branch_size : FnScope n_branch_size ["schedule", "height"] (defScope s_branch_size) := ⟨rfl, rfl, rfl, by decide +kernel, rfl, by decide +kernel, by decide +kernel⟩
abbrev s_label_path : Stmt := topS 36
abbrev n_label_path : List Str := ["schedule", "label"]
theorem q_label_path : FnScope n_label_path ["schedule", "label"] (defScope s_label_path) := ⟨rfl, rfl, rfl, by decide +kernel, rfl, by decide +kernel, by decide +kernel⟩
abbrev s__law_streams : Stmt := topS 38
abbrev n__law_streams : List Str := ["_law_script", "_law_cells", "_law_found", "_law_k", "_law_cell"]
theorem q__law_streams : FnScope n__law_streams ["_law_script"] (defScope s__law_streams) := ⟨rfl, rfl, rfl, by decide +kernel, rfl, by decide +kernel, by decide +kernel⟩
abbrev s__law_next : Stmt := topS 39
abbrev n__law_next : List Str := ["_law_stream", "_law_many", "_law_found", "_law_at", "_law_cells"]
theorem q__law_next : FnScope n__law_next ["_law_stream", "_law_many"] (defScope s__law_next) := ⟨rfl, rfl, rfl, by decide +kernel, rfl, by decide +kernel, by decide +kernel⟩
abbrev s__law_row : Stmt := topS 40
abbrev n__law_row : List Str := ["_law_stream", "_law_low", "_law_width", "_law_front", "_law_k", "_law_loop"]
theorem q__law_row : FnScope n__law_row ["_law_stream", "_law_low"] (defScope s__law_row) := ⟨rfl, rfl, rfl, by decide +kernel, rfl, by decide +kernel, by decide +kernel⟩
abbrev s__law_item : Stmt := topS 41
abbrev n__law_item : List Str := ["_law_row_here", "_law_k", "_law_front", "_law_loop"]
theorem q__law_item : FnScope n__law_item ["_law_row_here", "_law_k"] (defScope s__law_item) := ⟨rfl, rfl, rfl, by decide +kernel, rfl, by decide +kernel, by decide +kernel⟩
abbrev s__law_plan : Stmt := topS 42
abbrev n__law_plan : List Str := ["_law_stream", "_law_most", "_law_k", "_law_trunk", "_law_crown"]
theorem q__law_plan : FnScope n__law_plan ["_law_stream", "_law_most"] (defScope s__law_plan) := ⟨rfl, rfl, rfl, by decide +kernel, rfl, by decide +kernel, by decide +kernel⟩
abbrev s__law_branch : Stmt := topS 43
abbrev n__law_branch : List Str := ["_law_k", "_law_crown", "_law_high", "_law_m", "_law_found", "_law_c"]
theorem q__law_branch : FnScope n__law_branch ["_law_k", "_law_crown", "_law_high", "_law_m"] (defScope s__law_branch) := ⟨rfl, rfl, rfl, by decide +kernel, rfl, by decide +kernel, by decide +kernel⟩
abbrev s__law_great : Stmt := topS 44
abbrev n__law_great : List Str := ["_law_stream", "_law_most", "_law_found", "_law_turn"]
theorem q__law_great : FnScope n__law_great ["_law_stream", "_law_most"] (defScope s__law_great) := ⟨rfl, rfl, rfl, by decide +kernel, rfl, by decide +kernel, by decide +kernel⟩
abbrev s__law_is_node : Stmt := topS 45
abbrev n__law_is_node : List Str := ["_law_node", "_law_high", "_law_m", "_law_is_spine", "_law_is_branch", "_law_due"]
theorem q__law_is_node : FnScope n__law_is_node ["_law_node", "_law_high", "_law_m"] (defScope s__law_is_node) := ⟨rfl, rfl, rfl, by decide +kernel, rfl, by decide +kernel, by decide +kernel⟩
abbrev s__law_up : Stmt := topS 46
abbrev n__law_up : List Str := ["_law_k", "_law_m", "_law_turns", "_law_turn"]
theorem q__law_up : FnScope n__law_up ["_law_k", "_law_m", "_law_turns"] (defScope s__law_up) := ⟨rfl, rfl, rfl, by decide +kernel, rfl, by decide +kernel, by decide +kernel⟩
abbrev s__law_inside : Stmt := topS 47
abbrev n__law_inside : List Str := ["_law_k", "_law_crown", "_law_high", "_law_found", "_law_own", "_law_m", "_law_many", "_law_rest"]
theorem q__law_inside : FnScope n__law_inside ["_law_k", "_law_crown", "_law_high"] (defScope s__law_inside) := ⟨rfl, rfl, rfl, by decide +kernel, rfl, by decide +kernel, by decide +kernel⟩
abbrev s__law_is_outside : Stmt := topS 48
abbrev n__law_is_outside : List Str := ["_law_plan_here", "_law_k", "_law_far", "_law_high", "_law_m", "_law_node"]
theorem q__law_is_outside : FnScope n__law_is_outside ["_law_plan_here", "_law_k", "_law_far", "_law_high", "_law_m"] (defScope s__law_is_outside) := ⟨rfl, rfl, rfl, by decide +kernel, rfl, by decide +kernel, by decide +kernel⟩
abbrev s__law_right : Stmt := topS 49
abbrev n__law_right : List Str := ["_law_plan_here", "_law_k", "_law_inside_here", "_law_high", "_law_m", "_law_root", "_law_begin", "_law_step", "_law_at", "_law_own", "_law_spot", "_law_rest", "_law_beside", "_law_turn"]
theorem q__law_right : FnScope n__law_right ["_law_plan_here", "_law_k", "_law_inside_here", "_law_high", "_law_m"] (defScope s__law_right) := ⟨rfl, rfl, rfl, by decide +kernel, rfl, by decide +kernel, by decide +kernel⟩
abbrev s__law_paths_right : Stmt := topS 50
abbrev n__law_paths_right : List Str := ["_law_plan_here", "_law_size", "_law_high", "_law_one_root", "_law_other_root", "_law_first", "_law_second", "_law_at", "_law_near", "_law_far", "_law_inner"]
theorem q__law_paths_right : FnScope n__law_paths_right ["_law_plan_here", "_law_size", "_law_high", "_law_one_root", "_law_other_root"] (defScope s__law_paths_right) := ⟨rfl, rfl, rfl, by decide +kernel, rfl, by decide +kernel, by decide +kernel⟩
abbrev s_law : Stmt := topS 51
abbrev n_law : List Str := ["_law_script", "_law_stream", "_law_k", "_law_trunk", "_law_crown", "_law_plan_here", "_law_high", "_law_inside_here", "_law_near", "_law_far"]
theorem q_law : FnScope n_law ["_law_script"] (defScope s_law) := ⟨rfl, rfl, rfl, by decide +kernel, rfl, by decide +kernel, by decide +kernel⟩
end K13
namespace Ab
open PySem L2
/-! ### short words -/
section
variable {X : Cx} {Γ : Gam} {M : Mem} {pos : Pos} {x : Str} {d : Val} {i : Int} {j}
theorem v_ (n : Nat) (hd : Γ[n]? = some (some d) := by rfl) (hN : X.N[n]? = some x := by rfl) (hv : Vis X.env.scope x := by first | exact Or.inl rfl | exact Or.inr (Or.inl rfl) | exact Or.inr (Or.inr rfl))
    (hdb : (x == ("__debug__" : Str)) = false := by decide) (hcd : (x == ("__classdict__" : Str)) = false := by decide) : aV X (.Name x pos) Γ M d := ae_var n hd ⟨rfl, rfl⟩ hN hv hdb hcd
theorem i_ : aV X (.Constant (.int i) j pos) Γ M (.int i) := ae_int ⟨rfl, rfl⟩
theorem s_ : aV X (.Constant (.str x) j pos) Γ M (.str x) := ae_str ⟨rfl, rfl⟩
theorem n_ : aV X (.Constant .none j pos) Γ M .non := ae_non ⟨rfl, rfl⟩
theorem nft {p : Prop} : false = true → p := fun h => nomatch h
theorem ntf {p : Prop} : true = false → p := fun h => nomatch h
theorem sz {n : Nat} (h : n ≤ 100000) : n ≤ sizeLine := Nat.le_trans h (by decide)
theorem szl {n : Nat} (h : n < 100000) : n < sizeLine := Nat.lt_of_lt_of_le h (by decide)
theorem szb {n : Nat} (h : Nat.ble n 100000 = true := by rfl) : n ≤ sizeLine := sz (Nat.le_of_ble_eq_true h)
end
def optV : Option Int → Val
  | none => .non
  | some l => .int l
def within (n : Int) (lo hi : Option Int) : Bool := (match lo with | none => true | some l => decide (l ≤ n)) && (match hi with | none => true | some h => decide (n ≤ h))
def iT (xs : List Int) : Val := .tup (xs.map .int)
def iL (xs : List Int) : Val := .lst (xs.map .int)
def at0 (g : List Int) (i : Int) : Int := g.getD i.toNat 0
theorem atI_int {g : List Int} {i : Int} (h0 : 0 ≤ i) (h1 : i < g.length) : atI (g.map Val.int) i = some (.int (at0 g i)) := by
  obtain ⟨n, rfl⟩ := Int.eq_ofNat_of_zero_le h0
  refine atI_nat ?_
  have hn : n < g.length := by omega
  rw [List.getElem?_map, List.getElem?_eq_getElem hn]
  show some (Val.int g[n]) = some (Val.int (at0 g n))
  unfold at0
  rw [Int.toNat_natCast, List.getD_eq_getElem?_getD, List.getElem?_eq_getElem hn]
  rfl
/-- the last one -/
theorem atI_last {g : List Int} (h : g ≠ []) : atI (g.map Val.int) (-1) = some (.int (g.getD (g.length - 1) 0)) := by
  have hl : 0 < g.length := List.length_pos_iff.mpr h
  unfold atI ixN
  rw [List.length_map, if_neg (by decide), if_pos (by omega), Option.bind_some, show ((-1 : Int) + (g.length : Int)).toNat = g.length - 1 by omega, List.getElem?_map, List.getElem?_eq_getElem (by omega), List.getD_eq_getElem?_getD, List.getElem?_eq_getElem (by omega)]
  rfl
theorem getD_int {g : List Int} {i : Nat} (h : i < g.length) : (g.map Val.int).getD i .non = .int g[i] := by
  rw [List.getD_eq_getElem?_getD, List.getElem?_map, List.getElem?_eq_getElem h]
  rfl
theorem cut_neg {g : List Int} (h : g ≠ []) : cutI g none (some (-1)) = g.dropLast := by
  have hl : 0 < g.length := List.length_pos_iff.mpr h
  unfold cutI
  have e : HT.sIx g.length g.length (some (-1)) = g.length - 1 := by
    show (if (-1 : Int) < 0 then ((-1 : Int) + (g.length : Int)).toNat else min (-1 : Int).toNat g.length) = _
    rw [if_pos (by decide)]
    omega
  rw [e, HT.sIx_none, List.drop_zero, Nat.sub_zero, List.dropLast_eq_take]
theorem cut_end {g : List Int} (h : g ≠ []) : cutI g (some (-1)) none = [g.getD (g.length - 1) 0] := by
  have hl : 0 < g.length := List.length_pos_iff.mpr h
  unfold cutI
  have e : HT.sIx g.length 0 (some (-1)) = g.length - 1 := by
    show (if (-1 : Int) < 0 then ((-1 : Int) + (g.length : Int)).toNat else min (-1 : Int).toNat g.length) = _
    rw [if_pos (by decide)]
    omega
  rw [e, HT.sIx_none, List.drop_eq_getElem_cons (by omega), show g.length - 1 + 1 = g.length by omega, List.drop_length, show g.length - (g.length - 1) = 1 by omega, List.getD_eq_getElem?_getD, List.getElem?_eq_getElem (by omega)]
  rfl
theorem map_cyc {g : List Int} (m : Nat) : (List.replicate m (g.map Val.int)).flatten = ((List.replicate m g).flatten).map Val.int := by
  induction m with
  | zero => rfl
  | succ m ih => rw [List.replicate_succ, List.replicate_succ, List.flatten_cons, List.flatten_cons, List.map_append, ih]
abbrev FX (P : Program) (w : World) (K : PySem.W.Frag) (mg : Str → Option Value) (base : Heap) (k : Nat) (f : Addr) (s : ASx) : Prop := FnX P w K mg base k f [] (spX K s)
/-- a def that stands under a global name -/
structure Gd (P : Program) (w : World) (K : PySem.W.Frag) (mg : Str → Option Value) (base : Heap) (k : Nat) (x : Str) (ks : List Str) (s : ASx) : Prop where
  ex : ∃ f, FnX P w K mg base k f ks (spX K s) ∧ mg x = some (.ref f) ∧ PySem.W.keepIn K (.ref f) = true
section
variable {X : Cx} {Γ : Gam} {M : Mem} {P : Val → Mem → Prop} {e : Expr} {es : List Expr} {kws : List Keyword} {pos p1 : Pos} {x : Str} {n m : Nat} {ks : List Str} {sx : ASx}
theorem ae_g (G : Gd X.prog X.w X.K X.mg X.base n x ks sx) (hr : Rm m X.A) (hnm : n ≤ m) (h : aA X (e :: es) Γ M fun ds M1 => aKw X kws Γ M1 fun zs M2 => zs.length = ks.length ∧ sx ds zs M2 P)
    (hg : Gl X x := by rfl) (hall : (backToKw pos (keywordEach kws X.env)).all (·.1.isSome) = true := by rfl) (hks : (backToKw pos (keywordEach kws X.env)).filterMap (·.1) = ks := by rfl) (hdb : (x == ("__debug__" : Str)) = false := by decide)
    (he : starEach (e :: es) X.env = (false, eval e X.env) :: starEach es X.env := by rfl) (hpl : ((backTo pos (starEach (e :: es) X.env)).any (·.1) || (backToKw pos (keywordEach kws X.env)).any (·.1.isNone)) = false := by rfl) : aE X (.Call (.Name x p1) (e :: es) kws pos) Γ M P := by
  obtain ⟨f, F, hm, hk⟩ := G.ex
  exact ae_call F (hr.mono hnm) hm hk h hg hall hks hdb he hpl
end
end Ab
namespace K13
open PySem L2 Ab Sm
section
variable {P : Program} {w : World} {K : PySem.W.Frag} {mg : Str → Option Value} {base : Heap} {k : Nat} {f C : Addr}
/-! ### is_integer, check_integer, are_items -/
def aInt : ASp := fun ds M R => ∃ n lo hi, ds = [.int n, optV lo, optV hi] ∧ R (.bl (within n lo hi)) M
theorem b_is_integer (m1 : mg "isinstance" = none) (m2 : mg "int" = none) (m3 : mg "bool" = none) : BodyOk P w K mg base k f n_is_integer "is_integer" (defScope s_is_integer) (defBody s_is_integer) aInt := by
  rintro cdv A outer s H E hr ds M R ⟨n, lo, hi, rfl, hp⟩
  refine as_cons (as_if (at_w (aw_or (at_not (at_val (ae_isi m1 (v_ 0) (av_ty (T := "int") m2 (by decide +kernel)) (.ty "int") (.int _) (kit_ty (by decide +kernel)) ⟨true, rfl, nft, fun _ => ?_⟩))))))
  refine aw_or1 (at_val (ae_isi m1 (v_ 0) (av_ty (T := "bool") m3 (by decide +kernel)) (.ty "bool") (.int _) (kit_ty (by decide +kernel)) ⟨false, rfl, nft, fun _ => ?_⟩))
  refine as_nil (as_one (as_ret ?_))
  cases lo with
  | none =>
    refine ae_and (ae_or (ae_cmp (v_ 1) n_ cmp_isN ⟨true, rfl, fun _ => ⟨true, rfl, fun _ => ?_, ntf⟩, ntf⟩))
    cases hi with
    | none => exact ae_one (ae_or (ae_cmp (v_ 2) n_ cmp_isN ⟨true, rfl, fun _ => .ok hp, ntf⟩))
    | some h => exact ae_one (ae_or (ae_cmp (v_ 2) n_ cmp_isN ⟨false, rfl, nft, fun _ => ae_one (ae_cmp (v_ 0) (v_ 2) cmp_le (.ok (by simpa [within] using hp)))⟩))
  | some l =>
    refine ae_and (ae_or (ae_cmp (v_ 1) n_ cmp_isN ⟨false, rfl, nft, fun _ => ae_one (ae_cmp (v_ 1) (v_ 0) cmp_le ⟨_, rfl, fun e => ?_, fun e => .ok (by simpa [within, e] using hp)⟩)⟩))
    cases hi with
    | none => exact ae_one (ae_or (ae_cmp (v_ 2) n_ cmp_isN ⟨true, rfl, fun _ => .ok (by simpa [within, e] using hp), ntf⟩))
    | some h => exact ae_one (ae_or (ae_cmp (v_ 2) n_ cmp_isN ⟨false, rfl, nft, fun _ => ae_one (ae_cmp (v_ 0) (v_ 2) cmp_le (.ok (by simpa [within, e] using hp)))⟩))
/-- is_integer(x, low=.., high=..) -/
abbrev GInt (P : Program) (w : World) (K : PySem.W.Frag) (mg : Str → Option Value) (base : Heap) : Prop := Gd P w K mg base 1 "is_integer_schedules" ["low", "high"] fun ds es M R => ds.length = 1 ∧ aInt (ds ++ es) M R
def aChk : ASp := fun ds M R => ∃ n lo, ds = [.int n, .int lo, .non] ∧ lo ≤ n ∧ R .non M
theorem b_check_integer (G : GInt P w K mg base) : BodyOk P w K mg base 1 f n_check_integer "check_integer" (defScope s_check_integer) (defBody s_check_integer) aChk := by
  rintro cdv A outer s H E hr ds M R ⟨n, lo, rfl, hle, hp⟩
  refine as_one (as_if (at_not (at_val (ae_g G hr (by decide) (aa_cons ((v_ 0).val (aa_nil (ak_cons ((v_ 1).val (ak_cons ((v_ 2).val (ak_nil ⟨rfl, rfl, n, some lo, none, rfl, true, ?_, nft, fun _ => as_nil (.ok hp)⟩))))))))))))
  have e : within n (some lo) none = true := by simp [within]; exact hle
  rw [e]
abbrev GChk (P : Program) (w : World) (K : PySem.W.Frag) (mg : Str → Option Value) (base : Heap) : Prop := Gd P w K mg base 2 "check_integer" [] fun ds _ M R => ds.length = 2 ∧ aChk (ds ++ [.non]) M R
def okI (v : Int) : Prop := 0 ≤ v ∧ v ≤ 1000000
theorem rep_true {M : Mem} {n : Nat} : Vw M (.lst ((List.range n).map fun _ => Val.bl true)) (.lst ((List.replicate n true).map .bl)) := by
  have e : (List.range n).map (fun _ => Val.bl true) = (List.replicate n true).map .bl := by simp [List.map_const']
  rw [e]
  exact .self _
def aItems : ASp := fun ds M R => ∃ xs a b, ds = [iT xs, .int a, .int b] ∧ a ≤ (xs.length : Int) ∧ (xs.length : Int) ≤ b ∧ b ≤ 1000 ∧ (∀ v ∈ xs, okI v) ∧ R (.bl true) M
theorem b_are_items {t : Tok} (G : GInt P w K mg base) (gl : mg "LABEL_LIMIT" = some (.int 1000000 t)) (m1 : mg "isinstance" = none) (m2 : mg "tuple" = none) (m3 : mg "len" = none) (m4 : mg "all" = none) : BodyOk P w K mg base 1 f n_are_items "are_items" (defScope s_are_items) (defBody s_are_items) aItems := by
  rintro cdv A outer s H E hr ds M R ⟨xs, a, b, rfl, h1, h2, h3, hx, hp⟩
  refine as_cons (as_if (at_w (aw_or (at_not (at_val (ae_isi m1 (v_ 0) (av_ty (T := "tuple") m2 (by decide +kernel)) (.ty "tuple") (.tup _) (kit_ty (by decide +kernel)) ⟨true, rfl, nft, fun _ => ?_⟩))))))
  refine aw_or1 (at_not (at_chain (v_ 1) (av_len m3 (v_ 0) .t) (v_ 2) cmp_le cmp_le ⟨fun h => ?_, fun _ => as_nil ?_⟩))
  · simp at h
    omega
  refine as_one (as_ret (ae_all m4 rfl (ae_lcP [("item", 3)] (fun _ => .bl true) rfl q_are_items.nd (blkOk_by (N := n_are_items) (sc := defScope s_are_items) (by decide +kernel)) (ai_tup ((v_ 0).val ⟨rfl, rfl⟩)) ?_ (by simp; omega) ⟨List.replicate _ true, rep_true, .ok ?_⟩)))
  · intro i acc D hi s H C' cl fp
    have hi' : i < xs.length := by simpa using hi
    rw [getD_int hi']
    refine agw_name 3 q_are_items.nd fun s H C' cl fp => ?_
    refine ae_g G hr (by decide) (aa_cons ((v_ 3).val (aa_nil (ak_cons (i_.val (ak_cons ((av_gint gl).val (ak_nil ⟨rfl, rfl, xs[i], some 0, some 1000000, rfl, ?_, rfl⟩))))))))
    have := hx _ (List.getElem_mem hi')
    have e : within xs[i] (some 0) (some 1000000) = true := by simp [within]; exact this
    rw [e]
  · rw [show (List.replicate (List.map Val.int xs).length true).all id = true by simp]
    exact hp
abbrev GItems (P : Program) (w : World) (K : PySem.W.Frag) (mg : Str → Option Value) (base : Heap) : Prop := Gd P w K mg base 2 "are_items" [] fun ds _ => aItems ds
/-! ### shortest_loop, normal_form, stream_item -/
def aSl : ASp := fun ds M R => ∃ l, ds = [iT l] ∧ l ≠ [] ∧ l.length ≤ 1000 ∧ R (iT (sloop l)) M
theorem b_shortest_loop (m1 : mg "range" = none) (m3 : mg "len" = none) : BodyOk P w K mg base k f n_shortest_loop "shortest_loop" (defScope s_shortest_loop) (defBody s_shortest_loop) aSl := by
  rintro cdv A outer s H E hr ds M R ⟨l, rfl, hn, hl, hp⟩
  have hu := hr.u64
  have hpos : 0 < l.length := List.length_pos_iff.mpr hn
  have len1 : ∀ {X : Cx} {Γ : Gam} {M : Mem} {e : Expr}, aV X e Γ M (.int ((l.map Val.int).length : Nat)) → aV X e Γ M (.int (l.length : Nat)) := fun h => by rw [List.length_map] at h; exact h
  refine as_cons (as_for (n := l.length - 1) (fun i Γ M' => M' = M ∧ ∃ v1, Γ = [some (iT l), v1] ∧ sloop l = slFrom l (l.length - 1 - i) (i + 1)) PassesOwn.never rfl
    (ai_range2 (lo := 1) m1 (aa_cons (i_.val (aa_cons ((len1 (av_len m3 (v_ 0) .t)).val (aa_nil ⟨_, rfl, by omega, by omega, rfl, none, rfl, rfl⟩)))))) (fun _ _ _ _ _ => trivial) ?_ ?_)
  · rintro i Γ M' hi ⟨rfl, v1, rfl, hs⟩
    refine ag_name 1 q_shortest_loop.nd ?_
    rw [show l.length - 1 - i = (l.length - 1 - (i + 1)) + 1 by omega] at hs
    have hst : slFrom l (l.length - 1 - (i + 1) + 1) (i + 1) = if isRep l (i + 1) = true then l.take (i + 1) else slFrom l (l.length - 1 - (i + 1)) (i + 1 + 1) := rfl
    rw [hst] at hs
    have e1 : (1 : Int) + (i : Int) = ((i + 1 : Nat) : Int) := by omega
    rw [e1]
    have sl : ∀ {X : Cx} {Γ : Gam} {M : Mem} {e : Expr}, aV X e Γ M (.tup (cutA (l.map Val.int) none (some ((i + 1 : Nat) : Int)))) → aV X e Γ M (iT (l.take (i + 1))) := fun h => by
      rw [cut_map, cut_hi (by omega) (by omega), Int.toNat_natCast] at h
      exact h
    have dv : ((l.length : Int) / ((i + 1 : Nat) : Int)) = ((l.length / (i + 1) : Nat) : Int) := by omega
    by_cases hm : l.length % (i + 1) = 0
    · have hge : 2 ≤ l.length / (i + 1) := by
        have h1 := Nat.div_add_mod l.length (i + 1)
        rw [hm, Nat.add_zero] at h1
        rcases Nat.lt_or_ge (l.length / (i + 1)) 2 with z | z
        · have : l.length / (i + 1) ≤ 1 := by omega
          have := Nat.mul_le_mul_left (i + 1) this
          omega
        · exact z
      have hle : l.length / (i + 1) ≤ l.length := Nat.div_le_self _ _
      have tl := take_len (l := l) (p := i + 1) (by omega)
      have tne : (l.take (i + 1)).map Val.int ≠ [] := fun z => by
        have := congrArg List.length z
        rw [List.length_map, tl] at this
        simp at this
      have cy : ∀ {X : Cx} {Γ : Gam} {M : Mem} {e : Expr}, aV X e Γ M (.tup (List.replicate ((l.length : Int) / ((i + 1 : Nat) : Int)).toNat ((l.take (i + 1)).map Val.int)).flatten) → aV X e Γ M (iT (cyc (l.take (i + 1)) (l.length / (i + 1)))) := fun h => by
        rw [dv, Int.toNat_natCast, map_cyc] at h
        exact h
      refine as_one (as_if (at_w (aw_and (at_cmp (av_mod (len1 (av_len m3 (v_ 0) .t)) (v_ 1) (by omega)) i_ cmp_eqI ⟨fun _ => ?_, fun h => ?_⟩))))
      · refine aw_and1 (at_cmp (v_ 0) (cy (av_repT (sl (av_sliceT (v_ 0) ao_none (ao_some (v_ 1)))) (av_fdiv (len1 (av_len m3 (v_ 0) .t)) (v_ 1) ⟨by omega, by omega⟩) tne (by rw [dv]; omega) (by rw [dv]; omega) (by rw [List.length_map, tl]; omega))) (cmp_eqTI hu) ⟨fun h => ?_, fun h => ?_⟩)
        · have hrp : isRep l (i + 1) = true := by
            unfold isRep
            rw [decide_eq_true hm, h]
            rfl
          rw [if_pos hrp] at hs
          refine as_one (as_ret ((sl (av_sliceT (v_ 0) ao_none (ao_some (v_ 1)))).val (.ok ?_)))
          rw [← hs]
          exact hp
        · have hrp : ¬ isRep l (i + 1) = true := by
            unfold isRep
            rw [h, Bool.and_false]
            exact Bool.false_ne_true
          rw [if_neg hrp] at hs
          exact as_nil ⟨rfl, _, rfl, hs⟩
      · exfalso
        rw [decide_eq_false_iff_not] at h
        apply h
        omega
    · have hrp : ¬ isRep l (i + 1) = true := by
        unfold isRep
        rw [decide_eq_false hm, Bool.false_and]
        exact Bool.false_ne_true
      rw [if_neg hrp] at hs
      refine as_one (as_if (at_w (aw_and (at_cmp (av_mod (len1 (av_len m3 (v_ 0) .t)) (v_ 1) (by omega)) i_ cmp_eqI ⟨fun h => ?_, fun _ => ⟨nft, fun _ => as_nil ⟨rfl, _, rfl, hs⟩⟩⟩))))
      exfalso
      rw [decide_eq_true_eq] at h
      omega
  · rintro Γ M' ⟨rfl, v1, rfl, hs⟩
    refine as_one (as_ret ((v_ 0).val (.ok ?_)))
    rw [Nat.sub_self] at hs
    have e : sloop l = l := hs
    rw [e] at hp
    exact hp
abbrev GSl (P : Program) (w : World) (K : PySem.W.Frag) (mg : Str → Option Value) (base : Heap) : Prop := Gd P w K mg base 1 "shortest_loop" [] fun ds _ => aSl ds
end
end K13
namespace K13
open PySem L2 Ab Sm
section
variable {P : Program} {w : World} {K : PySem.W.Frag} {mg : Str → Option Value} {base : Heap} {k : Nat} {f C : Addr}
/-- a stream -/
def stV (s : Stm) : Val := .tup [iT s.1, iT s.2]
def aNf : ASp := fun ds M R => ∃ s : Stm, ds = [iT s.1, iT s.2] ∧ s.2 ≠ [] ∧ s.1.length ≤ 1000 ∧ s.2.length ≤ 1000 ∧ R (stV (nf s)) M
theorem nfGo_succ {c : Nat} {f l : List Int} : nfGo (c + 1) f l = if f ≠ [] ∧ last0 f = last0 l then nfGo c f.dropLast (rotR l) else (f, l) := rfl
theorem cmp_neT {X : Cx} {M : Mem} {g : List Int} (hu : X.A.units + 64 < cLine) : Cmp X .NotEq M (iT g) (.tup []) (!decide (g = [])) := cmp_neTI (ns := g) (ms := []) hu
theorem b_normal_form (G : GSl P w K mg base) : BodyOk P w K mg base 1 f n_normal_form "normal_form" (defScope s_normal_form) (defBody s_normal_form) aNf := by
  rintro cdv A outer s H E hr ds M R ⟨⟨f0, l0⟩, rfl, hn, h1, h2, hp⟩
  have hu := hr.u64
  refine as_cons (as_set 1 q_normal_form.nd (ae_g G hr (by decide) (aa_cons ((v_ 1).val (aa_nil (ak_nil ⟨rfl, l0, rfl, hn, h2, ?_⟩))))))
  have hsl := sloop_spec hn
  refine as_cons (as_while (fun c Γ M' => M' = M ∧ ∃ f l, Γ = [some (iT f), some (iT l)] ∧ l ≠ [] ∧ f.length = c ∧ f.length ≤ 1000 ∧ l.length ≤ 1000 ∧ nf (f0, l0) = nfGo c f l) f0.length PassesOwn.never ⟨rfl, f0, sloop l0, rfl, hsl.1, rfl, h1, Nat.le_trans hsl.2.2.2.1 h2, rfl⟩ ?_)
  rintro c Γ M' ⟨rfl, g, l, rfl, hl, hc, hf, hll, hnf⟩
  have sf : g ≠ [] → ∀ {X : Cx} {Γ : Gam} {M : Mem} {e : Expr}, aV X e Γ M (.tup (cutA (g.map Val.int) none (some (-1)))) → aV X e Γ M (iT g.dropLast) := fun hne _ _ _ _ h => by
    rw [cut_map, cut_neg hne] at h
    exact h
  have s1 : ∀ {X : Cx} {Γ : Gam} {M : Mem} {e : Expr}, aV X e Γ M (.tup (cutA (l.map Val.int) none (some (-1)))) → aV X e Γ M (iT l.dropLast) := fun h => by
    rw [cut_map, cut_neg hl] at h
    exact h
  have s2 : ∀ {X : Cx} {Γ : Gam} {M : Mem} {e : Expr}, aV X e Γ M (.tup (cutA (l.map Val.int) (some (-1)) none)) → aV X e Γ M (iT [last0 l]) := fun h => by
    rw [cut_map, cut_end hl] at h
    exact h
  have fin : nf (f0, l0) = (g, l) → aSs (bcx P w K mg base n_normal_form "normal_form" (defScope s_normal_form) f cdv A outer s H E) [(defBody s_normal_form).getD 2 (.Pass ⟨0, 0, 0, 0⟩)] [some (iT g), some (iT l)] M' (kOf R) := fun e => by
    refine as_one (as_ret (aE.val (av_tup (avs_cons (v_ 0) (avs_cons (v_ 1) avs_nil)) szb) (.ok ?_)))
    rw [e] at hp
    exact hp
  by_cases hfe : g = []
  · subst hfe
    refine at_w (aw_and (at_cmp (v_ 0) (av_tup avs_nil szb) (cmp_neT hu) ⟨fun h => ?_, fun _ => ⟨nft, fun _ => fin ?_⟩⟩))
    · simp at h
    · rw [hnf, ← hc]
      rfl
  · have hfl : 0 < g.length := List.length_pos_iff.mpr hfe
    obtain ⟨c', rfl⟩ : ∃ c', c = c' + 1 := ⟨c - 1, by omega⟩
    rw [nfGo_succ] at hnf
    refine at_w (aw_and (at_cmp (v_ 0) (av_tup avs_nil szb) (cmp_neT hu) ⟨fun _ => ?_, fun h => ?_⟩))
    · refine aw_and1 (at_cmp (av_ixT (v_ 0) (av_neg i_) (atI_last hfe)) (av_ixT (v_ 1) (av_neg i_) (atI_last hl)) cmp_eqI ⟨fun h => ?_, fun h => fin ?_⟩)
      · rw [decide_eq_true_eq] at h
        rw [if_pos ⟨hfe, h⟩] at hnf
        refine as_one (as_par 0 1 q_normal_form.nd rfl (by decide) (aa_cons ((sf hfe (av_sliceT (v_ 0) ao_none (ao_some (av_neg i_)))).val (aa_cons (aE.val (av_catT (s2 (av_sliceT (v_ 1) (ao_some (av_neg i_)) ao_none)) (s1 (av_sliceT (v_ 1) ao_none (ao_some (av_neg i_)))) (sz ?_)) (aa_nil ⟨_, _, rfl, c', Nat.lt_succ_self _, rfl, g.dropLast, rotR l, rfl, ?_, ?_, ?_, ?_, hnf⟩))))))
        · simp
          omega
        · unfold rotR
          exact List.cons_ne_nil _ _
        · rw [List.length_dropLast]
          omega
        · rw [List.length_dropLast]
          omega
        · rw [rot_len hl]
          exact hll
      · rw [decide_eq_false_iff_not] at h
        rw [if_neg fun z => h z.2] at hnf
        exact hnf
    · simp [hfe] at h
abbrev GNf (P : Program) (w : World) (K : PySem.W.Frag) (mg : Str → Option Value) (base : Heap) : Prop := Gd P w K mg base 2 "normal_form" [] fun ds _ => aNf ds
/-! ### stream_item -/
def aItem : ASp := fun ds M R => ∃ (s : Stm) (i : Int), ds = [stV s, .int i] ∧ s.2 ≠ [] ∧ 0 ≤ i ∧ R (.int (item s i.toNat)) M
theorem item_lp {s : Stm} {i : Int} (hn : s.2 ≠ []) (h0 : 0 ≤ i) (h : ¬ i < (s.1.length : Int)) : item s i.toNat = at0 s.2 ((i - (s.1.length : Int)) % (s.2.length : Int)) := by
  have hl : 0 < s.2.length := List.length_pos_iff.mpr hn
  rw [item_ge (by omega)]
  unfold lp at0
  have e : i - (s.1.length : Int) = ((i.toNat - s.1.length : Nat) : Int) := by omega
  rw [e, ← Int.natCast_emod, Int.toNat_natCast]
theorem b_stream_item (m3 : mg "len" = none) : BodyOk P w K mg base k f n_stream_item "stream_item" (defScope s_stream_item) (defBody s_stream_item) aItem := by
  rintro cdv A outer s0 H E hr ds M R ⟨s, i, rfl, hn, h0, hp⟩
  have hl : 0 < s.2.length := List.length_pos_iff.mpr hn
  refine as_cons (as_asg ((v_ 0).val (ag_tup rfl (ags_cons (ag_name 2 q_stream_item.nd (ags_cons (ag_name 3 q_stream_item.nd (ags_nil ?_))))))))
  have len1 : ∀ {g : List Int} {X : Cx} {Γ : Gam} {M : Mem} {e : Expr}, aV X e Γ M (.int ((g.map Val.int).length : Nat)) → aV X e Γ M (.int (g.length : Nat)) := fun h => by rw [List.length_map] at h; exact h
  refine as_one (as_ret (ae_ifd (p := i < (s.1.length : Int)) (at_cmp (v_ 1) (len1 (av_len m3 (v_ 2) .t)) cmp_lt ⟨rfl, rfl⟩) (fun h => ?_) (fun h => ?_)))
  · refine aE.val (av_ixT (v_ 2) (v_ 1) (atI_int h0 h)) (.ok ?_)
    have e : item s i.toNat = at0 s.1 i := item_lt (by omega)
    rw [e] at hp
    exact hp
  · refine aE.val (av_ixT (v_ 3) (av_mod (av_sub (v_ 1) (len1 (av_len m3 (v_ 2) .t))) (len1 (av_len m3 (v_ 3) .t)) (by omega)) (atI_int (Int.emod_nonneg _ (by omega)) (Int.emod_lt_of_pos _ (by omega)))) (.ok ?_)
    rw [item_lp hn h0 h] at hp
    exact hp
abbrev GItem (P : Program) (w : World) (K : PySem.W.Frag) (mg : Str → Option Value) (base : Heap) : Prop := Gd P w K mg base 1 "stream_item" [] fun ds _ => aItem ds
end
end K13
namespace Sm
/-! ### streams without their first items, with other ones -/
/-! ### streams item by item -/
theorem item_per {s : Stm} {p i : Nat} (hd : s.2.length ∣ p) (hi : s.1.length ≤ i) : item s (i + p) = item s i := by
  rw [item_ge (by omega), item_ge hi, show i + p - s.1.length = i - s.1.length + p by omega]
  obtain ⟨q, rfl⟩ := hd
  exact per_mul (fun i => lp_add (l := s.2) i) q _
def minL : List Int → Int
  | [] => 0
  | x :: xs => xs.foldl (fun a b => if b < a then b else a) x
def maxL : List Int → Int
  | [] => 0
  | x :: xs => xs.foldl (fun a b => if b > a then b else a) x
theorem minL_spec : ∀ (xs : List Int) (x : Int), minL (x :: xs) ∈ x :: xs ∧ ∀ y ∈ x :: xs, minL (x :: xs) ≤ y
  | [], x => ⟨List.mem_cons_self, fun y hy => by
    have : y = x := by simpa using hy
    subst this
    exact Int.le_refl _⟩
  | b :: xs, x => by
    have e : minL (x :: b :: xs) = minL ((if b < x then b else x) :: xs) := rfl
    obtain ⟨h1, h2⟩ := minL_spec xs (if b < x then b else x)
    rw [e]
    have h0 := h2 _ List.mem_cons_self
    refine ⟨?_, fun y hy => ?_⟩
    · rcases List.mem_cons.mp h1 with z | z
      · rw [z]
        split
        · exact List.mem_cons_of_mem _ List.mem_cons_self
        · exact List.mem_cons_self
      · exact List.mem_cons_of_mem _ (List.mem_cons_of_mem _ z)
    · rcases List.mem_cons.mp hy with rfl | hy
      · refine Int.le_trans h0 ?_
        split <;> omega
      · rcases List.mem_cons.mp hy with rfl | hy
        · refine Int.le_trans h0 ?_
          split <;> omega
        · exact h2 y (List.mem_cons_of_mem _ hy)
theorem maxL_spec : ∀ (xs : List Int) (x : Int), maxL (x :: xs) ∈ x :: xs ∧ ∀ y ∈ x :: xs, y ≤ maxL (x :: xs)
  | [], x => ⟨List.mem_cons_self, fun y hy => by
    have : y = x := by simpa using hy
    subst this
    exact Int.le_refl _⟩
  | b :: xs, x => by
    have e : maxL (x :: b :: xs) = maxL ((if b > x then b else x) :: xs) := rfl
    obtain ⟨h1, h2⟩ := maxL_spec xs (if b > x then b else x)
    rw [e]
    have h0 := h2 _ List.mem_cons_self
    refine ⟨?_, fun y hy => ?_⟩
    · rcases List.mem_cons.mp h1 with z | z
      · rw [z]
        split
        · exact List.mem_cons_of_mem _ List.mem_cons_self
        · exact List.mem_cons_self
      · exact List.mem_cons_of_mem _ (List.mem_cons_of_mem _ z)
    · rcases List.mem_cons.mp hy with rfl | hy
      · refine Int.le_trans ?_ h0
        split <;> omega
      · rcases List.mem_cons.mp hy with rfl | hy
        · refine Int.le_trans ?_ h0
          split <;> omega
        · exact h2 y (List.mem_cons_of_mem _ hy)
theorem min_is {ns : List Int} {m : Int} (h1 : m ∈ ns) (h2 : ∀ y ∈ ns, m ≤ y) : m = minL ns := by
  cases ns with
  | nil => cases h1
  | cons x xs =>
    obtain ⟨a, b⟩ := minL_spec xs x
    exact Int.le_antisymm (h2 _ a) (b _ h1)
theorem max_is {ns : List Int} {m : Int} (h1 : m ∈ ns) (h2 : ∀ y ∈ ns, y ≤ m) : m = maxL ns := by
  cases ns with
  | nil => cases h1
  | cons x xs =>
    obtain ⟨a, b⟩ := maxL_spec xs x
    exact Int.le_antisymm (b _ h1) (h2 _ a)
/-! ### the least common multiple, step by step -/
end Sm
namespace Ab
open PySem PySem.Spec PyProof.Rows L2
end Ab
namespace K13
open PySem L2 Ab Sm
theorem cut_loN {g : List Int} {j : Int} (h0 : 0 ≤ j) : cutI g (some j) none = g.drop j.toNat := by
  by_cases h : j ≤ g.length
  · exact cut_lo h0 h
  · obtain ⟨n, rfl⟩ := Int.eq_ofNat_of_zero_le h0
    unfold cutI
    rw [HT.sIx_nat, HT.sIx_none, Nat.min_eq_right (by omega), Int.toNat_natCast, List.drop_of_length_le (Nat.le_refl _), List.drop_of_length_le (by omega), List.take_nil]
section
variable {P : Program} {w : World} {K : PySem.W.Frag} {mg : Str → Option Value} {base : Heap} {k : Nat} {f C : Addr}
/-! ### stream_without, with_front, with_first -/
/-! ### common_multiple -/
def nL (ns : List Nat) : List Int := ns.map fun (n : Nat) => (n : Int)
end
end K13
namespace K13
open PySem L2 Ab Sm
inductive Wd where
  | sum | least | greatest
def Wd.str : Wd → Str
  | .sum => "sum"
  | .least => "least"
  | .greatest => "greatest"
def opV : Wd → List Int → Int
  | .sum, ns => ns.sum
  | .least, ns => minL ns
  | .greatest, ns => maxL ns
end K13
namespace K13
open PySem L2 Ab Sm
/-! ### schedules -/
structure Lim (s : Stm) : Prop where
  l1 : s.1.length ≤ 12
  l2 : s.2.length ≤ 6
  ne : s.2 ≠ []
  a1 : ∀ v ∈ s.1, okI v
  a2 : ∀ v ∈ s.2, okI v
structure Sc where
  a : Int
  sp : Stm
  lv : Stm
def schF (S : Sc) : List (Str × Val) := [("own_arity", .int S.a), ("own_spine", stV S.sp), ("own_levels", stV S.lv)]
def scV (C : Addr) (S : Sc) : Val := .obj C (schF S)
structure GoodS (S : Sc) : Prop where
  a2 : 2 ≤ S.a
  a9 : S.a ≤ 9
  ns : NF S.sp
  ls : Lim S.sp
  nl : NF S.lv
  ll : Lim S.lv
  lf : item S.lv 0 ≠ 0
theorem item_mem {s : Stm} (hn : s.2 ≠ []) (i : Nat) : item s i ∈ s.1 ∨ item s i ∈ s.2 := by
  have hl : 0 < s.2.length := List.length_pos_iff.mpr hn
  by_cases h : i < s.1.length
  · left
    rw [item_lt h, gd_eq h]
    exact List.getElem_mem h
  · right
    rw [item_ge (by omega)]
    unfold lp
    rw [gd_eq (Nat.mod_lt _ hl)]
    exact List.getElem_mem _
theorem Lim.item {s : Stm} (h : Lim s) (i : Nat) : okI (item s i) := by
  rcases item_mem h.ne i with z | z
  · exact h.a1 _ z
  · exact h.a2 _ z
theorem GoodS.ext {S T : Sc} (hS : GoodS S) (hT : GoodS T) (ha : S.a = T.a) (h1 : ∀ i, item S.sp i = item T.sp i) (h2 : ∀ i, item S.lv i = item T.lv i) : S = T := by
  cases S
  cases T
  have e1 := uniq hS.ns hT.ns h1
  have e2 := uniq hS.nl hT.nl h2
  subst ha e1 e2
  rfl
structure Rs (K : PySem.W.Frag) (mg : Str → Option Value) (C : Addr) : Prop where
  cl : Cls K C
  nA : NoAttr K C "own_arity"
  nS : NoAttr K C "own_spine"
  nL : NoAttr K C "own_levels"
  gC : mg "Schedule" = some (.ref C)
structure Lm (mg : Str → Option Value) (t1 t2 t3 t4 : Tok) : Prop where
  f : mg "FRONT_LIMIT" = some (.int 12 t1)
  l : mg "LOOP_LIMIT" = some (.int 6 t2)
  b : mg "LABEL_LIMIT" = some (.int 1000000 t3)
  a : mg "ARITY_LIMIT" = some (.int 9 t4)
theorem look_a {S : Sc} : (schF S).lookup ("own_arity" : Str) = some (.int S.a) := by rfl
theorem look_s {S : Sc} : (schF S).lookup ("own_spine" : Str) = some (stV S.sp) := by rfl
theorem look_l {S : Sc} : (schF S).lookup ("own_levels" : Str) = some (stV S.lv) := by rfl
section
variable {P : Program} {w : World} {K : PySem.W.Frag} {mg : Str → Option Value} {base : Heap} {k : Nat} {f C : Addr} {t1 t2 t3 t4 : Tok}
/-! ### checked_stream -/
/-! ### Schedule.is_stream, __init__ -/
def aIss : ASp := fun ds M R => ∃ s : Stm, ds = [stV s] ∧ Lim s ∧ R (.bl true) M
theorem b_is_stream (L : Lm mg t1 t2 t3 t4) (G : GItems P w K mg base) (m1 : mg "isinstance" = none) (m2 : mg "tuple" = none) (m3 : mg "len" = none) : BodyOk P w K mg base 2 f n_Schedule_is_stream "Schedule.is_stream" (defScope c_Schedule_is_stream) (defBody c_Schedule_is_stream) aIss := by
  rintro cdv A outer s0 H E hr ds M R ⟨s, rfl, hs, hp⟩
  have hpos : 0 < s.2.length := List.length_pos_iff.mpr hs.ne
  have q1 := hs.l1
  have q2 := hs.l2
  refine as_cons (as_if (at_w (aw_or (at_not (at_val (ae_isi m1 (v_ 0) (av_ty (T := "tuple") m2 (by decide +kernel)) (.ty "tuple") (.tup _) (kit_ty (by decide +kernel)) ⟨true, rfl, nft, fun _ => ?_⟩))))))
  refine aw_or1 (at_cmp (av_len m3 (v_ 0) .t) i_ cmp_neI ⟨nft, fun _ => as_nil ?_⟩)
  refine as_one (as_ret (ae_and (ae_g G hr (by decide) (aa_cons ((av_ixT (v_ 0) i_ rfl).val (aa_cons (i_.val (aa_cons ((av_gint L.f).val (aa_nil (ak_nil ⟨rfl, s.1, 0, 12, rfl, by omega, by omega, by decide, hs.a1, true, rfl, fun _ => ?_, ntf⟩)))))))))))
  exact ae_one (ae_g G hr (by decide) (aa_cons ((av_ixT (v_ 0) i_ rfl).val (aa_cons (i_.val (aa_cons ((av_gint L.l).val (aa_nil (ak_nil ⟨rfl, s.2, 1, 6, rfl, by omega, by omega, by decide, hs.a2, .ok hp⟩)))))))))
structure Cs (P : Program) (w : World) (K : PySem.W.Frag) (mg : Str → Option Value) (base : Heap) (C p g : Addr) : Prop where
  rd : ClX.CRead K C (.type "type")
  sm : SMet K C (.type "type") "is_stream" p g
  fx : FX P w K mg base 3 g fun ds _ => aIss ds
def aInitS (C : Addr) : ASp := fun ds M R => ∃ (p : Addr) (a : Int) (sp lv : Stm) (M0 : Mem), ds = [.ptr p, .int a, stV sp, stV lv] ∧ M = (p, .ins C []) :: M0 ∧ 2 ≤ a ∧ a ≤ 9 ∧ Lim sp ∧ Lim lv ∧ item lv 0 ≠ 0 ∧ R .non ((p, .ins C (schF ⟨a, nf sp, nf lv⟩)) :: M0)
theorem b_init {pS gS : Addr} (T : Rs K mg C) (L : Lm mg t1 t2 t3 t4) (G1 : GInt P w K mg base) (G2 : Cs P w K mg base C pS gS) (G3 : GItem P w K mg base) (G4 : GNf P w K mg base) :
    BodyOk P w K mg base 3 f n_Schedule___init__ "Schedule.__init__" (defScope c_Schedule___init__) (defBody c_Schedule___init__) (aInitS C) := by
  rintro cdv A outer s0 H E hr ds M R ⟨p, a, sp, lv, M0, rfl, rfl, ha2, ha9, hs, hl, h0, hp⟩
  have q1 := hs.l1
  have q2 := hs.l2
  have q3 := hl.l1
  have q4 := hl.l2
  refine as_cons (as_if (at_not (at_val (ae_g G1 hr (by decide) (aa_cons ((v_ 1).val (aa_nil (ak_cons (i_.val (ak_cons ((av_gint L.a).val (ak_nil ⟨rfl, rfl, a, some 2, some 9, rfl, true, ?_, nft, fun _ => as_nil ?_⟩))))))))))))
  · have e : within a (some 2) (some 9) = true := by simp [within]; omega
    rw [e]
  refine as_cons (as_if (at_not (at_val (ae_smeth G2.rd G2.sm G2.fx hr (ae_glob T.gC ⟨rfl, rfl⟩) (aa_cons ((v_ 2).val (aa_nil (ak_nil ⟨rfl, sp, rfl, hs, true, rfl, nft, fun _ => as_nil ?_⟩))))))))
  refine as_cons (as_if (at_not (at_val (ae_smeth G2.rd G2.sm G2.fx hr (ae_glob T.gC ⟨rfl, rfl⟩) (aa_cons ((v_ 3).val (aa_nil (ak_nil ⟨rfl, lv, rfl, hl, true, rfl, nft, fun _ => as_nil ?_⟩))))))))
  refine as_cons (as_if (at_cmpM (ae_g G3 hr (by decide) (aa_cons ((v_ 3).val (aa_cons (i_.val (aa_nil (ak_nil ⟨rfl, lv, 0, rfl, hl.ne, by decide, i_.val ⟨_, cmp_eqI, fun h => ?_, fun _ => as_nil ?_⟩⟩)))))))))
  · rw [decide_eq_true_eq] at h
    exact absurd h h0
  refine as_cons (as_fld T.cl T.nA ((v_ 1).val ((v_ 0).val ⟨0, p, _, rfl, rfl, Nat.le_of_ble_eq_true rfl, ?_⟩)))
  refine as_cons (as_fld T.cl T.nS (ae_g G4 hr (by decide) (aa_cons ((av_ixT (v_ 2) i_ rfl).val (aa_cons ((av_ixT (v_ 2) i_ rfl).val (aa_nil (ak_nil ⟨rfl, sp, rfl, hs.ne, by omega, by omega, (v_ 0).val ⟨0, p, _, rfl, rfl, Nat.le_of_ble_eq_true rfl, ?_⟩⟩))))))))
  refine as_one (as_fld T.cl T.nL (ae_g G4 hr (by decide) (aa_cons ((av_ixT (v_ 3) i_ rfl).val (aa_cons ((av_ixT (v_ 3) i_ rfl).val (aa_nil (ak_nil ⟨rfl, lv, rfl, hl.ne, by omega, by omega, (v_ 0).val ⟨0, p, _, rfl, rfl, Nat.le_of_ble_eq_true rfl, .ok ?_⟩⟩))))))))
  exact hp
structure Mks (P : Program) (w : World) (K : PySem.W.Frag) (mg : Str → Option Value) (base : Heap) (C : Addr) : Prop where
  ex : ∃ fi, Mk K C fi ∧ FnX P w K mg base 4 fi ["spine", "levels"] (spX K fun ds es M R => ds.length = 2 ∧ aInitS C (ds ++ es) M R)
/-- Schedule(a, spine=s, levels=l) -/
theorem ae_sch {X : Cx} {Γ : Gam} {M : Mem} {R : Val → Mem → Prop} {e e1 e2 : Expr} {p1 p2 p3 pos : Pos} {m : Nat} (T : Rs X.K X.mg C) (I : Mks X.prog X.w X.K X.mg X.base C) (hr : Rm m X.A) (hm : 5 ≤ m)
    (h : aE X e Γ M fun x M1 => aE X e1 Γ M1 fun y M2 => aE X e2 Γ M2 fun z M3 => ∃ a sp lv, x = .int a ∧ y = stV sp ∧ z = stV lv ∧ 2 ≤ a ∧ a ≤ 9 ∧ Lim sp ∧ Lim lv ∧ item lv 0 ≠ 0 ∧ R (scV C ⟨a, nf sp, nf lv⟩) M3)
    (hg : Gl X "Schedule" := by rfl) (he : starEach [e] X.env = (false, eval e X.env) :: starEach [] X.env := by rfl) : aE X (.Call (.Name "Schedule" p1) [e] [⟨some "spine", e1, p2⟩, ⟨some "levels", e2, p3⟩] pos) Γ M R := by
  obtain ⟨fi, mk, F⟩ := I.ex
  refine ae_frzO (ae_make mk F (hr.mono hm) T.gC (aa_cons (h.mono fun x M1 h1 => aa_nil (ak_cons (h1.mono fun y M2 h2 => ak_cons (h2.mono fun z M3 h3 => ak_nil ⟨rfl, fun p hn => ⟨rfl, ?_⟩⟩)))) he) hg rfl rfl (by decide) he (by rw [he]; rfl))
  obtain ⟨a, sp, lv, rfl, rfl, rfl, a2, a9, hs, hl, h0, hR⟩ := h3
  exact ⟨p, a, sp, lv, M3, rfl, rfl, a2, a9, hs, hl, h0, rfl, p, C, _, _, rfl, rfl, hR⟩
/-! ### made_schedule -/
end
end K13
namespace K13
open PySem L2 Ab Sm
/-- a made schedule is good -/
theorem good_nf {a : Int} {s l : Stm} (a2 : 2 ≤ a) (a9 : a ≤ 9) (h1 : s.2 ≠ []) (h2 : l.2 ≠ []) (ls : Lim (nf s)) (ll : Lim (nf l)) (h0 : item l 0 ≠ 0) : GoodS ⟨a, nf s, nf l⟩ :=
  ⟨a2, a9, (nf_spec h1).nf, ls, (nf_spec h2).nf, ll, by rw [(nf_spec h2).it]; exact h0⟩
theorem lim_nf {s : Stm} (hn : s.2 ≠ []) (h1 : s.1.length ≤ 12) (h2 : s.2.length ≤ 6) (h3 : ∀ v ∈ s.1, okI v) (h4 : ∀ v ∈ s.2, okI v) : Lim (nf s) :=
  have q := nf_spec hn
  ⟨Nat.le_trans q.l1 h1, Nat.le_trans q.l2 h2, q.nf.ne, fun v hv => h3 v (q.m1 v hv), fun v hv => h4 v (q.m2 v hv)⟩
section
variable {P : Program} {w : World} {K : PySem.W.Frag} {mg : Str → Option Value} {base : Heap} {k : Nat} {f C : Addr} {t1 t2 t3 t4 : Tok}
theorem av_a {X : Cx} {Γ : Gam} {M : Mem} {e : Expr} {S : Sc} {pos : Pos} (T : Rs X.K X.mg C) (h : aV X e Γ M (scV C S)) (hb : attributeBase e "own_arity" X.env (eval e X.env) = eval e X.env := by rfl) : aV X (.Attribute e "own_arity" pos) Γ M (.int S.a) := av_fld T.cl T.nA h (.im _) look_a hb
theorem av_s {X : Cx} {Γ : Gam} {M : Mem} {e : Expr} {S : Sc} {pos : Pos} (T : Rs X.K X.mg C) (h : aV X e Γ M (scV C S)) (hb : attributeBase e "own_spine" X.env (eval e X.env) = eval e X.env := by rfl) : aV X (.Attribute e "own_spine" pos) Γ M (stV S.sp) := av_fld T.cl T.nS h (.im _) look_s hb
theorem av_l {X : Cx} {Γ : Gam} {M : Mem} {e : Expr} {S : Sc} {pos : Pos} (T : Rs X.K X.mg C) (h : aV X e Γ M (scV C S)) (hb : attributeBase e "own_levels" X.env (eval e X.env) = eval e X.env := by rfl) : aV X (.Attribute e "own_levels" pos) Γ M (stV S.lv) := av_fld T.cl T.nL h (.im _) look_l hb
/-! ### spine_at, level_at, arity -/
def aSat (C : Addr) : ASp := fun ds M R => ∃ (S : Sc) (i : Int), ds = [scV C S, .int i] ∧ GoodS S ∧ 0 ≤ i ∧ R (.int (item S.sp i.toNat)) M
def aLat (C : Addr) : ASp := fun ds M R => ∃ (S : Sc) (i : Int), ds = [scV C S, .int i] ∧ GoodS S ∧ 0 ≤ i ∧ R (.int (item S.lv i.toNat)) M
theorem b_spine_at (T : Rs K mg C) (G1 : GChk P w K mg base) (G2 : GItem P w K mg base) : BodyOk P w K mg base 2 f n_Schedule_spine_at "Schedule.spine_at" (defScope c_Schedule_spine_at) (defBody c_Schedule_spine_at) (aSat C) := by
  rintro cdv A outer s0 H E hr ds M R ⟨S, i, rfl, hS, h0, hp⟩
  refine as_cons (as_expr (ae_g G1 hr (by decide) (aa_cons ((v_ 1).val (aa_cons (i_.val (aa_nil (ak_nil ⟨rfl, rfl, i, 0, rfl, h0, ?_⟩))))))))
  exact as_one (as_ret (ae_g G2 hr (by decide) (aa_cons ((av_s T (v_ 0)).val (aa_cons ((v_ 1).val (aa_nil (ak_nil ⟨rfl, S.sp, i, rfl, hS.ns.ne, h0, .ok hp⟩))))))))
theorem b_level_at (T : Rs K mg C) (G1 : GChk P w K mg base) (G2 : GItem P w K mg base) : BodyOk P w K mg base 2 f n_Schedule_level_at "Schedule.level_at" (defScope c_Schedule_level_at) (defBody c_Schedule_level_at) (aLat C) := by
  rintro cdv A outer s0 H E hr ds M R ⟨S, i, rfl, hS, h0, hp⟩
  refine as_cons (as_expr (ae_g G1 hr (by decide) (aa_cons ((v_ 1).val (aa_cons (i_.val (aa_nil (ak_nil ⟨rfl, rfl, i, 0, rfl, h0, ?_⟩))))))))
  exact as_one (as_ret (ae_g G2 hr (by decide) (aa_cons ((av_l T (v_ 0)).val (aa_cons ((v_ 1).val (aa_nil (ak_nil ⟨rfl, S.lv, i, rfl, hS.nl.ne, h0, .ok hp⟩))))))))
def aAri (C : Addr) : ASp := fun ds M R => ∃ (S : Sc), ds = [scV C S] ∧ R (.int S.a) M
theorem b_arity (T : Rs K mg C) : BodyOk P w K mg base k f n_Schedule_arity "Schedule.arity" (defScope c_Schedule_arity) (defBody c_Schedule_arity) (aAri C) := by
  rintro cdv A outer s0 H E hr ds M R ⟨S, rfl, hp⟩
  exact as_one (as_ret ((av_a T (v_ 0)).val (.ok hp)))
/-! ### delayed, times -/
end
end K13
namespace K13
open PySem L2 Ab Sm
/-! ### == of schedules -/
theorem toD_st (s : Stm) : toD (stV s) = some (.tuple [.tuple (s.1.map PyData.int), .tuple (s.2.map PyData.int)]) := by
  refine toD_tup ?_
  unfold toDs
  rw [show toD (iT s.1) = some (.tuple (s.1.map PyData.int)) from toD_tup (toDs_ints s.1)]
  show ((toDs [iT s.2]).map fun ds => PyData.tuple (s.1.map PyData.int) :: ds) = _
  unfold toDs
  rw [show toD (iT s.2) = some (.tuple (s.2.map PyData.int)) from toD_tup (toDs_ints s.2)]
  rfl
theorem shaped_st (s : Stm) : SeqAt.shaped (.tuple [.tuple (s.1.map PyData.int), .tuple (s.2.map PyData.int)]) = true := by
  simp [SeqAt.shaped, PyData.canLay0, PyData.canLayAll0, PyData.depth, PyData.depthAll, lay_ints, dep_ints]
theorem eqv_st (s t : Stm) : PyData.eqv (.tuple [.tuple (s.1.map PyData.int), .tuple (s.2.map PyData.int)]) (.tuple [.tuple (t.1.map PyData.int), .tuple (t.2.map PyData.int)]) = decide (s = t) := by
  simp only [PyData.eqv, PyData.eqvAll, eqv_ints, Bool.and_true]
  obtain ⟨a, b⟩ := s
  obtain ⟨c, d⟩ := t
  simp [Prod.mk.injEq]
theorem cmp_eqST {X : Cx} {M : Mem} {s t : Stm} (hu : X.A.units + 64 < cLine) : Cmp X .Eq M (stV s) (stV t) (decide (s = t)) := by
  have h := cmp_eqD (X := X) (M := M) (.self (stV s)) (.self (stV t)) (toD_st s) (toD_st t) (shaped_st s) (shaped_st t) hu
  rw [eqv_st] at h
  exact h
noncomputable def relS (fs gs : List (Str × Val)) : Bool := @decide (fs = gs) (Classical.propDecidable _)
def goodF (fs : List (Str × Val)) : Prop := ∃ S : Sc, fs = schF S ∧ GoodS S
theorem iT_inj {xs ys : List Int} (h : iT xs = iT ys) : xs = ys := by
  unfold iT at h
  have h2 : xs.map Val.int = ys.map Val.int := by injection h
  exact List.map_inj_right (fun a b e => by injection e) |>.mp h2
theorem stV_inj {s t : Stm} (h : stV s = stV t) : s = t := by
  unfold stV at h
  have h2 : [iT s.1, iT s.2] = [iT t.1, iT t.2] := by injection h
  have h3 := (List.cons.inj h2).1
  have h4 := (List.cons.inj (List.cons.inj h2).2).1
  exact Prod.ext (iT_inj h3) (iT_inj h4)
theorem schF_inj {S T : Sc} (h : schF S = schF T) : S = T := by
  unfold schF at h
  have h1 := (List.cons.inj h).1
  have h2 := (List.cons.inj (List.cons.inj h).2).1
  have h3 := (List.cons.inj (List.cons.inj (List.cons.inj h).2).2).1
  have e1 : Val.int S.a = Val.int T.a := (Prod.mk.inj h1).2
  have e2 := stV_inj (Prod.mk.inj h2).2
  have e3 := stV_inj (Prod.mk.inj h3).2
  cases S
  cases T
  cases e1
  simp only at e2 e3
  subst e2 e3
  rfl
theorem rel_eq {S T : Sc} (h : S = T) : relS (schF S) (schF T) = true := by
  unfold relS
  exact @decide_eq_true _ (Classical.propDecidable _) (by rw [h])
theorem rel_ne {S T : Sc} (h : S ≠ T) : relS (schF S) (schF T) = false := by
  unfold relS
  exact @decide_eq_false _ (Classical.propDecidable _) fun z => h (schF_inj z)
/-- what isinstance asks of the class -/
structure Isi (K : PySem.W.Frag) (C : Addr) : Prop where
  c1 : PySem.W.findIn K (.ref C) "__class__" = some (some (.builtin "object.__class__"))
  c2 : PySem.W.specialIn K (.builtin "object.__class__") "__get__" = some (some (.builtin "getset_descriptor.__get__"))
  c3 : PySem.W.takesIn K (.builtin "object.__class__") = some true
  c4 : PySem.W.mroIn K C (.type "object") = some true
  c5 : PySem.W.kitOne K (.ref C) (.ref C) = some true
section
variable {P : Program} {w : World} {K : PySem.W.Frag} {mg : Str → Option Value} {base : Heap} {k : Nat} {f C : Addr} {t1 t2 t3 t4 : Tok}
theorem ty_sc {M : Mem} {S : Sc} (T : Rs K mg C) (I : Isi K C) : TyV K M (scV C S) (.ref C) := .ob (.im _) T.cl I.c1 I.c2 I.c3 I.c4
def aEqS (C : Addr) : ASp := fun ds M R => ∃ fs gs, ds = [.obj C fs, .obj C gs] ∧ goodF fs ∧ goodF gs ∧ R (.bl (relS fs gs)) M
theorem b_eq (T : Rs K mg C) (I : Isi K C) (m1 : mg "isinstance" = none) : BodyOk P w K mg base k f n_Schedule___eq__ "Schedule.__eq__" (defScope c_Schedule___eq__) (defBody c_Schedule___eq__) (aEqS C) := by
  rintro cdv A outer s0 H E hr ds M R ⟨fs, gs, rfl, ⟨S, rfl, hS⟩, ⟨S', rfl, hS'⟩, hp⟩
  have hu := hr.u64
  refine as_cons (as_if (at_w (aw_or (at_not (at_val (ae_isi m1 (d1 := scV C S') (v_ 1) (ae_glob T.gC ⟨rfl, rfl⟩) (.own C) (ty_sc T I) I.c5 ⟨true, rfl, nft, fun _ => ?_⟩))))))
  have v0 : ∀ {X : Cx} {Γ : Gam} {M : Mem} {e : Expr}, aV X e Γ M (.obj C (schF S)) → aV X e Γ M (scV C S) := fun h => h
  have v1 : ∀ {X : Cx} {Γ : Gam} {M : Mem} {e : Expr}, aV X e Γ M (.obj C (schF S')) → aV X e Γ M (scV C S') := fun h => h
  by_cases ha : S.a = S'.a
  · refine aw_or1 (at_cmp (av_a T (v0 (v_ 0))) (av_a T (v1 (v_ 1))) cmp_neI ⟨fun h => ?_, fun _ => as_nil ?_⟩)
    · rw [decide_eq_true ha] at h
      exact absurd h (by decide)
    refine as_one (as_ret (ae_and (ae_cmp (av_s T (v0 (v_ 0))) (av_s T (v1 (v_ 1))) (cmp_eqST hu) ⟨_, rfl, fun h => ?_, fun h => .ok ?_⟩)))
    · rw [decide_eq_true_eq] at h
      refine ae_one (ae_cmp (av_l T (v0 (v_ 0))) (av_l T (v1 (v_ 1))) (cmp_eqST hu) (.ok ?_))
      by_cases hl : S.lv = S'.lv
      · rw [decide_eq_true hl]
        have e : S = S' := by
          cases S
          cases S'
          simp only at ha h hl
          subst ha h hl
          rfl
        rw [rel_eq e] at hp
        exact hp
      · rw [decide_eq_false hl]
        rw [rel_ne (S := S) (T := S') fun z => hl (by rw [z])] at hp
        exact hp
    · rw [decide_eq_false_iff_not] at h
      rw [rel_ne (S := S) (T := S') fun z => h (by rw [z])] at hp
      exact hp
  · refine aw_or1 (at_cmp (av_a T (v0 (v_ 0))) (av_a T (v1 (v_ 1))) cmp_neI ⟨fun _ => ?_, fun h => ?_⟩)
    · refine as_one (as_ret (ae_bl (.ok ?_)))
      rw [rel_ne (S := S) (T := S') fun z => ha (by rw [z])] at hp
      exact hp
    · rw [decide_eq_false ha] at h
      exact absurd h (by decide)
/-! ### combined_schedules -/
end
/-- six items on, from the twelfth -/
def P6 (s : Stm) : Prop := ∀ i, 12 ≤ i → item s (i + 6) = item s i
end K13
namespace Ab
open PySem PySem.Spec PyProof.Rows L2
end Ab
namespace Ab
open PySem PySem.Spec PyProof.Rows L2
/-! ### tests by a plain Prop -/
section
variable {X : Cx} {Γ : Gam} {M : Mem} {P : Val → Mem → Prop} {e a b c o : Expr} {es : List Expr} {pos p1 p2 apos kpos : Pos} {k : AK} {d d1 d2 d3 : Val} {i j l : Int} {x y m : Str} {n : Nat} {f C : Addr} {p q : Prop}
def TP (X : Cx) (c : Expr) (Γ : Gam) (M : Mem) (p : Prop) : Prop := ∃ b : Bool, aB X c Γ M b ∧ (b = true ↔ p)
def CP (X : Cx) (op : CmpOp) (M : Mem) (x y : Val) (p : Prop) : Prop := ∃ b : Bool, Cmp X op M x y b ∧ (b = true ↔ p)
theorem cp_lt : CP X .Lt M (.int i) (.int j) (i < j) := ⟨_, cmp_lt, decide_eq_true_iff⟩
theorem cp_le : CP X .LtE M (.int i) (.int j) (i ≤ j) := ⟨_, cmp_le, decide_eq_true_iff⟩
theorem cp_gt : CP X .Gt M (.int i) (.int j) (j < i) := ⟨_, cmp_gt, decide_eq_true_iff⟩
theorem cp_ge : CP X .GtE M (.int i) (.int j) (j ≤ i) := ⟨_, cmp_ge, decide_eq_true_iff⟩
theorem cp_eq : CP X .Eq M (.int i) (.int j) (i = j) := ⟨_, cmp_eqI, decide_eq_true_iff⟩
theorem cp_neL {ns ms : List Int} (v1 : Vw M d1 (.lst (ns.map .int))) (v2 : Vw M d2 (.lst (ms.map .int))) (hu : X.A.units + 64 < cLine) : CP X .NotEq M d1 d2 (ns ≠ ms) := ⟨_, cmp_neLI v1 v2 hu, by simp⟩
theorem tp_cmp {op : CmpOp} (ha : aV X a Γ M d1) (hb : aV X b Γ M d2) (hc : CP X op M d1 d2 p) (hm : behindInMarks op b = false := by first | exact nomark _ | rfl) : TP X (.Compare a [op] [b] pos) Γ M p := by
  obtain ⟨k, h, i⟩ := hc
  exact ⟨k, at_cmp ha hb h ⟨rfl, rfl⟩ hm, i⟩
theorem tp_val {k : Bool} (h : aV X e Γ M (.bl k)) (he : ∀ whole, isTrue e X.env whole = (do let v ← whole; standAt e.pos; holding [v] (truthy v)) := by intro _; rfl) : TP X e Γ M (k = true) := ⟨k, at_val (h.val ⟨_, rfl, rfl, rfl⟩) he, Iff.rfl⟩
theorem as_ifp {s1 s2 : List Stmt} (h : TP X c Γ M p) (h1 : p → aSs X s1 Γ M k) (h2 : ¬ p → aSs X s2 Γ M k) : aS X (.If c s1 s2 pos) Γ M k := by
  obtain ⟨b, h, i⟩ := h
  exact as_if (h.val ⟨fun z => h1 (i.mp z), fun z => h2 fun y => by rw [i.mpr y] at z; cases z⟩)
theorem ae_ifp (h : TP X c Γ M p) (h1 : p → aE X a Γ M P) (h2 : ¬ p → aE X b Γ M P) : aE X (.IfExp c a b pos) Γ M P := by
  obtain ⟨b, h, i⟩ := h
  exact ae_if (h.val ⟨fun z => h1 (i.mp z), fun z => h2 fun y => by rw [i.mpr y] at z; cases z⟩)
theorem av_ifI [Decidable p] (h : TP X c Γ M p) (h1 : p → aV X a Γ M (.int i)) (h2 : ¬ p → aV X b Γ M (.int j)) : aV X (.IfExp c a b pos) Γ M (.int (if p then i else j)) := by
  refine ae_ifp h (fun z => ?_) fun z => ?_
  · rw [if_pos z]
    exact h1 z
  · rw [if_neg z]
    exact h2 z
/-! ### slots forgotten -/
def Le : Gam → Gam → Prop
  | [], [] => True
  | none :: a, _ :: b => Le a b
  | some d :: a, e :: b => e = some d ∧ Le a b
  | _, _ => False
theorem Le.spec : ∀ {A B : Gam}, Le A B → A.length = B.length ∧ ∀ (i : Nat) (d : Val), A[i]? = some (some d) → B[i]? = some (some d)
  | [], [], _ => ⟨rfl, fun i d h => by simp at h⟩
  | none :: a, x :: b, h => by
    obtain ⟨h1, h2⟩ := Le.spec (A := a) (B := b) h
    refine ⟨by simp [h1], fun i d q => ?_⟩
    cases i with
    | zero => simp at q
    | succ i => exact h2 i d (by simpa using q)
  | some d :: a, e :: b, h => by
    obtain ⟨rfl, h⟩ := h
    obtain ⟨h1, h2⟩ := Le.spec (A := a) (B := b) h
    refine ⟨by simp [h1], fun i d' q => ?_⟩
    cases i with
    | zero => simpa using q
    | succ i => exact h2 i d' (by simpa using q)
  | [], _ :: _, h => h.elim
  | none :: _, [], h => h.elim
  | some _ :: _, [], h => h.elim
theorem Le.env {K : PySem.W.Frag} {H : Hp} {Γ Γ' : Gam} {σ : L2.St} (h : Le Γ' Γ) (en : EnvR K H Γ σ) : EnvR K H Γ' σ := en.drop h.spec.1 h.spec.2
theorem Le.refl : ∀ {Γ : Gam}, Le Γ Γ
  | [] => trivial
  | none :: a => Le.refl (Γ := a)
  | some d :: a => ⟨rfl, Le.refl (Γ := a)⟩
theorem as_le {Γ' : Gam} {s : List Stmt} (l : Le Γ' Γ) (h : aSs X s Γ' M k) : aSs X s Γ M k := fun Hi H σ ok en D q => h Hi H σ ok (l.env en) D q
/-- cells forgotten -/
theorem as_sub {M' : Mem} {s : List Stmt} (l : M'.Sublist M) (h : aSs X s Γ M' k) : aSs X s Γ M k := fun Hi H σ ok en D q => h Hi H σ (ok.sub l) en D q
theorem as_wk {Γ' : Gam} {M' : Mem} {s : List Stmt} (l : Le Γ' Γ) (l2 : M'.Sublist M) (h : aSs X s Γ' M' k) : aSs X s Γ M k := as_le l (as_sub l2 h)
theorem Le.trans : ∀ {A B C : Gam}, Le A B → Le B C → Le A C
  | [], [], C, _, h => h
  | none :: a, x :: b, [], _, h => by cases x <;> exact h.elim
  | none :: a, none :: b, y :: c, h1, h2 => Le.trans (A := a) (B := b) (C := c) h1 h2
  | none :: a, some x :: b, y :: c, h1, h2 => Le.trans (A := a) (B := b) (C := c) h1 h2.2
  | some d :: a, e :: b, [], h1, h2 => by cases e <;> exact h2.elim
  | some d :: a, e :: b, y :: c, h1, h2 => by
    obtain ⟨rfl, h1⟩ := h1
    exact ⟨h2.1, Le.trans (A := a) (B := b) (C := c) h1 h2.2⟩
  | [], _ :: _, _, h, _ => h.elim
  | none :: _, [], _, h, _ => h.elim
  | some _ :: _, [], _, h, _ => h.elim
/-- a loop whose invariant forgets slots and cells -/
abbrev Wk (I : Gam → Mem → Prop) : Gam → Mem → Prop := fun Γ M => ∃ Γ' M', I Γ' M' ∧ Le Γ' Γ ∧ M'.Sublist M
theorem Wk.mono {I : Gam → Mem → Prop} {Γ Γ' : Gam} {M M' : Mem} (l : Le Γ' Γ) (l2 : M'.Sublist M) (h : Wk I Γ' M') : Wk I Γ M := by
  obtain ⟨Γ0, M0, h, a, b⟩ := h
  exact ⟨Γ0, M0, h, a.trans l, b.trans l2⟩
theorem le_nil : Le [] [] := trivial
theorem le_skip {a b : Gam} {x : Option Val} (h : Le a b) : Le (none :: a) (x :: b) := h
theorem le_keep {a b : Gam} {d d' : Val} (e : d' = d) (h : Le a b) : Le (some d :: a) (some d' :: b) := ⟨congrArg some e, h⟩
theorem as_forW {tg iter : Expr} {body : List Stmt} (hp : PassesOwn (model X.prog X.w) X.A X.env X.xe) (hc : X.calm = true)
    (hi : aJ X tg iter Γ M fun n it M1 => ∃ I : Nat → Gam → Mem → Prop, Wk (I 0) Γ M1 ∧ (∀ i Γ M, i < n → I i Γ M → aG X tg (it i) Γ M fun Γ2 M2 => aSs X body Γ2 M2 { k with nx := Wk (I (i + 1)), ct := Wk (I (i + 1)), bk := k.nx }) ∧ ∀ Γ M, I n Γ M → k.nx Γ M)
    (hk : ∀ Γ Γ' M M', Le Γ' Γ → M'.Sublist M → k.nx Γ' M' → k.nx Γ M := by intro _ _ _ _ l l2 h; first | exact as_wk l l2 h | exact Wk.mono l l2 h)
    (hf : ∀ x, foldedSetIterable iter X.env x = pure x := by intro _; rfl) : aS X (.For tg iter body [] pos) Γ M k :=
  as_forJ hp hc (fun Hi H σ ok en R' q => hi Hi H σ ok en R' fun J n it M1 Hi1 H1 ⟨I, h0, hs, hd⟩ => q J n it M1 Hi1 H1 ⟨fun i => Wk (I i), h0, fun i Γ' M' hi' ⟨Γ0, M0, h, l, l2⟩ => fun Hi H σ v ok en r Q q => hs i Γ0 M0 hi' h Hi H σ v (ok.sub l2) (l.env en) r Q q, fun Γ' M' ⟨Γ0, M0, h, l, l2⟩ => hk _ _ _ _ l l2 (hd Γ0 M0 h)⟩) hf
theorem as_whileW {body : List Stmt} (I : Nat → Gam → Mem → Prop) (n : Nat) (hp : PassesOwn (model X.prog X.w) X.A X.env X.xe) (h0 : Wk (I n) Γ M)
    (hs : ∀ n Γ M, I n Γ M → ∃ p, TP X c Γ M p ∧ (p → aSs X body Γ M { k with nx := Wk fun Γ' M' => ∃ m, m < n ∧ I m Γ' M', ct := Wk fun Γ' M' => ∃ m, m < n ∧ I m Γ' M', bk := k.nx }) ∧ (¬ p → k.nx Γ M))
    (hk : ∀ Γ Γ' M M', Le Γ' Γ → M'.Sublist M → k.nx Γ' M' → k.nx Γ M := by intro _ _ _ _ l l2 h; first | exact as_wk l l2 h | exact Wk.mono l l2 h) : aS X (.While c body [] pos) Γ M k :=
  as_while (fun n => Wk (I n)) n hp h0 fun n Γ' M' ⟨Γ0, M0, h, l, l2⟩ => by
    obtain ⟨p, ⟨b, hb, i⟩, h1, h2⟩ := hs n Γ0 M0 h
    intro Hi H σ ok en Q q
    refine hb Hi H σ (ok.sub l2) (l.env en) Q fun b' M1 Hi' H' hh => ?_
    obtain ⟨rfl, rfl⟩ := hh
    refine q _ _ Hi' H' ⟨fun z => ?_, fun z => hk _ _ _ _ l (List.Sublist.refl _) (h2 fun y => by rw [i.mpr y] at z; cases z)⟩
    refine as_le l ((h1 (i.mp z)).mono ?_ (fun _ _ h => h) (fun _ _ h => h) ?_)
    · rintro Γ5 M5 ⟨Γ6, M6, ⟨m, hm, h6⟩, l6, l7⟩
      exact ⟨m, hm, Γ6, M6, h6, l6, l7⟩
    · rintro Γ5 M5 ⟨Γ6, M6, ⟨m, hm, h6⟩, l6, l7⟩
      exact ⟨m, hm, Γ6, M6, h6, l6, l7⟩
/-! ### lengths, items -/
inductive LenIs (M : Mem) : Val → Nat → Prop
  | iT (xs : List Int) : LenIs M (iT xs) xs.length
  | iL (xs : List Int) : LenIs M (iL xs) xs.length
  | mT {α : Type} (xs : List α) (g : α → Val) : LenIs M (.tup (xs.map g)) xs.length
  | mL {α : Type} (xs : List α) (g : α → Val) : LenIs M (.lst (xs.map g)) xs.length
  | t (xs : List Val) : LenIs M (.tup xs) xs.length
  | l (xs : List Val) : LenIs M (.lst xs) xs.length
  | cm (n : Nat) {α : Type} {p : Addr} {xs : List α} {g : α → Val} : M[n]? = some (p, .lst (xs.map g)) → LenIs M (.ptr p) xs.length
  | c (n : Nat) {p : Addr} {xs : List Val} : M[n]? = some (p, .lst xs) → LenIs M (.ptr p) xs.length
theorem av_lenN {n : Nat} (hm : X.mg "len" = none) (ha : aV X a Γ M d) (hs : LenIs M d n) (hg : Gl X "len" := by rfl) (hst : starEach [a] X.env = [(false, eval a X.env)] := by rfl) : aV X (.Call (.Name "len" p1) [a] [] pos) Γ M (.int n) := by
  cases hs with
  | iT xs => have h := av_len hm ha .t hg hst (pos := pos) (p1 := p1); rw [List.length_map] at h; exact h
  | iL xs => have h := av_len hm ha (.l (.self _)) hg hst (pos := pos) (p1 := p1); rw [List.length_map] at h; exact h
  | mT xs g => have h := av_len hm ha .t hg hst (pos := pos) (p1 := p1); rw [List.length_map] at h; exact h
  | mL xs g => have h := av_len hm ha (.l (.self _)) hg hst (pos := pos) (p1 := p1); rw [List.length_map] at h; exact h
  | t xs => exact av_len hm ha .t hg hst
  | l xs => exact av_len hm ha (.l (.self _)) hg hst
  | cm n h0 => have h := av_len hm ha (.l (.lst n h0)) hg hst (pos := pos) (p1 := p1); rw [List.length_map] at h; exact h
  | c n h0 => exact av_len hm ha (.l (.lst n h0)) hg hst
/-- d[i] -/
inductive IxIs (M : Mem) : Val → Int → Val → Prop
  | iT {xs : List Int} {i : Int} : 0 ≤ i → i < xs.length → IxIs M (iT xs) i (.int (at0 xs i))
  | iL {xs : List Int} {i : Int} : 0 ≤ i → i < xs.length → IxIs M (iL xs) i (.int (at0 xs i))
  | ci (n : Nat) {p : Addr} {xs : List Int} {i : Int} : M[n]? = some (p, .lst (xs.map .int)) → 0 ≤ i → i < xs.length → IxIs M (.ptr p) i (.int (at0 xs i))
  | t {xs : List Val} {i : Int} {d : Val} : atI xs i = some d → IxIs M (.tup xs) i d
  | l {xs : List Val} {i : Int} {d : Val} : atI xs i = some d → IxIs M (.lst xs) i d
  | c (n : Nat) {p : Addr} {xs : List Val} {i : Int} {d : Val} : M[n]? = some (p, .lst xs) → atI xs i = some d → IxIs M (.ptr p) i d
theorem av_ix {i : Int} (ha : aV X a Γ M d1) (hb : aV X b Γ M (.int i)) (h : IxIs M d1 i d) (hs : PlainIx b := by exact fun _ _ => rfl) : aV X (.Subscript a b pos) Γ M d := by
  cases h with
  | iT h0 h1 => exact av_ixT ha hb (atI_int h0 h1) hs
  | iL h0 h1 => exact av_ixL ha hb (.self _) (atI_int h0 h1) hs
  | ci n hm h0 h1 => exact av_ixL ha hb (.lst n hm) (atI_int h0 h1) hs
  | t h => exact av_ixT ha hb h hs
  | l h => exact av_ixL ha hb (.self _) h hs
  | c n hm h => exact av_ixL ha hb (.lst n hm) h hs
theorem av_max2 (hm : X.mg "max" = none) (hc : X.calm = true) (ha : aV X a Γ M (.int i)) (hb : aV X b Γ M (.int j)) (hg : Gl X "max" := by rfl)
    (hs : starEach [a, b] X.env = (false, eval a X.env) :: starEach [b] X.env := by rfl) (hs2 : starEach [b] X.env = (false, eval b X.env) :: starEach [] X.env := by rfl) (hpl : (backTo pos (starEach [b] X.env)).any (·.1) = false := by rfl) : aV X (.Call (.Name "max" p1) [a, b] [] pos) Γ M (.int (max i j)) := by
  refine ae_max2 hm hc ha hb ⟨?_, rfl⟩ hg hs hs2 hpl
  congr 1
  split <;> omega
theorem av_bl {bb : Bool} {j} : aV X (.Constant (.bool bb) j pos) Γ M (.bl bb) := ae_bl ⟨rfl, rfl⟩
theorem as_setv {ps : Pos} (n : Nat) (hN : X.N.Nodup) (he : aV X e Γ M d) (h : k.nx (Γ.set n (some d)) M) (hi : X.N[n]? = some x := by rfl) (hx : Loc X.env.scope x := by first | exact Or.inl rfl | exact Or.inr rfl)
    (hs : swapsWith e (some (.Name x ps)) pos.line X.env = pure false := by rfl) (hf : X.fn x = true ∨ X.env.scope.names.lookup x = some .local := by first | exact .inl rfl | exact .inr rfl | assumption) : aS X (.Assign [.Name x ps] e pos) Γ M k := as_set n hN (he.val h) hi hx hs hf
theorem as_retv (he : aV X e Γ M d) (h : k.rt d M) : aS X (.Return (some e) pos) Γ M k := as_ret (he.val h)
end
end Ab
namespace Ab
open PySem PySem.Spec PyProof.Rows L2
/-- what is still the built-in -/
structure Bt (mg : Str → Option Value) : Prop where
  isinstance : mg "isinstance" = none
  int : mg "int" = none
  bool : mg "bool" = none
  tuple : mg "tuple" = none
  len : mg "len" = none
  enumerate : mg "enumerate" = none
  range : mg "range" = none
  all : mg "all" = none
  list : mg "list" = none
  min : mg "min" = none
  max : mg "max" = none
  sum : mg "sum" = none
section
variable {X : Cx} {Γ : Gam} {M : Mem} {P : Val → Mem → Prop} {e a b c o : Expr} {es : List Expr} {pos p1 p2 apos kpos : Pos} {k : AK} {d d1 d2 d3 : Val} {i j l : Int} {x y m : Str} {n : Nat} {f C : Addr} {p q : Prop}
def CDivU (i j : Int) : Prop := CDiv i j ∨ CDivW i j
def CMulU (i j : Int) : Prop := CMul i j ∨ CMulX i j
theorem bv_mulU (hc : CMulU i j) (h : P (.int (i * j)) M) : BinV X .Mult M (.int i) (.int j) P := by
  rcases hc with hc | hc
  · exact ⟨_, op_mul, rv_I (f := fun i j => .int (i * j)) hc (fun _ _ => .int _) h⟩
  · exact ⟨_, op_mulX, rv_I (f := fun i j => .int (i * j)) hc (fun _ _ => .int _) h⟩
theorem bv_fdivU (hc : CDivU i j) (h : P (.int (i / j)) M) : BinV X .FloorDiv M (.int i) (.int j) P := by
  rcases hc with hc | hc
  · exact ⟨_, op_fdiv, rv_I (f := fun i j => .int (i / j)) hc (fun _ _ => .int _) h⟩
  · exact ⟨_, op_fdivW, rv_I (f := fun i j => .int (i / j)) hc (fun _ _ => .int _) h⟩
theorem av_mulU (ha : aV X a Γ M (.int i)) (hb : aV X b Γ M (.int j)) (hc : CMulU i j) : aV X (.BinOp a .Mult b pos) Γ M (.int (i * j)) := ae_bin (ha.val (hb.val (bv_mulU hc ⟨rfl, rfl⟩)))
theorem av_fdivU (ha : aV X a Γ M (.int i)) (hb : aV X b Γ M (.int j)) (hc : CDivU i j) : aV X (.BinOp a .FloorDiv b pos) Γ M (.int (i / j)) := ae_bin (ha.val (hb.val (bv_fdivU hc ⟨rfl, rfl⟩)))
theorem cdw {i j : Int} (h : 0 < j) (hb : j.natAbs < 2 ^ 8000) : CDivU i j := .inr (wide_div h hb (by decide) (by decide))
theorem cp_neL0 {ns : List Int} (v1 : Vw M d1 (.lst (ns.map .int))) (hu : X.A.units + 64 < cLine) : CP X .NotEq M d1 (.lst []) (ns ≠ []) := cp_neL (ms := []) v1 (.self _) hu
end
end Ab
namespace K13
open PySem L2 Ab Sm
/-! ### the law's draws -/
def stC (x t y : Int) : Cell := .lst [.int x, .int t, .int y]
/-- the state's cell stands at place i; its count is at most N -/
def St (M : Mem) (i : Nat) (a : Addr) (N : Nat) : Prop := ∃ x t y, M[i]? = some (a, stC x t y) ∧ 0 ≤ t ∧ t ≤ (N : Int)
/-- nothing but the state has changed, by c draws at most -/
def Dw (i : Nat) (a : Addr) (c : Nat) (M M' : Mem) : Prop := ∃ x t y x' t' y', M[i]? = some (a, stC x t y) ∧ M' = M.set i (a, stC x' t' y') ∧ (0 ≤ t → 0 ≤ t') ∧ t' ≤ t + (c : Int)
theorem stC_inj {x t y x' t' y' : Int} (h : stC x t y = stC x' t' y') : x = x' ∧ t = t' ∧ y = y' := by
  unfold stC at h
  injection h with h
  injection h with h
  injection h with h1 h
  injection h with h2 h
  injection h with h3 _
  injection h1 with h1
  injection h2 with h2
  injection h3 with h3
  exact ⟨h1, h2, h3⟩
theorem Dw.trans {M M' M'' : Mem} {i : Nat} {a : Addr} {c e : Nat} (d : Dw i a c M M') (d' : Dw i a e M' M'') : Dw i a (c + e) M M'' := by
  obtain ⟨x1, t1, y1, x2, t2, y2, hm1, rfl, g0, g1⟩ := d
  obtain ⟨x3, t3, y3, x4, t4, y4, hm3, rfl, g2, g3⟩ := d'
  rw [List.getElem?_set_self (List.getElem?_eq_some_iff.mp hm1).1] at hm3
  obtain ⟨_, rfl, _⟩ := stC_inj (Prod.mk.inj (Option.some.inj hm3)).2
  exact ⟨x1, t1, y1, x4, t4, y4, hm1, by rw [List.set_set], fun h => g2 (g0 h), by omega⟩
theorem Dw.mono {M M' : Mem} {i : Nat} {a : Addr} {c e : Nat} (d : Dw i a c M M') (h : c ≤ e) : Dw i a e M M' := by
  obtain ⟨x1, t1, y1, x2, t2, y2, hm1, e1, g0, g1⟩ := d
  exact ⟨x1, t1, y1, x2, t2, y2, hm1, e1, g0, by omega⟩
theorem St.refl {M : Mem} {i : Nat} {a : Addr} {N : Nat} (h : St M i a N) : Dw i a 0 M M := by
  obtain ⟨x, t, y, h, h0, h1⟩ := h
  refine ⟨x, t, y, x, t, y, h, ?_, fun h => h, by omega⟩
  apply List.ext_getElem?
  intro j
  by_cases hij : i = j
  · subst hij
    rw [List.getElem?_set_self (List.getElem?_eq_some_iff.mp h).1, h]
  · rw [List.getElem?_set_ne hij]
theorem St.cons {M : Mem} {i : Nat} {a : Addr} {N : Nat} {c : Addr × Cell} (h : St M i a N) : St (c :: M) (i + 1) a N := h
theorem Dw.cons {M M' : Mem} {i : Nat} {a : Addr} {e : Nat} {c : Addr × Cell} (h : Dw (i + 1) a e (c :: M) M') : ∃ M'', M' = c :: M'' ∧ Dw i a e M M'' := by
  obtain ⟨x1, t1, y1, x2, t2, y2, hm1, rfl, g⟩ := h
  exact ⟨_, rfl, x1, t1, y1, x2, t2, y2, hm1, rfl, g⟩
end K13
namespace K13
open PySem L2 Ab Sm
def sm (v : Int) : Prop := 0 ≤ v ∧ v < 100000
section
variable {P : Program} {w : World} {K : PySem.W.Frag} {mg : Str → Option Value} {base : Heap} {k : Nat} {f C : Addr}
/-! ### _law_sequence -/
structure Seq (lo : Int) (s : Stm) : Prop where
  l1 : s.1.length ≤ 5
  l2 : s.2.length ∣ 6
  ne : s.2 ≠ []
  a1 : ∀ v ∈ s.1, sm v
  a2 : ∀ v ∈ s.2, sm v
  lo : lo ≤ item s 0
theorem map_set0 {xs : List Int} {v : Int} : (xs.map Val.int).set 0 (.int v) = (xs.set 0 v).map Val.int := by rw [List.map_set]
theorem set0_mem {xs : List Int} {v u : Int} (h : u ∈ xs.set 0 v) : u = v ∨ u ∈ xs := by
  rcases List.mem_or_eq_of_mem_set h with h | h
  · exact .inr h
  · exact .inl h
/-! ### _law_indices -/
end
end K13
namespace K13
open PySem L2 Ab Sm
/-! ### what combinations keep -/
structure Bs (b : Int) (S : Sc) : Prop where
  g : GoodS S
  p1 : P6 S.sp
  p2 : P6 S.lv
  b1 : ∀ i, item S.sp i ≤ b
  b2 : ∀ i, item S.lv i ≤ b
theorem Bs.n1 {b : Int} {S : Sc} (h : Bs b S) (i : Nat) : 0 ≤ item S.sp i := (h.g.ls.item i).1
theorem Bs.n2 {b : Int} {S : Sc} (h : Bs b S) (i : Nat) : 0 ≤ item S.lv i := (h.g.ll.item i).1
theorem Bs.mono {b c : Int} {S : Sc} (h : Bs b S) (hc : b ≤ c) : Bs c S := ⟨h.g, h.p1, h.p2, fun i => Int.le_trans (h.b1 i) hc, fun i => Int.le_trans (h.b2 i) hc⟩
/-! ### the methods, as the law calls them -/
section
variable {P : Program} {w : World} {K : PySem.W.Frag} {mg : Str → Option Value} {base : Heap} {k : Nat} {f C : Addr}
/-! ### _law_columns, _law_items_right -/
/-- the three combinations of Ss -/
structure Three (Ss : List Sc) (A L H : Sc) : Prop where
  ne : Ss ≠ []
  ln : Ss.length ≤ 4
  bs : ∀ S ∈ Ss, Bs 99999 S
  ar : ∀ S ∈ Ss, ∀ S' ∈ Ss, S.a = S'.a
  gA : GoodS A
  gL : GoodS L
  gH : GoodS H
  aA : ∀ S ∈ Ss, A.a = S.a
  aL : ∀ S ∈ Ss, L.a = S.a
  aH : ∀ S ∈ Ss, H.a = S.a
  sA : ∀ i, item A.sp i = (Ss.map fun S => item S.sp i).sum
  lA : ∀ i, item A.lv i = (Ss.map fun S => item S.lv i).sum
  sL : ∀ i, item L.sp i = minL (Ss.map fun S => item S.sp i)
  lL : ∀ i, item L.lv i = minL (Ss.map fun S => item S.lv i)
  sH : ∀ i, item H.sp i = maxL (Ss.map fun S => item S.sp i)
  lH : ∀ i, item H.lv i = maxL (Ss.map fun S => item S.lv i)
end
end K13
namespace K13
open PySem L2 Ab Sm
theorem sum_app {xs : List Int} {x : Int} : (xs ++ [x]).sum = xs.sum + x := by simp
theorem op_rot {wd : Wd} {x : Int} {xs : List Int} : opV wd (x :: xs) = opV wd (xs ++ [x]) := by
  cases wd with
  | sum =>
    show (x :: xs).sum = (xs ++ [x]).sum
    rw [sum_app, List.sum_cons]
    omega
  | least =>
    obtain ⟨a1, a2⟩ := minL_spec xs x
    refine min_is (ns := xs ++ [x]) ?_ fun z hz => a2 z ?_
    · rcases List.mem_cons.mp a1 with q | q
      · exact List.mem_append_right _ (List.mem_singleton.mpr q)
      · exact List.mem_append_left _ q
    · rcases List.mem_append.mp hz with q | q
      · exact List.mem_cons_of_mem _ q
      · rw [List.mem_singleton.mp q]
        exact List.mem_cons_self
  | greatest =>
    obtain ⟨a1, a2⟩ := maxL_spec xs x
    refine max_is (ns := xs ++ [x]) ?_ fun z hz => a2 z ?_
    · rcases List.mem_cons.mp a1 with q | q
      · exact List.mem_append_right _ (List.mem_singleton.mpr q)
      · exact List.mem_append_left _ q
    · rcases List.mem_append.mp hz with q | q
      · exact List.mem_cons_of_mem _ q
      · rw [List.mem_singleton.mp q]
        exact List.mem_cons_self
/-- two combinations of the same schedules, in another order -/
theorem Three.same {Ss : List Sc} {T : Sc} {A L H A' L' H' : Sc} (h : Three (Ss ++ [T]) A L H) (h' : Three (T :: Ss) A' L' H') : A = A' ∧ L = L' ∧ H = H' := by
  have m1 : T ∈ Ss ++ [T] := List.mem_append_right _ List.mem_cons_self
  have m2 : T ∈ T :: Ss := List.mem_cons_self
  refine ⟨h.gA.ext h'.gA ((h.aA T m1).trans (h'.aA T m2).symm) (fun i => ?_) fun i => ?_, h.gL.ext h'.gL ((h.aL T m1).trans (h'.aL T m2).symm) (fun i => ?_) fun i => ?_, h.gH.ext h'.gH ((h.aH T m1).trans (h'.aH T m2).symm) (fun i => ?_) fun i => ?_⟩
  · rw [h.sA, h'.sA, List.map_append]
    exact (op_rot (wd := .sum)).symm
  · rw [h.lA, h'.lA, List.map_append]
    exact (op_rot (wd := .sum)).symm
  · rw [h.sL, h'.sL, List.map_append]
    exact (op_rot (wd := .least)).symm
  · rw [h.lL, h'.lL, List.map_append]
    exact (op_rot (wd := .least)).symm
  · rw [h.sH, h'.sH, List.map_append]
    exact (op_rot (wd := .greatest)).symm
  · rw [h.lH, h'.lH, List.map_append]
    exact (op_rot (wd := .greatest)).symm
theorem Three.one {S : Sc} (h : Bs 99999 S) : Three [S] S S S := by
  have ar : ∀ T ∈ [S], ∀ T' ∈ [S], T.a = T'.a := fun T hT T' hT' => by rw [List.mem_singleton.mp hT, List.mem_singleton.mp hT']
  have a1 : ∀ T ∈ [S], S.a = T.a := fun T hT => by rw [List.mem_singleton.mp hT]
  exact ⟨List.cons_ne_nil _ _, by simp, fun T hT => by rw [List.mem_singleton.mp hT]; exact h, ar, h.g, h.g, h.g, a1, a1, a1, fun i => by simp, fun i => by simp, fun i => rfl, fun i => rfl, fun i => rfl, fun i => rfl⟩
section
variable {P : Program} {w : World} {K : PySem.W.Frag} {mg : Str → Option Value} {base : Heap} {k : Nat} {f C : Addr}
abbrev OwnS (P : Program) (w : World) (K : PySem.W.Frag) (mg : Str → Option Value) (base : Heap) (C fq : Addr) : Prop := OwnE P w K mg base 1 C fq goodF relS
end
end K13
namespace Sm
/-! ### the place of a leaf: b leaves stand before it -/
def smN (f : Nat → Int) : Nat → Int
  | 0 => 0
  | n + 1 => smN f n + f n
theorem smN_congr {f g : Nat → Int} {n : Nat} (h : ∀ j, j < n → f j = g j) : smN f n = smN g n := by
  induction n with
  | zero => rfl
  | succ n ih => rw [smN, smN, ih fun j hj => h j (by omega), h n (by omega)]
theorem smN_add {f g : Nat → Int} {n : Nat} : smN (fun j => f j + g j) n = smN f n + smN g n := by
  induction n with
  | zero => rfl
  | succ n ih => rw [smN, smN, smN, ih]; omega
theorem smN_mul {f : Nat → Int} {m : Int} {n : Nat} : smN (fun j => m * f j) n = m * smN f n := by
  induction n with
  | zero => simp [smN]
  | succ n ih => rw [smN, smN, ih, Int.mul_add]
theorem smN_le {f g : Nat → Int} {n : Nat} (h : ∀ j, j < n → f j ≤ g j) : smN f n ≤ smN g n := by
  induction n with
  | zero => exact Int.le_refl _
  | succ n ih =>
    have h1 := ih fun j hj => h j (by omega)
    have h2 := h n (by omega)
    rw [smN, smN]
    omega
theorem smN_ext {f : Nat → Int} {n m : Nat} (hm : n ≤ m) (h : ∀ j, n ≤ j → f j = 0) : smN f m = smN f n := by
  induction m with
  | zero =>
    have : n = 0 := by omega
    rw [this]
  | succ m ih =>
    rcases Nat.lt_or_ge m n with z | z
    · have : n = m + 1 := by omega
      rw [this]
    · rw [smN, ih z, h m z, Int.add_zero]
theorem smN_head {f : Nat → Int} {n : Nat} : smN f (n + 1) = f 0 + smN (fun j => f (j + 1)) n := by
  induction n with
  | zero => simp [smN]
  | succ n ih => rw [smN, ih, smN]; omega
def plT (k : Nat) (s l : Nat → Int) (b h : Nat) : Int := (if k ^ h ≤ b then s (h + 1) else 0) + l (h + 1) * ((b / k ^ (h + 1) : Nat) : Int)
def place (k : Nat) (s l : Nat → Int) (b : Nat) : Int := s 0 + (b : Int) * l 0 + smN (plT k s l b) b
theorem lt_pow {k : Nat} (hk : 2 ≤ k) (b : Nat) : b < k ^ b := Nat.lt_of_lt_of_le Nat.lt_two_pow_self (Nat.pow_le_pow_left hk b)
theorem plT_zero {k : Nat} {s l : Nat → Int} {b h : Nat} (hb : b < k ^ h) (hk : 2 ≤ k) : plT k s l b h = 0 := by
  have h2 : b < k ^ (h + 1) := Nat.lt_of_lt_of_le hb (Nat.pow_le_pow_right (by omega) (by omega))
  rw [plT, if_neg (by omega), Nat.div_eq_of_lt h2]
  simp
theorem place_N {k : Nat} {s l : Nat → Int} {b N : Nat} (hk : 2 ≤ k) (hN : b < k ^ N) : place k s l b = s 0 + (b : Int) * l 0 + smN (plT k s l b) N := by
  have key : ∀ m, b < k ^ m → ∀ j, m ≤ j → plT k s l b j = 0 := fun m hm j hj => plT_zero (Nat.lt_of_lt_of_le hm (Nat.pow_le_pow_right (by omega) hj)) hk
  rw [place]
  congr 1
  rcases Nat.le_total N b with z | z
  · exact smN_ext z (key N hN)
  · exact (smN_ext z (key b (lt_pow hk b))).symm
theorem place_zero {k : Nat} {s l : Nat → Int} : place k s l 0 = s 0 := by simp [place, smN]
/-! ### leaf by leaf -/
theorem dvd_div {m b : Nat} (hm : 0 < m) (hb : 0 < b) (h : m ∣ b) : b / m = (b - 1) / m + 1 := by
  obtain ⟨c, rfl⟩ := h
  have hc : 0 < c := by
    rcases Nat.eq_zero_or_pos c with z | z
    · rw [z] at hb; simp at hb
    · exact z
  obtain ⟨c, rfl⟩ : ∃ d, c = d + 1 := ⟨c - 1, by omega⟩
  rw [Nat.mul_div_cancel_left _ hm]
  have : m * (c + 1) - 1 = m * c + (m - 1) := by rw [Nat.mul_add, Nat.mul_one]; omega
  rw [this, Nat.mul_add_div hm, Nat.div_eq_of_lt (by omega)]
theorem ndvd_div {m b : Nat} (hm : 0 < m) (h : ¬ m ∣ b + 1) : (b + 1) / m = b / m := by
  rw [Nat.succ_div, if_neg h, Nat.add_zero]
end Sm
namespace K13
open PySem L2 Ab Sm
section
variable {P : Program} {w : World} {K : PySem.W.Frag} {mg : Str → Option Value} {base : Heap} {k : Nat} {f C : Addr}
/-! ### properties -/
def aSpi (C : Addr) : ASp := fun ds M R => ∃ (S : Sc), ds = [scV C S] ∧ R (stV S.sp) M
def aLev (C : Addr) : ASp := fun ds M R => ∃ (S : Sc), ds = [scV C S] ∧ R (stV S.lv) M
theorem b_spine (T : Rs K mg C) : BodyOk P w K mg base k f n_Schedule_spine "Schedule.spine" (defScope c_Schedule_spine) (defBody c_Schedule_spine) (aSpi C) := by
  rintro cdv A outer s0 H E hr ds M R ⟨S, rfl, hp⟩
  exact as_one (as_ret ((av_s T (v_ 0)).val (.ok hp)))
theorem b_levels (T : Rs K mg C) : BodyOk P w K mg base k f n_Schedule_levels "Schedule.levels" (defScope c_Schedule_levels) (defBody c_Schedule_levels) (aLev C) := by
  rintro cdv A outer s0 H E hr ds M R ⟨S, rfl, hp⟩
  exact as_one (as_ret ((av_l T (v_ 0)).val (.ok hp)))
structure PrA (P : Program) (w : World) (K : PySem.W.Frag) (mg : Str → Option Value) (base : Heap) (C : Addr) : Prop where
  ex : ∃ p g, PropOf K C "arity" p g ∧ FX P w K mg base 1 g fun ds _ => aAri C ds
structure PrS (P : Program) (w : World) (K : PySem.W.Frag) (mg : Str → Option Value) (base : Heap) (C : Addr) : Prop where
  ex : ∃ p g, PropOf K C "spine" p g ∧ FX P w K mg base 1 g fun ds _ => aSpi C ds
structure PrL (P : Program) (w : World) (K : PySem.W.Frag) (mg : Str → Option Value) (base : Heap) (C : Addr) : Prop where
  ex : ∃ p g, PropOf K C "levels" p g ∧ FX P w K mg base 1 g fun ds _ => aLev C ds
theorem av_arity {X : Cx} {Γ : Gam} {M : Mem} {o : Expr} {pos : Pos} {m : Nat} {S : Sc} (T : Rs X.K X.mg C) (Q : PrA X.prog X.w X.K X.mg X.base C) (hr : Rm m X.A) (hm : 2 ≤ m) (ho : aV X o Γ M (scV C S)) (hb : attributeBase o "arity" X.env (eval o X.env) = eval o X.env := by rfl) : aV X (.Attribute o "arity" pos) Γ M (.int S.a) := by
  obtain ⟨p, g, hp, F⟩ := Q.ex
  exact ae_prop T.cl hp F (hr.mono hm) ho (.im _) ⟨S, rfl, rfl, rfl⟩ hb
/-! ### is_prunable, pruned -/
structure LmE (mg : Str → Option Value) : Prop where
  FRONT_LIMIT : ∃ t, mg "FRONT_LIMIT" = some (.int 12 t)
  LOOP_LIMIT : ∃ t, mg "LOOP_LIMIT" = some (.int 6 t)
  LABEL_LIMIT : ∃ t, mg "LABEL_LIMIT" = some (.int 1000000 t)
  ARITY_LIMIT : ∃ t, mg "ARITY_LIMIT" = some (.int 9 t)
end
end K13
namespace K13
open PySem L2 Ab Sm
theorem Seq.lim {lo : Int} {s : Stm} (h : Seq lo s) : Lim s := ⟨by have := h.l1; omega, Nat.le_of_dvd (by decide) h.l2, h.ne, fun v hv => ⟨(h.a1 v hv).1, by have := (h.a1 v hv).2; omega⟩, fun v hv => ⟨(h.a2 v hv).1, by have := (h.a2 v hv).2; omega⟩⟩
theorem Seq.bd {lo : Int} {s : Stm} (h : Seq lo s) (i : Nat) : item s i ≤ 99999 := by
  rcases item_mem h.ne i with z | z
  · have := (h.a1 _ z).2
    omega
  · have := (h.a2 _ z).2
    omega
theorem seq_bs {a : Int} {s l : Stm} (a2 : 2 ≤ a) (a9 : a ≤ 9) (hs : Seq 0 s) (hl : Seq 1 l) : Bs 99999 ⟨a, nf s, nf l⟩ := by
  have n1 := nf_spec hs.ne
  have n2 := nf_spec hl.ne
  have hs1 := hs.l1
  have hl1 := hl.l1
  have q1 : Lim (nf s) := lim_nf hs.ne hs.lim.l1 hs.lim.l2 hs.lim.a1 hs.lim.a2
  have q2 : Lim (nf l) := lim_nf hl.ne hl.lim.l1 hl.lim.l2 hl.lim.a1 hl.lim.a2
  have h0 := hl.lo
  refine ⟨good_nf a2 a9 hs.ne hl.ne q1 q2 (by omega), fun i hi => ?_, fun i hi => ?_, fun i => ?_, fun i => ?_⟩
  · show item (nf s) (i + 6) = item (nf s) i
    rw [n1.it, n1.it]
    exact item_per hs.l2 (by omega)
  · show item (nf l) (i + 6) = item (nf l) i
    rw [n2.it, n2.it]
    exact item_per hl.l2 (by omega)
  · show item (nf s) i ≤ 99999
    rw [n1.it]
    exact hs.bd i
  · show item (nf l) i ≤ 99999
    rw [n2.it]
    exact hl.bd i
end K13
namespace Ab
open PySem PySem.Spec PyProof.Rows L2
section
variable {X : Cx} {Γ : Gam} {M : Mem} {P : Val → Mem → Prop} {e a b c o : Expr} {es : List Expr} {pos p1 p2 apos kpos : Pos} {k : AK} {d d1 d2 d3 : Val} {i j l : Int} {x y m f : Str} {n : Nat} {C : Addr} {p q : Prop}
/-- loops at a def's end: slots are forgotten, cells are not -/
abbrev Wl (I : Gam → Mem → Prop) : Gam → Mem → Prop := fun Γ M => ∃ Γ', I Γ' M ∧ Le Γ' Γ
theorem as_whileL {body : List Stmt} (I : Nat → Gam → Mem → Prop) (n : Nat) (hp : PassesOwn (model X.prog X.w) X.A X.env X.xe) (h0 : Wl (I n) Γ M)
    (hs : ∀ n Γ M, I n Γ M → ∃ p, TP X c Γ M p ∧ (p → aSs X body Γ M { k with nx := Wl fun Γ' M' => ∃ m, m < n ∧ I m Γ' M', ct := Wl fun Γ' M' => ∃ m, m < n ∧ I m Γ' M', bk := k.nx }) ∧ (¬ p → k.nx Γ M))
    (hk : ∀ Γ Γ' M, Le Γ' Γ → k.nx Γ' M → k.nx Γ M := by intro _ _ _ l h; first | exact h | exact as_le l h) : aS X (.While c body [] pos) Γ M k :=
  as_while (fun n => Wl (I n)) n hp h0 fun n Γ' M' ⟨Γ0, h, l⟩ => by
    obtain ⟨p, ⟨b, hb, i⟩, h1, h2⟩ := hs n Γ0 M' h
    intro Hi H σ ok en Q q
    refine hb Hi H σ ok (l.env en) Q fun b' M1 Hi' H' hh => ?_
    obtain ⟨rfl, rfl⟩ := hh
    refine q _ _ Hi' H' ⟨fun z => ?_, fun z => hk _ _ _ l (h2 fun y => by rw [i.mpr y] at z; cases z)⟩
    refine as_le l ((h1 (i.mp z)).mono ?_ (fun _ _ h => h) (fun _ _ h => h) ?_)
    · rintro Γ5 M5 ⟨Γ6, ⟨m, hm, h6⟩, l6⟩
      exact ⟨m, hm, Γ6, h6, l6⟩
    · rintro Γ5 M5 ⟨Γ6, ⟨m, hm, h6⟩, l6⟩
      exact ⟨m, hm, Γ6, h6, l6⟩
theorem ae_mt1 {n q : Nat} {C : Addr} {m : Str} {s : ASp} {fs : List (Str × Val)} {pl : Sem Bool} (c : Cls X.K C) (F : ∃ f, Meth X.K C m f ∧ FX X.prog X.w X.K X.mg X.base n f fun ds _ => s ds) (hr : Rm q X.A) (hq : n ≤ q) (ho : aV X o Γ M d) (hob : Ob M C d fs) (h : aE X e Γ M fun x M1 => s [d, x] M1 P) (hl : fs.lookup m = none := by rfl)
    (hst : starEach [e] X.env = (false, eval e X.env) :: starEach [] X.env := by rfl)
    (ht : eval (.Call (.Attribute o m apos) [e] [] pos) X.env = (do
      let ov ← eval o X.env
      standAt apos.atName
      let (f, first) ← holding [ov] (getMethod ov m pl)
      callWith pos f first (backTo pos (starEach [e] X.env)) (backToKw pos (keywordEach [] X.env))) := by rfl) : aE X (.Call (.Attribute o m apos) [e] [] pos) Γ M P := by
  obtain ⟨f, mt, F⟩ := F
  exact ae_meth c mt F (hr.mono hq) ho hob hl (aa_cons (h.mono fun x M1 hx => aa_nil (ak_nil ⟨rfl, hx⟩)) hst) rfl rfl hst (by rw [hst]; rfl) ht
/-- cells in another order -/
theorem as_perm {M' : Mem} {s : List Stmt} (l : M'.Perm M) (h : aSs X s Γ M' k) : aSs X s Γ M k := fun Hi H σ ok en D q => h Hi H σ (ok.perm l) en D q
theorem ae_perm (h : aE X e Γ M fun d M1 => ∃ M2, M2.Perm M1 ∧ P d M2) : aE X e Γ M P := fun Hi H σ ok en Q q => h Hi H σ ok en Q fun d M1 v Hi' H' ⟨M2, hp, hP⟩ s ok' r => q d M2 v Hi' H' hP s (ok'.perm hp) r
end
end Ab
namespace Sm
/-! ### counting nodes of one height: la 0 is the size of the whole subtree below such a node, la j (j > 0) the labels of a node j higher; sp j the spine items above; own the node's own labels; a0 the first place; eh the end of the stage of the spine node -/
structure Ct where
  k : Nat
  la : Nat → Int
  sp : Nat → Int
  own : Int
  a0 : Int
  eh : Int
structure CtOk (c : Ct) : Prop where
  k2 : 2 ≤ c.k
  la : ∀ j, 0 ≤ c.la j
  l0 : 0 < c.la 0
  sp : ∀ j, 0 ≤ c.sp j
  o0 : 0 ≤ c.own
  o1 : c.own ≤ c.la 0
  a0 : 0 ≤ c.a0
  ae : c.a0 ≤ c.eh
def zz (c : Ct) : Nat → Int
  | 0 => c.la 0
  | t + 1 => c.la (t + 1) + c.k * zz c t
def en (c : Ct) : Nat → Int
  | 0 => c.eh
  | t + 1 => en c t + c.sp t + (c.k - 1) * zz c t
/-- quotients up to t -/
def fq (c : Ct) (t i : Nat) : Int := smN (fun j => c.la j * ((i / c.k ^ j : Nat) : Int)) (t + 1)
def qq (c : Ct) (t i : Nat) : Int := c.own + smN (fun j => c.la (j + 1)) t + fq c t i
/-- the place of the node with b nodes before it -/
def pp (c : Ct) (b : Nat) : Int := if b = 0 then c.a0 else c.eh - c.la 0 + c.own + smN (fun j => if c.k ^ j ≤ b then c.sp j else 0) b + fq c b b
section
variable {c : Ct}
theorem zz_pos (h : CtOk c) : ∀ t, 0 < zz c t
  | 0 => h.l0
  | t + 1 => by
    have h1 := zz_pos h t
    have h2 := h.la (t + 1)
    have h3 : (0 : Int) < c.k * zz c t := Int.mul_pos (by have := h.k2; omega) h1
    rw [zz]
    omega
theorem fq_digit (h : CtOk c) {t d i : Nat} (hi : i < c.k ^ t) : fq c t (d * c.k ^ t + i) = d * zz c t + fq c t i := by
  have hk := h.k2
  have key : ∀ s, s ≤ t → smN (fun j => c.la j * (((d * c.k ^ t + i) / c.k ^ j : Nat) : Int)) (s + 1) = d * (c.k : Int) ^ (t - s) * zz c s + smN (fun j => c.la j * ((i / c.k ^ j : Nat) : Int)) (s + 1) := by
    intro s
    induction s with
    | zero =>
      intro _
      simp only [smN, zz, Nat.pow_zero, Nat.div_one, Nat.sub_zero]
      rw [Int.natCast_add, Int.natCast_mul, Int.natCast_pow, Int.mul_add, Int.mul_comm (c.la 0) ((d : Int) * _)]
      omega
    | succ s ih =>
      intro hs
      rw [smN, ih (by omega), smN.eq_def _ (s + 1 + 1)]
      simp only
      have e1 : (d * c.k ^ t + i) / c.k ^ (s + 1) = d * c.k ^ (t - (s + 1)) + i / c.k ^ (s + 1) := by
        have : d * c.k ^ t = c.k ^ (s + 1) * (d * c.k ^ (t - (s + 1))) := by
          rw [Nat.mul_left_comm, ← Nat.pow_add, show s + 1 + (t - (s + 1)) = t by omega]
        rw [this, Nat.mul_add_div (Nat.pow_pos (by omega))]
      have e2 : (c.k : Int) ^ (t - s) = c.k ^ (t - (s + 1)) * c.k := by
        rw [show t - s = t - (s + 1) + 1 by omega, Int.pow_succ]
      rw [e1, zz, e2, Int.natCast_add, Int.natCast_mul, Int.natCast_pow]
      generalize (c.k : Int) ^ (t - (s + 1)) = K
      generalize ((i / c.k ^ (s + 1) : Nat) : Int) = I
      generalize smN (fun j => c.la j * ((i / c.k ^ j : Nat) : Int)) (s + 1) = Z
      rw [Int.mul_add, Int.mul_add, ← Int.mul_assoc (d : Int) K (c.k : Int), Int.mul_assoc ((d : Int) * K) (c.k : Int) (zz c s), Int.mul_comm (c.la (s + 1)) ((d : Int) * K)]
      omega
  have := key t (Nat.le_refl _)
  rw [Nat.sub_self, Int.pow_zero, Int.mul_one] at this
  exact this
theorem fq_succ {t i : Nat} (hi : i < c.k ^ (t + 1)) : fq c (t + 1) i = fq c t i := by
  unfold fq
  rw [smN, Nat.div_eq_of_lt hi]
  simp
theorem qq_digit (h : CtOk c) {t d i : Nat} (hd : d < c.k) (hi : i < c.k ^ t) : qq c (t + 1) (d * c.k ^ t + i) = c.la (t + 1) + d * zz c t + qq c t i := by
  have hlt : d * c.k ^ t + i < c.k ^ (t + 1) := by
    rw [Nat.pow_succ, Nat.mul_comm (c.k ^ t)]
    have : (d + 1) * c.k ^ t ≤ c.k * c.k ^ t := Nat.mul_le_mul_right _ hd
    rw [Nat.succ_mul] at this
    omega
  unfold qq
  rw [fq_succ hlt, fq_digit h hi, smN]
  omega
theorem fq_nn (h : CtOk c) (t i : Nat) : 0 ≤ fq c t i := by
  have : smN (fun _ => 0) (t + 1) ≤ fq c t i := smN_le fun j _ => Int.mul_nonneg (h.la j) (Int.natCast_nonneg _)
  have e : ∀ n, smN (fun _ => 0) n = 0 := fun n => by
    induction n with
    | zero => rfl
    | succ n ih => rw [smN, ih]; rfl
  rw [e] at this
  exact this
theorem sm_nn {f : Nat → Int} (h : ∀ j, 0 ≤ f j) : ∀ n, 0 ≤ smN f n
  | 0 => Int.le_refl _
  | n + 1 => by
    have := sm_nn h n
    have := h n
    rw [smN]
    omega
theorem qq_nn (h : CtOk c) (t i : Nat) : 0 ≤ qq c t i := by
  have h1 := h.o0
  have h2 := fq_nn h t i
  have h3 := sm_nn (f := fun j => c.la (j + 1)) (fun j => h.la _) t
  unfold qq
  omega
theorem qq_le (h : CtOk c) : ∀ (t i : Nat), i < c.k ^ t → qq c t i ≤ zz c t
  | 0, i, hi => by
    have : i = 0 := by simpa using hi
    subst this
    have := h.o1
    simp [qq, fq, smN, zz]
    omega
  | t + 1, i, hi => by
    have hp : 0 < c.k ^ t := Nat.pow_pos (by have := h.k2; omega)
    have e : i = (i / c.k ^ t) * c.k ^ t + i % c.k ^ t := by rw [Nat.mul_comm]; exact (Nat.div_add_mod i _).symm
    have hd : i / c.k ^ t < c.k := Nat.div_lt_of_lt_mul (by rw [← Nat.pow_succ]; exact hi)
    have hm : i % c.k ^ t < c.k ^ t := Nat.mod_lt _ hp
    have ih := qq_le h t _ hm
    rw [e, qq_digit h hd hm, zz]
    have hz := zz_pos h t
    have : ((i / c.k ^ t : Nat) : Int) * zz c t ≤ (c.k - 1) * zz c t := Int.mul_le_mul_of_nonneg_right (by omega) (by omega)
    have e2 : ((c.k : Int) - 1) * zz c t = c.k * zz c t - zz c t := by rw [Int.sub_mul]; omega
    omega
/-- the search inside a whole tree of t steps -/
def ins (c : Ct) : Nat → Int → Int
  | 0, off => if c.own ≤ off then 1 else 0
  | t + 1, off => if off < c.la (t + 1) then 0 else (off - c.la (t + 1)) / zz c t * ((c.k ^ t : Nat) : Int) + ins c t ((off - c.la (t + 1)) % zz c t)
/-- ends against sizes -/
theorem en_zz (h : CtOk c) : ∀ t, c.eh - c.la 0 + smN c.sp t + zz c t = en c t + smN (fun j => c.la (j + 1)) t
  | 0 => by simp [smN, zz, en]
  | t + 1 => by
    have ih := en_zz h t
    rw [smN, smN, zz, en]
    have : ((c.k : Int) - 1) * zz c t = c.k * zz c t - zz c t := by rw [Int.sub_mul]; omega
    omega
/-- a place by its stage -/
theorem pp_stage (h : CtOk c) {t d i : Nat} (d1 : 1 ≤ d) (hd : d < c.k) (hi : i < c.k ^ t) : pp c (d * c.k ^ t + i) = en c t + c.sp t + ((d : Int) - 1) * zz c t + qq c t i := by
  have hk := h.k2
  have hp : 0 < c.k ^ t := Nat.pow_pos (by omega)
  have hge : c.k ^ t ≤ d * c.k ^ t := Nat.le_mul_of_pos_left _ d1
  have hlt : d * c.k ^ t + i < c.k ^ (t + 1) := by
    rw [Nat.pow_succ, Nat.mul_comm (c.k ^ t)]
    have : (d + 1) * c.k ^ t ≤ c.k * c.k ^ t := Nat.mul_le_mul_right _ hd
    rw [Nat.succ_mul] at this
    omega
  have hb := lt_pow hk (d * c.k ^ t + i)
  unfold pp
  rw [if_neg (by omega)]
  have ht : t < d * c.k ^ t + i := Nat.lt_of_lt_of_le (lt_pow hk t) (by omega)
  have e1 : smN (fun j => if c.k ^ j ≤ d * c.k ^ t + i then c.sp j else 0) (d * c.k ^ t + i) = smN c.sp (t + 1) := by
    rw [smN_ext (n := t + 1) (by omega) fun j hj => if_neg (by
      have := Nat.pow_le_pow_right (n := c.k) (by omega) hj
      omega)]
    exact smN_congr fun j hj => if_pos (Nat.le_trans (Nat.pow_le_pow_right (by omega) (by omega)) (Nat.le_trans hge (by omega)))
  have e2 : fq c (d * c.k ^ t + i) (d * c.k ^ t + i) = fq c t (d * c.k ^ t + i) := by
    unfold fq
    refine smN_ext (by omega) fun j hj => ?_
    have := Nat.pow_le_pow_right (n := c.k) (by omega) hj
    rw [Nat.div_eq_of_lt (by omega)]
    simp
  rw [e1, e2, fq_digit h hi]
  have e3 := en_zz h t
  have e4 : ((d : Int) - 1) * zz c t = d * zz c t - zz c t := by rw [Int.sub_mul]; omega
  rw [smN]
  unfold qq
  omega
theorem en_mono (h : CtOk c) {t u : Nat} (hu : t ≤ u) : en c t ≤ en c u := by
  induction u with
  | zero =>
    have : t = 0 := by omega
    rw [this]
    exact Int.le_refl _
  | succ u ih =>
    rcases Nat.lt_or_ge u t with z | z
    · have : t = u + 1 := by omega
      rw [this]
      exact Int.le_refl _
    · have := ih z
      have h1 := h.sp u
      have h2 : 0 ≤ ((c.k : Int) - 1) * zz c u := Int.mul_nonneg (by have := h.k2; omega) (by have := zz_pos h u; omega)
      rw [en]
      omega
/-- the stage of a node -/
theorem stage_of {k : Nat} (hk : 2 ≤ k) : ∀ {b : Nat}, 0 < b → ∃ t d i, b = d * k ^ t + i ∧ 1 ≤ d ∧ d < k ∧ i < k ^ t := by
  intro b hb
  have : ∃ t, b < k ^ (t + 1) := ⟨b, Nat.lt_of_lt_of_le (lt_pow hk b) (Nat.pow_le_pow_right (by omega) (by omega))⟩
  have key : ∀ N, (b < k ^ (N + 1)) → ∃ t, k ^ t ≤ b ∧ b < k ^ (t + 1) := by
    intro N
    induction N with
    | zero => exact fun h => ⟨0, by rw [Nat.pow_zero]; exact hb, h⟩
    | succ N ih =>
      intro h
      rcases Nat.lt_or_ge b (k ^ (N + 1)) with z | z
      · exact ih z
      · exact ⟨N + 1, z, h⟩
  obtain ⟨N, hN⟩ := this
  obtain ⟨t, h1, h2⟩ := key N hN
  have hp : 0 < k ^ t := Nat.pow_pos (by omega)
  refine ⟨t, b / k ^ t, b % k ^ t, by rw [Nat.mul_comm]; exact (Nat.div_add_mod b _).symm, Nat.div_pos h1 hp, Nat.div_lt_of_lt_mul (by rw [← Nat.pow_succ]; exact h2), Nat.mod_lt _ hp⟩
theorem pp_ge (h : CtOk c) {t d i : Nat} (d1 : 1 ≤ d) (hd : d < c.k) (hi : i < c.k ^ t) : en c t ≤ pp c (d * c.k ^ t + i) ∧ pp c (d * c.k ^ t + i) ≤ en c (t + 1) := by
  rw [pp_stage h d1 hd hi, en]
  have h1 := h.sp t
  have hz := zz_pos h t
  have q0 := qq_nn h t i
  have q1 := qq_le h t i hi
  have e1 : 0 ≤ ((d : Int) - 1) * zz c t := Int.mul_nonneg (by omega) (by omega)
  have e2 : (d : Int) * zz c t ≤ ((c.k : Int) - 1) * zz c t := Int.mul_le_mul_of_nonneg_right (by omega) (by omega)
  have e4 : ((d : Int) - 1) * zz c t = d * zz c t - zz c t := by rw [Int.sub_mul]; omega
  omega
/-- what is counted is one number -/
theorem cnt_uniq {v u : Int} (v0 : 0 ≤ v) (u0 : 0 ≤ u) (h : ∀ b : Nat, (b : Int) < v ↔ (b : Int) < u) : v = u := by
  obtain ⟨a, rfl⟩ := Int.eq_ofNat_of_zero_le v0
  obtain ⟨b, rfl⟩ := Int.eq_ofNat_of_zero_le u0
  have h1 := h a
  have h2 := h b
  omega
end
end Sm
namespace Sm
/-! ### sizes and ends of a tree; the counter of a height -/
def siz (k : Nat) (l : Nat → Int) : Nat → Int
  | 0 => l 0
  | j + 1 => l (j + 1) + k * siz k l j
def ed (k : Nat) (s l : Nat → Int) : Nat → Int
  | 0 => s 0
  | j + 1 => ed k s l j + s (j + 1) + (k - 1) * siz k l j
def fp (k : Nat) (s l : Nat → Int) (h : Nat) : Int := (if h = 0 then 0 else ed k s l (h - 1)) + s h
def ctO (k : Nat) (s l : Nat → Int) (h : Nat) : Ct := ⟨k, fun j => if j = 0 then siz k l h else l (h + j), fun j => s (h + 1 + j), l h, fp k s l h, ed k s l h⟩
/-- the place of a node of height h with b such nodes before it -/
def pl (k : Nat) (s l : Nat → Int) (h b : Nat) : Int := pp (ctO k s l h) b
section
variable {k : Nat} {s l : Nat → Int}
theorem sz_pos (hk : 2 ≤ k) (hl : ∀ j, 0 ≤ l j) (h0 : 0 < l 0) : ∀ j, 0 < siz k l j
  | 0 => h0
  | j + 1 => by
    have h1 := sz_pos hk hl h0 j
    have h2 := hl (j + 1)
    have h3 : (0 : Int) < k * siz k l j := Int.mul_pos (by omega) h1
    rw [siz]
    omega
theorem sz_ge (hk : 2 ≤ k) (hl : ∀ j, 0 ≤ l j) (h0 : 0 < l 0) (j : Nat) : l j ≤ siz k l j := by
  cases j with
  | zero => exact Int.le_refl _
  | succ j =>
    have := sz_pos hk hl h0 j
    have h3 : (0 : Int) < k * siz k l j := Int.mul_pos (by omega) this
    rw [siz]
    omega
theorem ed_nn (hk : 2 ≤ k) (hs : ∀ j, 0 ≤ s j) (hl : ∀ j, 0 ≤ l j) (h0 : 0 < l 0) : ∀ j, 0 ≤ ed k s l j
  | 0 => hs 0
  | j + 1 => by
    have h1 := ed_nn hk hs hl h0 j
    have h2 := hs (j + 1)
    have h3 : 0 ≤ ((k : Int) - 1) * siz k l j := Int.mul_nonneg (by omega) (by have := sz_pos hk hl h0 j; omega)
    rw [ed]
    omega
theorem ct_ok (hk : 2 ≤ k) (hs : ∀ j, 0 ≤ s j) (hl : ∀ j, 0 ≤ l j) (h0 : 0 < l 0) (h : Nat) : CtOk (ctO k s l h) where
  k2 := hk
  la := fun j => by
    show 0 ≤ if j = 0 then siz k l h else l (h + j)
    split
    · have := sz_pos hk hl h0 h
      omega
    · exact hl _
  l0 := sz_pos hk hl h0 h
  sp := fun j => hs _
  o0 := hl h
  o1 := sz_ge hk hl h0 h
  a0 := by
    show 0 ≤ fp k s l h
    unfold fp
    have h1 := hs h
    split
    · omega
    · have := ed_nn hk hs hl h0 (h - 1)
      omega
  ae := by
    show fp k s l h ≤ ed k s l h
    unfold fp
    cases h with
    | zero =>
      show 0 + s 0 ≤ s 0
      omega
    | succ h =>
      rw [if_neg (by omega), Nat.add_sub_cancel, ed]
      have h3 : 0 ≤ ((k : Int) - 1) * siz k l h := Int.mul_nonneg (by omega) (by have := sz_pos hk hl h0 h; omega)
      omega
/-- as finishing reckons it -/
theorem pl_form {h b : Nat} (hb : 0 < b) {N N' : Nat} (hN : b < k ^ N) (hN' : b < k ^ (N' + 1)) (hk : 2 ≤ k) : pl k s l h b = ed k s l h + ((b : Int) - 1) * siz k l h + l h + smN (fun j => if k ^ j ≤ b then s (h + 1 + j) else 0) N + smN (fun j => ((b / k ^ (j + 1) : Nat) : Int) * l (h + (j + 1))) N' := by
  unfold pl pp
  rw [if_neg (by omega)]
  have e1 : smN (fun j => if (ctO k s l h).k ^ j ≤ b then (ctO k s l h).sp j else 0) b = smN (fun j => if k ^ j ≤ b then s (h + 1 + j) else 0) N := by
    show smN (fun j => if k ^ j ≤ b then s (h + 1 + j) else 0) b = _
    have key : ∀ m, b < k ^ m → ∀ j, m ≤ j → (if k ^ j ≤ b then s (h + 1 + j) else 0) = 0 := fun m hm j hj => if_neg (by
      have := Nat.pow_le_pow_right (n := k) (by omega) hj
      omega)
    rcases Nat.le_total N b with z | z
    · exact smN_ext z (key N hN)
    · exact (smN_ext z (key b (lt_pow hk b))).symm
  have e2 : fq (ctO k s l h) b b = (b : Int) * siz k l h + smN (fun j => ((b / k ^ (j + 1) : Nat) : Int) * l (h + (j + 1))) N' := by
    unfold fq
    rw [smN_head]
    show (if (0 : Nat) = 0 then siz k l h else l (h + 0)) * ((b / k ^ 0 : Nat) : Int) + smN (fun j => (if j + 1 = 0 then siz k l h else l (h + (j + 1))) * ((b / k ^ (j + 1) : Nat) : Int)) b = _
    rw [if_pos rfl, Nat.pow_zero, Nat.div_one, Int.mul_comm]
    congr 1
    have e3 : smN (fun j => (if j + 1 = 0 then siz k l h else l (h + (j + 1))) * ((b / k ^ (j + 1) : Nat) : Int)) b = smN (fun j => ((b / k ^ (j + 1) : Nat) : Int) * l (h + (j + 1))) b := smN_congr fun j _ => by rw [if_neg (by omega), Int.mul_comm]
    rw [e3]
    have key : ∀ m, b < k ^ (m + 1) → ∀ j, m ≤ j → ((b / k ^ (j + 1) : Nat) : Int) * l (h + (j + 1)) = 0 := fun m hm j hj => by
      have := Nat.pow_le_pow_right (n := k) (by omega) (show m + 1 ≤ j + 1 by omega)
      rw [Nat.div_eq_of_lt (by omega)]
      simp
    rcases Nat.le_total N' b with z | z
    · exact smN_ext z (key N' hN')
    · exact (smN_ext z (key b (Nat.lt_of_lt_of_le (lt_pow hk b) (Nat.pow_le_pow_right (by omega) (by omega))))).symm
  rw [e1, e2]
  show ed k s l h - siz k l h + l h + _ + _ = _
  rw [Int.sub_mul]
  omega
theorem pl_zero {h : Nat} : pl k s l h 0 = fp k s l h := rfl
/-! ### linear -/
variable {s1 l1 s2 l2 : Nat → Int}
variable {m : Int}
theorem pl_nn (hk : 2 ≤ k) (hs : ∀ j, 0 ≤ s j) (hl : ∀ j, 0 ≤ l j) (h0 : 0 < l 0) (h b : Nat) : 0 ≤ pl k s l h b := by
  have ok := ct_ok hk hs hl h0 h
  rcases Nat.eq_zero_or_pos b with z | z
  · subst z
    exact ok.a0
  · obtain ⟨u, d, i, rfl, d1, hd, hi⟩ := stage_of hk z
    have h1 : en (ctO k s l h) u ≤ pp (ctO k s l h) (d * k ^ u + i) := (pp_ge ok d1 hd hi).1
    have h2 := en_mono ok (Nat.zero_le u)
    have h3 := ok.ae
    have h4 := ok.a0
    have : en (ctO k s l h) 0 = (ctO k s l h).eh := rfl
    show 0 ≤ pp (ctO k s l h) _
    omega
/-- how many nodes of height h are finished by n -/
def Cnt (k : Nat) (s l : Nat → Int) (h : Nat) (n v : Int) : Prop := 0 ≤ v ∧ ∀ b : Nat, (b : Int) < v ↔ pl k s l h b ≤ n
end
end Sm
namespace K13
open PySem L2 Ab Sm
/-! ### counters: the cells -/
def szS (S : Sc) (j : Nat) : Int := siz S.a.toNat (item S.lv) j
def edS (S : Sc) (j : Nat) : Int := ed S.a.toNat (item S.sp) (item S.lv) j
def pwS (S : Sc) (j : Nat) : Int := ((S.a.toNat ^ j : Nat) : Int)
def ctS (S : Sc) (h : Nat) : Ct := ctO S.a.toNat (item S.sp) (item S.lv) h
def upL (g : Nat → Int) (n : Nat) : List Int := (List.range (n + 1)).map g
theorem up_len {g : Nat → Int} {n : Nat} : (upL g n).length = n + 1 := by simp [upL]
theorem up_at {g : Nat → Int} {n : Nat} {i : Int} (h0 : 0 ≤ i) (h1 : i ≤ n) : at0 (upL g n) i = g i.toNat := by
  unfold at0 upL
  rw [List.getD_eq_getElem?_getD, List.getElem?_map, List.getElem?_range (by omega)]
  rfl
theorem up_succ {g : Nat → Int} {n : Nat} : (upL g n).map Val.int ++ [Val.int (g (n + 1))] = (upL g (n + 1)).map Val.int := by
  unfold upL
  rw [List.range_succ (n := n + 1), List.map_append, List.map_append]
  rfl
def cF (C : Addr) (S : Sc) (h : Nat) (p1 p2 p3 : Addr) : List (Str × Val) := [("own_schedule", scV C S), ("own_height", .int (h : Int)), ("sizes", .ptr p1), ("ends", .ptr p2), ("powers", .ptr p3)]
structure Cn (C C2 : Addr) (M : Mem) (i : Nat) (c p1 p2 p3 : Addr) (S : Sc) (h n : Nat) : Prop where
  c0 : M[i]? = some (c, .ins C2 (cF C S h p1 p2 p3))
  c1 : M[i + 1]? = some (p1, .lst ((upL (szS S) n).map .int))
  c2 : M[i + 2]? = some (p2, .lst ((upL (edS S) n).map .int))
  c3 : M[i + 3]? = some (p3, .lst ((upL (pwS S) n).map .int))
def grown (M : Mem) (i : Nat) (p1 p2 p3 : Addr) (S : Sc) (n : Nat) : Mem := ((M.set (i + 1) (p1, .lst ((upL (szS S) n).map .int))).set (i + 2) (p2, .lst ((upL (edS S) n).map .int))).set (i + 3) (p3, .lst ((upL (pwS S) n).map .int))
section
variable {C C2 : Addr} {M : Mem} {i : Nat} {c p1 p2 p3 : Addr} {S : Sc} {h n m : Nat}
theorem Cn.len (q : Cn C C2 M i c p1 p2 p3 S h n) : i + 3 < M.length := (List.getElem?_eq_some_iff.mp q.c3).1
theorem set_id {α : Type} {l : List α} {j : Nat} {x : α} (h : l[j]? = some x) : l.set j x = l := by
  apply List.ext_getElem?
  intro z
  by_cases e : j = z
  · subst e
    rw [List.getElem?_set_self (List.getElem?_eq_some_iff.mp h).1, h]
  · rw [List.getElem?_set_ne e]
theorem Cn.self (q : Cn C C2 M i c p1 p2 p3 S h n) : grown M i p1 p2 p3 S n = M := by
  unfold grown
  rw [set_id q.c1, set_id q.c2, set_id q.c3]
end
/-- spine_at, level_at, arity, as counters use them -/
structure Sm2 (P : Program) (w : World) (K : PySem.W.Frag) (mg : Str → Option Value) (base : Heap) (C : Addr) : Prop where
  sat : ∃ f, Meth K C "spine_at" f ∧ FX P w K mg base 3 f fun ds _ => aSat C ds
  lat : ∃ f, Meth K C "level_at" f ∧ FX P w K mg base 3 f fun ds _ => aLat C ds
section
variable {P : Program} {w : World} {K : PySem.W.Frag} {mg : Str → Option Value} {base : Heap} {k : Nat} {f C C2 : Addr}
theorem av_sa {X : Cx} {Γ : Gam} {M : Mem} {o e : Expr} {pos apos : Pos} {m : Nat} {S : Sc} {i : Int} {pl : Sem Bool} (T : Rs X.K X.mg C) (Q : Sm2 X.prog X.w X.K X.mg X.base C) (hr : Rm m X.A) (hm : 3 ≤ m) (ho : aV X o Γ M (scV C S)) (he : aV X e Γ M (.int i)) (hS : GoodS S) (h0 : 0 ≤ i) (hst : starEach [e] X.env = (false, eval e X.env) :: starEach [] X.env := by rfl)
    (ht : eval (.Call (.Attribute o "spine_at" apos) [e] [] pos) X.env = (do
      let ov ← eval o X.env
      standAt apos.atName
      let (f, first) ← holding [ov] (getMethod ov "spine_at" pl)
      callWith pos f first (backTo pos (starEach [e] X.env)) (backToKw pos (keywordEach [] X.env))) := by rfl) : aV X (.Call (.Attribute o "spine_at" apos) [e] [] pos) Γ M (.int (item S.sp i.toNat)) := by
  obtain ⟨f, mt, F⟩ := Q.sat
  exact ae_meth T.cl mt F (hr.mono hm) ho (.im _) rfl (aa_cons (he.val (aa_nil (ak_nil ⟨rfl, S, i, rfl, hS, h0, rfl, rfl⟩))) hst) rfl rfl hst (by rw [hst]; rfl) ht
theorem av_la {X : Cx} {Γ : Gam} {M : Mem} {o e : Expr} {pos apos : Pos} {m : Nat} {S : Sc} {i : Int} {pl : Sem Bool} (T : Rs X.K X.mg C) (Q : Sm2 X.prog X.w X.K X.mg X.base C) (hr : Rm m X.A) (hm : 3 ≤ m) (ho : aV X o Γ M (scV C S)) (he : aV X e Γ M (.int i)) (hS : GoodS S) (h0 : 0 ≤ i) (hst : starEach [e] X.env = (false, eval e X.env) :: starEach [] X.env := by rfl)
    (ht : eval (.Call (.Attribute o "level_at" apos) [e] [] pos) X.env = (do
      let ov ← eval o X.env
      standAt apos.atName
      let (f, first) ← holding [ov] (getMethod ov "level_at" pl)
      callWith pos f first (backTo pos (starEach [e] X.env)) (backToKw pos (keywordEach [] X.env))) := by rfl) : aV X (.Call (.Attribute o "level_at" apos) [e] [] pos) Γ M (.int (item S.lv i.toNat)) := by
  obtain ⟨f, mt, F⟩ := Q.lat
  exact ae_meth T.cl mt F (hr.mono hm) ho (.im _) rfl (aa_cons (he.val (aa_nil (ak_nil ⟨rfl, S, i, rfl, hS, h0, rfl, rfl⟩))) hst) rfl rfl hst (by rw [hst]; rfl) ht
/-! ### check_at_least -/
/-! ### grow -/
end
end K13
namespace K13
open PySem L2 Ab Sm
section
variable {S : Sc}
theorem GoodS.k2 (g : GoodS S) : 2 ≤ S.a.toNat := by have := g.a2; omega
theorem GoodS.k9 (g : GoodS S) : S.a.toNat ≤ 9 := by have := g.a9; omega
theorem GoodS.s0 (g : GoodS S) (j : Nat) : 0 ≤ item S.sp j := (g.ls.item j).1
theorem GoodS.l0 (g : GoodS S) (j : Nat) : 0 ≤ item S.lv j := (g.ll.item j).1
theorem GoodS.lp (g : GoodS S) : 0 < item S.lv 0 := by have := g.l0 0; have := g.lf; omega
theorem GoodS.ct (g : GoodS S) (h : Nat) : CtOk (ctS S h) := ct_ok g.k2 g.s0 g.l0 g.lp h
theorem szS_pos (g : GoodS S) (j : Nat) : 0 < szS S j := sz_pos g.k2 g.l0 g.lp j
end
end K13
namespace K13
open PySem L2 Ab Sm
theorem Cn.cons {C C2 : Addr} {M : Mem} {i : Nat} {c p1 p2 p3 : Addr} {S : Sc} {h n : Nat} {x : Addr × Cell} (q : Cn C C2 M i c p1 p2 p3 S h n) : Cn C C2 (x :: M) (i + 1) c p1 p2 p3 S h n := ⟨q.c0, q.c1, q.c2, q.c3⟩
end K13
namespace Ab
open PySem PySem.Spec PyProof.Rows L2
end Ab
namespace Ab
open PySem PySem.Spec PyProof.Rows L2
/-! ### t[::-1] of a tuple -/
section
variable {X : Cx} {Γ : Gam} {M : Mem} {P : Val → Mem → Prop} {e a : Expr} {pos p1 p2 p3 : Pos} {xs : List Val}
theorem RepA.rev {K : PySem.W.Frag} {H : Hp} {ds : List Val} {vs : List V} (r : RepA K H ds vs) : RepA K H ds.reverse vs.reverse := by
  induction ds generalizing vs with
  | nil => cases r; exact .nil
  | cons d ds ih =>
    cases r with
    | cons r1 r2 =>
      rw [List.reverse_cons, List.reverse_cons]
      exact (ih r2).append (.cons r1 .nil)
end
end Ab
/-! boxes: opened, closed; promises over boxes -/
namespace Ab
open PySem PySem.Spec PyProof.Rows L2
section
variable {P : Program} {w : World} {K : PySem.W.Frag} {mg : Str → Option Value} {base : Heap} {k : Nat} {f : Addr} {ks : List Str} {sp sp' : List V → List V → Hp → VK → Prop} {sx sx' : ASx}
theorem FnX.weak (F : FnX P w K mg base k f ks sp) (h : ∀ vs zs H Q, sp' vs zs H Q → sp vs zs H Q) : FnX P w K mg base k f ks sp' :=
  ⟨fun A outer s H us ws vs zs Q a b c d e g => F.run A outer s H us ws vs zs Q a b c d e (h vs zs H Q g)⟩
/-- a promise over cells, told over their box -/
theorem FnX.box (F : FnX P w K mg base k f ks (spX K sx)) (h : ∀ ds es M R, sx' ds es M R → ∃ (i : Nat) (p : Addr) (φ : Mem0 → Prop), M[i]? = some (p, .box φ) ∧
    ∀ B, φ B → p ∈ B.map (·.1) → sx ds es (bs B ++ M.eraseIdx i) fun d M' => ∃ B' φ', M' = bs B' ++ M.eraseIdx i ∧ φ' B' ∧ p ∈ B'.map (·.1) ∧ R d (M.set i (p, .box φ'))) : FnX P w K mg base k f ks (spX K sx') :=
  F.weak fun vs zs H Q ⟨Hi, M, ds, es, R, r1, r2, ok, hs, q⟩ => by
    obtain ⟨i, p, φ, hi, hb⟩ := h ds es M R hs
    obtain ⟨B, h1, h2, ok'⟩ := ok.opn hi
    refine ⟨Hi, _, ds, es, _, r1, r2, ok', hb B h1 h2, fun d M' v Hi' H' hd s' ok2 r => ?_⟩
    obtain ⟨B', φ', rfl, h3, h4, h5⟩ := hd
    exact q d _ v Hi' H' h5 s' (ok2.clsAt hi h3 h4) r
end
end Ab
/-! repr of data of any depth; memories read otherwise -/
namespace Ab
open PySem PySem.Spec PyProof.Rows L2
mutual
def shV : Val → Prop
  | .non => True
  | .bl _ => True
  | .int i => showI i
  | .str x => x.cps.toList.all (fun c => decide (c < 16 ^ 8)) = true
  | .lst xs => shVs xs
  | .tup xs => shVs xs
  | .ty _ => False
  | .ptr _ => False
  | .obj _ _ => False
  | .exc _ _ => False
  | .lam _ _ => False
def shVs : List Val → Prop
  | [] => True
  | x :: xs => shV x ∧ shVs xs
end
mutual
def wdV : Val → Nat
  | .non => 5
  | .bl _ => 5
  | .int _ => 1921
  | .str x => 10 * x.length + 2
  | .lst xs => wdVs xs + 3
  | .tup xs => wdVs xs + 3
  | .ty _ => 0
  | .ptr _ => 0
  | .obj _ _ => 0
  | .exc _ _ => 0
  | .lam _ _ => 0
def wdVs : List Val → Nat
  | [] => 0
  | x :: xs => wdV x + 2 + wdVs xs
end
mutual
def dpV : Val → Nat
  | .non => 0
  | .bl _ => 0
  | .int _ => 0
  | .str _ => 0
  | .lst xs => dpVs xs + 1
  | .tup xs => dpVs xs + 1
  | .ty _ => 0
  | .ptr _ => 0
  | .obj _ _ => 0
  | .exc _ _ => 0
  | .lam _ _ => 0
def dpVs : List Val → Nat
  | [] => 0
  | x :: xs => max (dpV x) (dpVs xs)
end
structure ShD (v : Val) (p : PyData) : Prop where
  td : toD v = some p
  sh : p.showable = true
  nd : p.hasDict = false
  ln : p.shown.length ≤ wdV v
  dp : p.depth ≤ dpV v
structure ShDs (v : List Val) (p : List PyData) : Prop where
  td : toDs v = some p
  sh : PyData.showableAll p = true
  nd : PyData.hasDictAll p = false
  ln : ((PyData.shownAll p).map (·.length)).sum + 2 * (PyData.shownAll p).length ≤ wdVs v
  dp : PyData.depthAll p ≤ dpVs v
mutual
theorem shd : ∀ (v : Val), shV v → ∃ p, ShD v p
  | .non, _ => ⟨.none, by unfold toD; rfl, rfl, rfl, by decide, by simp [PyData.depth]⟩
  | .bl b, _ => ⟨.bool b, by unfold toD; rfl, rfl, rfl, by cases b <;> decide, by simp [PyData.depth]⟩
  | .int i, h => ⟨.int i, by unfold toD; rfl, by unfold PyData.showable; exact decide_eq_true h, rfl, by unfold wdV; exact shownI_le h, by simp [PyData.depth]⟩
  | .str x, h => ⟨.str x, by unfold toD; rfl, rfl, rfl, by
      unfold wdV PyData.shown
      have := StrLaws.reprText_len x (fun c hc => by unfold shV at h; exact of_decide_eq_true (List.all_eq_true.mp h c hc))
      omega, by simp [PyData.depth]⟩
  | .lst xs, h => by
    unfold shV at h
    obtain ⟨ps, q⟩ := shds xs h
    refine ⟨.list ps, by unfold toD; rw [q.td]; rfl, by unfold PyData.showable; exact q.sh, by unfold PyData.hasDict; exact q.nd, ?_, by unfold PyData.depth dpV; have := q.dp; omega⟩
    unfold wdV PyData.shown
    have h1 := listText_len_le (PyData.shownAll ps)
    have h2 := q.ln
    omega
  | .tup xs, h => by
    unfold shV at h
    obtain ⟨ps, q⟩ := shds xs h
    refine ⟨.tuple ps, by unfold toD; rw [q.td]; rfl, by unfold PyData.showable; exact q.sh, by unfold PyData.hasDict; exact q.nd, ?_, by unfold PyData.depth dpV; have := q.dp; omega⟩
    unfold wdV PyData.shown
    have h1 := tupleText_len_le (PyData.shownAll ps)
    have h2 := q.ln
    omega
  | .ty _, h => h.elim
  | .ptr _, h => h.elim
  | .obj _ _, h => h.elim
  | .exc _ _, h => h.elim
  | .lam _ _, h => h.elim
theorem shds : ∀ (v : List Val), shVs v → ∃ p, ShDs v p
  | [], _ => ⟨[], rfl, rfl, rfl, by decide, by simp [PyData.depthAll]⟩
  | x :: xs, h => by
    unfold shVs at h
    obtain ⟨p, q⟩ := shd x h.1
    obtain ⟨ps, qs⟩ := shds xs h.2
    refine ⟨p :: ps, by unfold toDs; rw [q.td, qs.td]; rfl, by unfold PyData.showableAll; rw [q.sh, qs.sh]; rfl, by unfold PyData.hasDictAll; rw [q.nd, qs.nd]; rfl, ?_, by unfold PyData.depthAll dpVs; have := q.dp; have := qs.dp; omega⟩
    unfold PyData.shownAll wdVs
    rw [List.map_cons, List.sum_cons, List.length_cons]
    have := q.ln
    have := qs.ln
    omega
end
def rpr (v : Val) : Str := match toD v with
  | some p => p.shown
  | none => ""
def isSq : Val → Prop
  | .lst _ => True
  | .tup _ => True
  | _ => False
section
variable {X : Cx} {Γ : Gam} {M M' : Mem} {P : Val → Mem → Prop} {e a b c o : Expr} {pos p1 : Pos} {sts : List Stmt} {k : AK} {d v : Val} {n : Nat}
theorem ae_reprV (hr : Rm n X.A) (hm : X.mg "repr" = none) (ha : aE X a Γ M fun d M' => ∃ v, Vw M' d v ∧ isSq v ∧ shV v ∧ wdV v ≤ sizeLine ∧ dpV v ≤ 60 ∧ P (.str (rpr v)) M')
    (hg : Gl X "repr" := by rfl) (hst : starEach [a] X.env = [(false, eval a X.env)] := by rfl) : aE X (.Call (.Name "repr" p1) [a] [] pos) Γ M P := by
  refine ae_repr hr hm (ha.mono fun d M1 ⟨v, h1, h2, h3, h4, h5, h6⟩ => ?_) hg hst
  obtain ⟨p, q⟩ := shd v h3
  have e : rpr v = p.shown := by unfold rpr; rw [q.td]
  rw [e] at h6
  refine ⟨v, p, h1, q.td, ?_, q.sh, q.nd, Nat.le_trans q.dp h5, Nat.le_trans q.ln h4, h6⟩
  have t := q.td
  cases v with
  | lst xs =>
    unfold toD at t
    obtain ⟨ds, _, rfl⟩ := Option.map_eq_some_iff.mp t
    exact .inl ⟨_, rfl⟩
  | tup xs =>
    unfold toD at t
    obtain ⟨ds, _, rfl⟩ := Option.map_eq_some_iff.mp t
    exact .inr ⟨_, rfl⟩
  | _ => exact h2.elim
theorem av_repr (hr : Rm n X.A) (hm : X.mg "repr" = none) (ha : aV X a Γ M v) (h2 : isSq v) (h3 : shV v) (h4 : wdV v ≤ sizeLine) (h5 : dpV v ≤ 60)
    (hg : Gl X "repr" := by rfl) (hst : starEach [a] X.env = [(false, eval a X.env)] := by rfl) : aV X (.Call (.Name "repr" p1) [a] [] pos) Γ M (.str (rpr v)) :=
  ae_reprV hr hm (ha.val ⟨v, .self _, h2, h3, h4, h5, rfl, rfl⟩) hg hst
end
section
variable {P : Val → Mem → Prop} {d : Val} {M M' : Mem} {B : Mem0} {p : Addr} {φ : Mem0 → Prop} {x : Cell} {i : Nat}
/-- a def's end: the cells go back into their box -/
theorem Ret.clsAt (hi : M[i]? = some (p, x)) (h : φ B) (hp : p ∈ B.map (·.1)) (hr : Ret P d (M.set i (p, .box φ))) : Ret P d (bs B ++ M.eraseIdx i) := .tr (fun _ _ _ ok => ok.clsAt hi h hp) hr
theorem Ret.cls (h : φ B) (hp : p ∈ B.map (·.1)) (hr : Ret P d ((p, .box φ) :: M)) : Ret P d (bs B ++ M) := .tr (fun _ _ _ ok => ok.cls h hp) hr
theorem bx_get {α : Type} {M : List α} {i : Nat} {x y : α} (h : M[i]? = some x) : (M.set i y)[i]? = some y := List.getElem?_set_self (List.getElem?_eq_some_iff.mp h).1
end
end Ab
/-! comparisons whose outcome is known; data compared -/
namespace Ab
open PySem PySem.Spec PyProof.Rows L2
mutual
def dtV : Val → Prop
  | .non => True
  | .bl _ => True
  | .int _ => True
  | .str x => PyData.strOk x = true
  | .lst xs => dtVs xs
  | .tup xs => dtVs xs
  | .ty _ => False
  | .ptr _ => False
  | .obj _ _ => False
  | .exc _ _ => False
  | .lam _ _ => False
def dtVs : List Val → Prop
  | [] => True
  | x :: xs => dtV x ∧ dtVs xs
end
structure DtD (v : Val) (p : PyData) : Prop where
  td : toD v = some p
  cl : p.canLay0 = true
  dp : p.depth ≤ dpV v
structure DtDs (v : List Val) (p : List PyData) : Prop where
  td : toDs v = some p
  cl : PyData.canLayAll0 p = true
  dp : PyData.depthAll p ≤ dpVs v
mutual
theorem dtd : ∀ (v : Val), dtV v → ∃ p, DtD v p
  | .non, _ => ⟨.none, by unfold toD; rfl, rfl, by simp [PyData.depth]⟩
  | .bl b, _ => ⟨.bool b, by unfold toD; rfl, rfl, by simp [PyData.depth]⟩
  | .int i, h => ⟨.int i, by unfold toD; rfl, rfl, by simp [PyData.depth]⟩
  | .str x, h => ⟨.str x, by unfold toD; rfl, by unfold dtV at h; unfold PyData.canLay0; exact h, by simp [PyData.depth]⟩
  | .lst xs, h => by
    unfold dtV at h
    obtain ⟨ps, q⟩ := dtds xs h
    exact ⟨.list ps, by unfold toD; rw [q.td]; rfl, by unfold PyData.canLay0; exact q.cl, by unfold PyData.depth dpV; have := q.dp; omega⟩
  | .tup xs, h => by
    unfold dtV at h
    obtain ⟨ps, q⟩ := dtds xs h
    exact ⟨.tuple ps, by unfold toD; rw [q.td]; rfl, by unfold PyData.canLay0; exact q.cl, by unfold PyData.depth dpV; have := q.dp; omega⟩
  | .ty _, h => h.elim
  | .ptr _, h => h.elim
  | .obj _ _, h => h.elim
  | .exc _ _, h => h.elim
  | .lam _ _, h => h.elim
theorem dtds : ∀ (v : List Val), dtVs v → ∃ p, DtDs v p
  | [], _ => ⟨[], rfl, rfl, by simp [PyData.depthAll]⟩
  | x :: xs, h => by
    unfold dtVs at h
    obtain ⟨p, q⟩ := dtd x h.1
    obtain ⟨ps, qs⟩ := dtds xs h.2
    exact ⟨p :: ps, by unfold toDs; rw [q.td, qs.td]; rfl, by unfold PyData.canLayAll0; rw [q.cl, qs.cl]; rfl, by unfold PyData.depthAll dpVs; have := q.dp; have := qs.dp; omega⟩
end
theorem dt_ints (xs : List Int) : dtVs (xs.map .int) := by
  induction xs with
  | nil => trivial
  | cons x xs ih => exact ⟨trivial, ih⟩
theorem dp_ints (xs : List Int) : dpVs (xs.map .int) = 0 := by
  induction xs with
  | nil => rfl
  | cons x xs ih =>
    rw [List.map_cons]
    unfold dpVs dpV
    rw [ih]
    rfl
section
variable {X : Cx} {Γ : Gam} {M M' : Mem} {P : Val → Mem → Prop} {e a b c o : Expr} {pos p1 : Pos} {sts : List Stmt} {k : AK} {d d1 d2 v w : Val} {n : Nat} {i j : Int}
theorem cmp_neV (h1 : Vw M d1 v) (h2 : Vw M d2 w) (h : v = w) (hd : dtV v) (hp : dpV v ≤ 60) (hu : X.A.units + 64 < cLine) : Cmp X .NotEq M d1 d2 false := by
  subst h
  obtain ⟨p, q⟩ := dtd v hd
  have hs : SeqAt.shaped p = true := Bool.and_eq_true_iff.mpr ⟨q.cl, decide_eq_true (by have := q.dp; omega)⟩
  have := cmp_neD (X := X) h1 h2 q.td q.td hs hs hu
  rwa [SeqAt.eqv_refl _ q.cl] at this
theorem cmp_neT (h : i ≠ j) : Cmp X .NotEq M (.int i) (.int j) true := cmp_neI.eq (by simp [h])
theorem cmp_gtF (h : i ≤ j) : Cmp X .Gt M (.int i) (.int j) false := cmp_gt.eq (by simp; omega)
theorem cmp_eqST {x y : Str} (h : x = y) : Cmp X .Eq M (.str x) (.str y) true := cmp_eqS.eq (by simp [h])
theorem atI_ixis {M : Mem} {x : Val} {i : Int} {d : Val} (h : IxIs M x i d) : ∃ xs, Sq M x xs ∧ atI xs i = some d := by
  cases h with
  | iT h0 h1 => exact ⟨_, .t, atI_int h0 h1⟩
  | iL h0 h1 => exact ⟨_, .l (.self _), atI_int h0 h1⟩
  | ci n hm h0 h1 => exact ⟨_, .l (.lst n hm), atI_int h0 h1⟩
  | t h => exact ⟨_, .t, h⟩
  | l h => exact ⟨_, .l (.self _), h⟩
  | c n hm h => exact ⟨_, .l (.lst n hm), h⟩
theorem av_powC {v : Int} (ha : aV X a Γ M (.int i)) (hb : aV X b Γ M (.int j)) (hc : CPow i j) (h : i ^ j.toNat = v) : aV X (.BinOp a .Pow b pos) Γ M (.int v) := by
  rw [← h]
  exact av_pow ha hb hc
/-- xs[i], either part changing cells -/
theorem ae_ixV (h : aE X a Γ M fun x M1 => aE X b Γ M1 fun y M2 => ∃ i d, y = .int i ∧ IxIs M2 x i d ∧ P d M2) (hs : PlainIx b := by exact fun _ _ => rfl) : aE X (.Subscript a b pos) Γ M P :=
  ae_ixM (h.mono fun x M1 h1 => h1.mono fun y M2 ⟨i, d, e, hi, hp⟩ => by
    obtain ⟨xs, h2, h3⟩ := atI_ixis hi
    exact ⟨i, xs, d, e, h2, h3, hp⟩) hs
end
end Ab
namespace Ab
open PySem PySem.Spec PyProof.Rows L2
end Ab
/-! defs that say super(): judgements at the def's own code -/
namespace Ab
open PySem PySem.Spec PyProof.Rows L2 NdefX
def zE (X : Cx) (body : List Stmt) (e : Expr) (Γ : Gam) (M : Mem) (P : Val → Mem → Prop) : Prop := ∀ Hi H σ pins s, Ok X.K Hi M H → EnvR X.K Hi Γ σ → Inv X pins σ H s → ∀ Q : VK, Post X.K Hi P Q → PySem.wpAt (model X.prog X.w) X.A (.func body X.env) (eval e X.env) (EP X pins σ Q) X.xe s
structure ZR (X : Cx) (pins : List (Addr × Obj)) (Hi : Hp) (k : AK) (Φ : Flow → Shared → Prop) : Prop where
  nx : ∀ Γ M σ Hi' H' s', k.nx Γ M → Same Hi Hi' → Ok X.K Hi' M H' → EnvR X.K Hi' Γ σ → Inv X pins σ H' s' → Φ .next s'
  rt : ∀ d M v u σ Hi' H' s', k.rt d M → Same Hi Hi' → Ok X.K Hi' M H' → Rep X.K Hi' d v → Inv X pins σ H' s' → RelV v u → Φ (.ret u) s'
  bk : ∀ Γ M σ Hi' H' s', k.bk Γ M → Same Hi Hi' → Ok X.K Hi' M H' → EnvR X.K Hi' Γ σ → Inv X pins σ H' s' → Φ .brk s'
  ct : ∀ Γ M σ Hi' H' s', k.ct Γ M → Same Hi Hi' → Ok X.K Hi' M H' → EnvR X.K Hi' Γ σ → Inv X pins σ H' s' → Φ .cont s'
def zS (X : Cx) (body : List Stmt) (st : Stmt) (Γ : Gam) (M : Mem) (k : AK) : Prop := ∀ Hi H σ pins s, Ok X.K Hi M H → EnvR X.K Hi Γ σ → Inv X pins σ H s → ∀ Φ, ZR X pins Hi k Φ → PySem.wpAt (model X.prog X.w) X.A (.func body X.env) (exec st X.env) Φ X.xe s
def zSs (X : Cx) (body : List Stmt) (sts : List Stmt) (Γ : Gam) (M : Mem) (k : AK) : Prop := ∀ Hi H σ pins s, Ok X.K Hi M H → EnvR X.K Hi Γ σ → Inv X pins σ H s → ∀ Φ, ZR X pins Hi k Φ → PySem.wpAt (model X.prog X.w) X.A (.func body X.env) (execs sts X.env) Φ X.xe s
theorem ZR.up {X : Cx} {pins : List (Addr × Obj)} {Hi Hi1 : Hp} {k : AK} {Φ : Flow → Shared → Prop} (h : ZR X pins Hi k Φ) (e : Same Hi Hi1) : ZR X pins Hi1 k Φ :=
  ⟨fun Γ M σ Hi' H' s' p q => h.nx Γ M σ Hi' H' s' p (e.trans q), fun d M v u σ Hi' H' s' p q => h.rt d M v u σ Hi' H' s' p (e.trans q), fun Γ M σ Hi' H' s' p q => h.bk Γ M σ Hi' H' s' p (e.trans q), fun Γ M σ Hi' H' s' p q => h.ct Γ M σ Hi' H' s' p (e.trans q)⟩
section
variable {X : Cx} {body : List Stmt} {Γ : Gam} {M : Mem} {P : Val → Mem → Prop} {e a b c : Expr} {es : List Expr} {pos p0 p1 apos : Pos} {k : AK} {d : Val} {st : Stmt} {sts s1 s2 : List Stmt} {x m : Str}
/-- the ends that fit -/
def zD (X : Cx) (pins : List (Addr × Obj)) (Φ : Flow → Shared → Prop) : Ends where
  nx := fun σ' H' => ∀ s', Inv X pins σ' H' s' → Φ .next s'
  rt := fun v H' => ∀ σ' u s', Inv X pins σ' H' s' → RelV v u → Φ (.ret u) s'
  bk := fun σ' H' => ∀ s', Inv X pins σ' H' s' → Φ .brk s'
  ct := fun σ' H' => ∀ s', Inv X pins σ' H' s' → Φ .cont s'
theorem zr_real {pins : List (Addr × Obj)} {Hi : Hp} {Φ : Flow → Shared → Prop} (h : ZR X pins Hi k Φ) : Real X.K Hi k (zD X pins Φ) :=
  ⟨fun Γ M σ Hi' H' p q o en s' I => h.nx Γ M σ Hi' H' s' p q o en I, fun d M v Hi' H' p q o r σ' u s' I rv => h.rt d M v u σ' Hi' H' s' p q o r I rv, fun Γ M σ Hi' H' p q o en s' I => h.bk Γ M σ Hi' H' s' p q o en I, fun Γ M σ Hi' H' p q o en s' I => h.ct Γ M σ Hi' H' s' p q o en I⟩
theorem sp_phi {pins : List (Addr × Obj)} {Φ : Flow → Shared → Prop} {f : Flow} {s' : Shared} (h : SP X pins (zD X pins Φ) f s') : Φ f s' := by
  cases f with
  | next => obtain ⟨σ, H, I, q⟩ := h; exact q s' I
  | brk => obtain ⟨σ, H, I, q⟩ := h; exact q s' I
  | cont => obtain ⟨σ, H, I, q⟩ := h; exact q s' I
  | ret u => obtain ⟨v, σ, H, I, r, q⟩ := h; exact q σ u s' I r
theorem zs_of (h : aSs X sts Γ M k) : zSs X body sts Γ M k := fun Hi H σ pins s ok en I Φ q => wpAt_of_wpAny (wpAny_mono (pss_wb.run pins s σ H _ I (h Hi H σ ok en _ (zr_real q))) (fun _ _ z => sp_phi z) fun _ _ z => z)
theorem zs_cons (h : zS X body st Γ M { k with nx := fun Γ' M' => zSs X body sts Γ' M' k }) : zSs X body (st :: sts) Γ M k := fun Hi H σ pins s ok en I Φ q => by
  refine ks_wpAt_execs_cons (h Hi H σ pins s ok en I _ ⟨fun Γ' M' σ' Hi' H' s' p e o en' I' => ?_, fun d M v u σ' Hi' H' s' p e o r I' rv => ?_, fun Γ' M' σ' Hi' H' s' p e o en' I' => ?_, fun Γ' M' σ' Hi' H' s' p e o en' I' => ?_⟩)
  · exact p Hi' H' σ' pins s' o en' I' Φ (q.up e)
  · exact q.rt d M v u σ' Hi' H' s' p e o r I' rv
  · exact q.bk Γ' M' σ' Hi' H' s' p e o en' I'
  · exact q.ct Γ' M' σ' Hi' H' s' p e o en' I'
theorem zs_nil (h : k.nx Γ M) : zSs X body [] Γ M k := zs_of (as_nil h)
theorem zs_one (h : zS X body st Γ M k) : zSs X body [st] Γ M k := fun Hi H σ pins s ok en I Φ q => by
  refine ks_wpAt_execs_cons (h Hi H σ pins s ok en I _ ⟨fun Γ' M' σ' Hi' H' s' p e o en' I' => ?_, fun d M v u σ' Hi' H' s' p e o r I' rv => ?_, fun Γ' M' σ' Hi' H' s' p e o en' I' => ?_, fun Γ' M' σ' Hi' H' s' p e o en' I' => ?_⟩)
  · exact zs_nil (k := k) p Hi' H' σ' pins s' o en' I' Φ (q.up e)
  · exact q.rt d M v u σ' Hi' H' s' p e o r I' rv
  · exact q.bk Γ' M' σ' Hi' H' s' p e o en' I'
  · exact q.ct Γ' M' σ' Hi' H' s' p e o en' I'
/-! ### super().m(e, ..) -/
/-- what the written part says of super() in a method at f of the class at D, for an instance of the class at C -/
structure Sup (K : PySem.W.Frag) (prog : Program) (f cda cc D C f2 : Addr) (m : Str) : Prop where
  fn : ∃ oc od fd osl ar, K.lookup f = some ⟨oc, od, .func fd, osl⟩ ∧ (fd.params.posonlyargs ++ fd.params.args).head? = some ar ∧ ar.arg = ("self" : Str)
  cd : ∃ ccl cdd vs ccs file tf, K.lookup cda = some ⟨ccl, cdd, .fields vs, ccs⟩ ∧ vs[2]? = some (.str file tf) ∧ ((prog.main.file : Str) == file) = true
  cl : ∃ c0 cld csl, K.lookup cc = some ⟨c0, cld, .cell (some (.ref D)), csl⟩
  cD : ∃ cd, PySem.W.clsIn K D = some cd
  sub : PySem.W.mroIn K C (.ref D) = some true
  tp : (prog.main.scope.names.lookup ("super" : Str)).isSome = false
  op : PySem.W.nsIn K cStatics "thirdparty.any" = some none
  fd : PySem.W.ks_superIn K C D m = some (some (.ref f2))
  ty : PySem.W.typeIn K (.ref f2) = some (.type "function")
  fi : PySem.W.fnIn K f2 = true
theorem ze_sup {n q : Nat} {f cda cc D C f2 : Addr} {fs : List (Str × Val)} {sx : ASx} {pl : Sem Bool} (S : Sup X.K X.prog f cda cc D C f2 m) (F : FnX X.prog X.w X.K X.mg X.base n f2 [] (spX X.K sx)) (hr : Rm q X.A) (hq : n ≤ q) (hms : X.mg "super" = none) (c : Cls X.K C)
    (hd : Γ[0]? = some (some d)) (hob : Ob M C d fs) (h : aA X (e :: es) Γ M fun ds M1 => sx (d :: ds) [] M1 P)
    (hN : X.N[0]? = some ("self" : Str) := by rfl) (hk : X.env.scope.kind = .function := by rfl) (hks : X.env.kindOf "super" = some .globalImplicit := by rfl) (hkc : X.env.kindOf "__class__" = some .free := by rfl) (hka : X.env.kindOf "self" = some .local := by rfl)
    (hfu : X.env.func = some f := by rfl) (hco : X.env.code = .ref cda := by rfl) (hcl : X.env.cells.lookup ("__class__" : Str) = some cc := by rfl) (hm : (m == ("__class__" : Str)) = false := by decide)
    (he : starEach (e :: es) X.env = (false, eval e X.env) :: starEach es X.env := by rfl) (hpl : (backTo pos (starEach es X.env)).any (·.1) = false := by rfl)
    (ht : eval (.Call (.Attribute (.Call (.Name "super" p0) [] [] p1) m apos) (e :: es) [] pos) X.env = (do
      let ov ← attributeBase (.Call (.Name "super" p0) [] [] p1) m X.env (eval (.Call (.Name "super" p0) [] [] p1) X.env)
      standAt apos.atName
      let (f, first) ← holding [ov] (getMethod ov m pl)
      callWith pos f first (backTo pos (starEach (e :: es) X.env)) []) := by rfl) : zE X body (.Call (.Attribute (.Call (.Name "super" p0) [] [] p1) m apos) (e :: es) [] pos) Γ M P := fun Hi H σ pins s ok en I Q q' => by
  obtain ⟨oc, od, fd, osl, ar, l1, l2, l3⟩ := S.fn
  obtain ⟨ccl, cdd, vs, ccs, file, tf, k1, k2, k3⟩ := S.cd
  obtain ⟨c0, cld, csl, z1⟩ := S.cl
  obtain ⟨cdD, hcD⟩ := S.cD
  have KX : X.K.In s.heap := I.kIn
  obtain ⟨v, hv, rv⟩ := en.2 0 d hd
  obtain ⟨xa, dx, gs, rfl, hx, rf⟩ := hob.rep ok rv
  obtain ⟨mA, O, _, _, _, _⟩ := ins_get I.hok hx
  obtain ⟨od', IA, _⟩ := O.look
  obtain ⟨oD, hD1, hD2⟩ : ∃ oD, s.heap.get? D = some oD ∧ oD.data = .cls cdD := by
    unfold PySem.W.clsIn at hcD
    split at hcD
    · rename_i c d cd' sl ho
      cases hcD
      exact ⟨_, KX _ _ ho, rfl⟩
    · cases hcD
  obtain ⟨mm, hns, hlk⟩ := I.loc
  obtain ⟨u, ru, lk⟩ := hlk 0 "self" (.ref xa) hN hv (.inl hka)
  obtain rfl : u = Value.ref xa := ru
  have hself : mm "self" = some (Value.ref xa) := by
    rcases lk with ⟨_, h⟩ | ⟨h, _⟩
    · exact h
    · rcases h with h | h <;> rw [hka] at h <;> cases h
  refine ks_wpAt_MethodCall (pl := pl) ?_ ht
  refine ks_wpAt_super_base hks hkc hm hfu (KX _ _ l1) rfl l2 hco (KX _ _ k1) rfl k2 k3 S.tp ?_
  obtain ⟨mb, h1, h2⟩ := I.mod.blt
  refine PySem.W.ks_loadName_global hk hks (Calls.loadGlobal_builtin (by rw [I.ok.glob]; exact I.mod.glob.keeps I.bk) hms (by rw [I.ok.blt]; exact h1.keeps I.bk) ((h2 "super" (by decide)).trans (by decide +kernel)) ⟨rfl, ?_⟩)
  refine wpAny_loadName_free hk hkc hcl ⟨_, KX _ _ z1, rfl⟩ ?_
  rw [l3]
  refine wpAny_loadName_local hk hka hns hself ?_
  refine ks_wpAny_isType_cls hD1 hD2 ⟨rfl, ?_⟩
  obtain ⟨hh, g, dr, t, os⟩ := s
  refine ks_wpAny_call_super hD1 hD2 IA.at_ IA.cls (fun c e => ?_) (PySem.W.looks_mroIn KX S.sub) (fun h' e' kp => ?_)
  · have := IA.no
    unfold PySem.W.notCls at this
    rw [e] at this
    exact Bool.noConfusion this
  have I1 : Inv X pins σ H ⟨h', g, dr, t, os⟩ := I.kept (s := ⟨hh, g, dr, t, os⟩) (t' := t) kp
  have KX1 : X.K.In h' := I1.kIn
  obtain ⟨mA1, O1, _, _, _, _⟩ := ins_get I1.hok hx
  obtain ⟨od1, IA1, _⟩ := O1.look
  cases hc : PySem.W.clsIn X.K C with
  | none =>
    have := S.fd
    unfold PySem.W.ks_superIn at this
    rw [hc] at this
    cases this
  | some cd =>
    have hsup := S.fd
    unfold PySem.W.ks_superIn at hsup
    rw [hc] at hsup
    obtain ⟨of, hof, hofc⟩ : ∃ of, h'.get? f2 = some of ∧ of.cls = .type "function" := by
      have ht' : (X.K.lookup f2).map (·.cls) = some (.type "function") := S.ty
      cases z : X.K.lookup f2 with
      | none => rw [z] at ht'; cases ht'
      | some of => rw [z] at ht'; exact ⟨of, KX1 _ _ z, Option.some.inj ht'⟩
    refine ks_wpAny_getMethod_super e' (PySem.W.looks_opaque KX1 S.op) (l₀ := cd.mro) (fun A Q E s k q => wpAny_bind ((PySem.W.looks_clsIn KX1 hc) A _ E s k (wpAny_pure q))) rfl KX1 hsup hof hofc (PySem.W.ks_ne KX1 IA1 hc) hm ?_
    have I2 : Inv X ((h'.objs.size, PySem.W.methodObj (.ref f2) (.ref xa)) :: pins) σ H ⟨h'.push (PySem.W.methodObj (.ref f2) (.ref xa)), g, dr, t + 1, os⟩ := ClX.pin_new (s := ⟨h', g, dr, t, os⟩) (t' := t + 1) I1 (fun _ _ z => Heap.get?_push_of_some _ z) (Nat.le_refl _) (Heap.get?_push_size h' rfl) (fun v z => nomatch z)
    have hb : X.base.get? h'.objs.size = none := ClX.base_none (s := ⟨h', g, dr, t, os⟩) I1 (Nat.le_refl _)
    refine PySem.W.callWith_M (K := X.K) (h₀ := X.base) (first := []) (q := h'.objs.size) (g := f2) (self := .ref xa) I2.ok.mod.kin (news_at (I2.pin (h'.objs.size, PySem.W.methodObj (.ref f2) (.ref xa)) (List.mem_append_right _ List.mem_cons_self)).2.2.1 hb (ClX.pin_at I2)) List.mem_cons_self S.fi ?_ he hpl
    refine wpAny_mono (pa_wa.run pos _ _ σ H (fun ws H2 => spX X.K sx (.ref xa :: ws) [] H2 Q) I2 (h Hi H σ ok en _ fun ds M1 ws Hi1 H1 p1 e1 o1 r1 => ⟨Hi1, M1, d :: ds, [], P, .cons (rv.mono e1) r1, .nil, o1, p1, q'.up e1⟩)) (fun us s3 z => ?_) fun _ _ z => z
    obtain ⟨ws, H3, I3, rw3, q3⟩ := z
    refine ⟨⟨ClX.pin_at I3, I3.kIn⟩, ?_⟩
    have zz : wpAny (model X.prog X.w) X.A (call (.ref h'.objs.size) us) (EP X ((h'.objs.size, PySem.W.methodObj (.ref f2) (.ref xa)) :: pins) σ Q) X.xe s3 := by
      refine wpAny_call (PySem.W.method_call (ClX.pin_at I3) (codeAny_mono (F.run X.A X.stack s3 H3 (.ref xa :: us) [] (.ref xa :: ws) [] Q (hr.mono hq) I3.env0 (.cons rfl rw3) .nil rfl q3) fun r s' hq => ?_))
      cases r with
      | error e => exact False.elim hq
      | ok fl =>
        cases fl with
        | ret u => exact I3.after hq
        | next => exact False.elim hq
        | brk => exact False.elim hq
        | cont => exact False.elim hq
    exact thn zz fun _ _ y => ClX.unpinE y
end
section
variable {P : Program} {w : World} {K : PySem.W.Frag} {mg : Str → Option Value} {base : Heap} {N ps : List Str} {F : NF} {f cc D : Addr} {k : Nat} {s0 : ASp}
abbrev zcx (P : Program) (w : World) (K : PySem.W.Frag) (mg : Str → Option Value) (base : Heap) (N : List Str) (F : NF) (f : Addr) (A : Around) (outer : List Env) (s : Shared) (H : Hp) : Cx := (ncx CX0 P w K mg base N F f A outer s H E0).nox
/-- what the body of a def that says super() must do -/
abbrev ZBody (P : Program) (w : World) (K : PySem.W.Frag) (mg : Str → Option Value) (base : Heap) (k : Nat) (f : Addr) (N : List Str) (F : NF) (s0 : ASp) : Prop :=
  ∀ A outer s H, Rm k (A.deeper (envF F f s.heap.objs.size)) → ∀ ds M R, s0 ds M R → zSs (zcx P w K mg base N F f A outer s H) F.body F.body (gam N ds) M (kOf R)
theorem fnx_sup {oc c0 : Value} {od cld : Option Addr} {osl csl : Array (Option Value)} {doc pm ctv : Value} (hcl : F.cl = [(("__class__" : Str), cc)]) (lk : K.lookup f = some ⟨oc, od, .func (F.fd doc pm ctv), osl⟩) (hcd : PySem.W.codeIn K (.ref F.c) F.qual = true)
    (hcell : K.lookup cc = some ⟨c0, cld, .cell (some (.ref D)), csl⟩) (S : NScope N ps ["__class__"] F.scope) (hb : ∀ (us : List Value), us.length = ps.length → bindArgs (F.fd doc pm ctv) ⟨us, []⟩ = pure (ps.zip us)) (len : ∀ ds M R, s0 ds M R → ds.length = ps.length)
    (hbody : ZBody P w K mg base k f N F s0) : FnX P w K mg base (k + 1) f [] (spX K fun ds _ => s0 ds) := by
  refine ⟨fun A outer s H us ws vs zs Q hr e0 r rz hz ⟨Hi, M, ds, es, R, ra, re, ok, hs, q⟩ => ?_⟩
  have hl : vs.length = ps.length := ra.length.symm.trans (len _ _ _ hs)
  have KX : K.In s.heap := e0.mod.kin.keeps fun b o e => (e0.bs b o e).1
  have lim : s.heap.NoLimit := e0.mod.nolimit.keeps fun b o e => (e0.bs b o e).1
  have hcb := e0.bs cc _ (e0.mod.kin _ _ hcell)
  have C : CellsAt F.cl ["__class__"] [some (.ref D)] s.heap H := by
    rw [hcl]
    refine ⟨rfl, fun y c h => ?_, fun x y c h1 h2 => ?_, fun i y h => ?_⟩
    · have : c = cc := by
        rw [List.lookup_cons] at h
        split at h
        · exact (Option.some.inj h).symm
        · cases h
      subst this
      exact ⟨hcb.2, _, _, hcb.1, rfl⟩
    · have one : ∀ z : Str, List.lookup z [(("__class__" : Str), cc)] = some c → z = ("__class__" : Str) := fun z h => by
        rw [List.lookup_cons] at h
        split at h
        · rename_i e
          exact eq_of_beq e
        · cases h
      rw [one x h1, one y h2]
    · cases i with
      | zero =>
        cases h
        exact ⟨cc, by rw [List.lookup_cons, beq_self_eq_true], fun v hv => by cases hv; exact ⟨_, rfl, _, hcb.1, rfl⟩⟩
      | succ i => cases h
  have e : ws = [] := List.length_eq_zero_iff.mp (rz.length.symm.trans hz)
  subst e
  refine codeAny_call_function hr.room.depth (KX _ _ lk) rfl S.co S.gen rfl (PySem.W.codeRec_of KX hcd) ?_
  show wpAny _ _ (bindArgs (F.fd doc pm ctv) ⟨us, []⟩) _ _ _
  rw [hb us (by rw [← r.length]; exact hl)]
  refine wpAny_pure (wpAny_newFunctionEnv S.nocell (fun ⟨n, _⟩ hy => S.par n (List.of_mem_zip hy).1) (fun h₁ hns hsb => ⟨lim.fresh _ hsb, ?_⟩) S.kind)
  show codeAny _ _ (.func F.body (envF F f s.heap.objs.size)) _ _
  refine ks_codeAny_funcAt ?_
  have kp : ∀ b o, s.heap.get? b = some o → h₁.get? b = some o := fun b o e => hsb.extBut b o (Nat.ne_of_lt (Heap.lt_size e)) (Heap.get?_push_of_some _ e)
  have I : Inv (ncx CX0 P w K mg base N F f A outer s H E0) [] (startF N vs [some (.ref D)]) H { s with heap := h₁, toks := s.toks + (ps.zip us).length } := inv_startN S hr.room.hd e0 hl r C hns kp
  have hpl : ps.length + 1 ≤ N.length := by
    have q := congrArg List.length S.pre
    rw [List.length_take, List.length_append] at q
    have : (["__class__"] : List Str).length = 1 := rfl
    omega
  have en : EnvR K Hi (gam N ds) (startF N vs [some (.ref D)]) := by
    have h0 := env_start (N := N) ra
    refine ⟨?_, fun i d hd => ?_⟩
    · unfold gam startF
      rw [List.length_append, List.length_append, List.length_append, List.length_map, List.length_map, List.length_replicate, List.length_replicate, ra.length]
      have : ([some (V.ref D)] : List (Option V)).length = 1 := rfl
      omega
    · obtain ⟨v, h1, h2⟩ := h0.2 i d hd
      refine ⟨v, ?_, h2⟩
      unfold L2.start at h1
      unfold startF
      by_cases hi : i < (vs.map some).length
      · rw [List.getElem?_append_left hi] at h1 ⊢
        exact h1
      · rw [List.getElem?_append_right (by omega), List.getElem?_replicate] at h1
        split at h1 <;> cases h1
  refine PySem.wpAt_mono (hbody A outer s H (hr.deeper _) ds M R hs Hi H _ [] _ ok en (I.wish _) (fun fl s' => CE outer P w H s Q (match fl with | .ret u => u | _ => .none) s') ⟨fun Γ M' σ' Hi' H' s' p e o en' J => ?_, fun d M' v u σ' Hi' H' s' p e o r' J rv => ?_, fun Γ M' σ' Hi' H' s' p => p.elim, fun Γ M' σ' Hi' H' s' p => p.elim⟩) (fun fl s' z => z) fun _ _ z => z.elim
  · exact ⟨.non, H', J.os, J.bare, J.base, J.hok, rfl, p.post q e o .non⟩
  · exact ⟨v, H', J.os, J.bare, J.base, J.hok, rv, p.post q e o r'⟩
end
end Ab
/-! methods of instances that stand in boxes -/
namespace Ab
open PySem PySem.Spec PyProof.Rows L2
/-- d is an instance of the class at C without an attribute m of its own -/
def ObM (M : Mem) (C : Addr) (d : Val) (m : Str) : Prop := ∀ K Hi H v, Ok K Hi M H → Rep K Hi d v → ∃ p dx gs, v = .ref p ∧ H p = some (.ins C dx gs) ∧ gs.lookup m = none
theorem Ob.obM {M : Mem} {C : Addr} {d : Val} {fs : List (Str × Val)} {m : Str} (h : Ob M C d fs) (hl : fs.lookup m = none) : ObM M C d m := fun K Hi H v ok r => by
  obtain ⟨p, dx, gs, h1, h2, h3⟩ := h.rep ok r
  exact ⟨p, dx, gs, h1, h2, h3.none hl⟩
end Ab
/-! two keywords in the other order -/
namespace Ab
open PySem PySem.Spec PyProof.Rows L2
end Ab
/-! list.extend -/
namespace Ab
open PySem PySem.Spec PyProof.Rows L2
end Ab
/-! Ab35: statements that end in more than one way are joined; boxes are weakened. -/
namespace Ab
open PySem PySem.Spec PyProof.Rows L2
section
variable {X : Cx} {Γ Γ1 : Gam} {M : Mem} {k : AK} {st : Stmt} {sts : List Stmt} {p : Addr} {φ φ' : Mem0 → Prop}
theorem aS.mono {k' : AK} (h : aS X st Γ M k) (f1 : ∀ Γ M, k.nx Γ M → k'.nx Γ M) (f2 : ∀ d M, k.rt d M → k'.rt d M) (f3 : ∀ Γ M, k.bk Γ M → k'.bk Γ M) (f4 : ∀ Γ M, k.ct Γ M → k'.ct Γ M) : aS X st Γ M k' := fun Hi H σ ok en D q =>
  h Hi H σ ok en D ⟨fun Γ M σ Hi' H' p => q.nx Γ M σ Hi' H' (f1 Γ M p), fun d M v Hi' H' p => q.rt d M v Hi' H' (f2 d M p), fun Γ M σ Hi' H' p => q.bk Γ M σ Hi' H' (f3 Γ M p), fun Γ M σ Hi' H' p => q.ct Γ M σ Hi' H' (f4 Γ M p)⟩
end
end Ab
/-! Ab36: own exception classes over any built-in base: made by an own __init__ that calls the base's and stores fields. -/
namespace Ab
open PySem PySem.Spec PyProof.Rows L2
structure XCl (K : PySem.W.Frag) (C : Addr) (B newId initId : String) (tl : List Value) : Prop where
  fb : ExcBaseFacts B newId initId tl
  sf : StoreFacts B tl "object.__setattr__" "object"
  ini : PySem.W.excInitIn K C tl newId = true
  ovr : PySem.W.excOver K C tl = true
  hd : PySem.W.hasDictIn K C = true
  sa : PySem.W.findIn K (.ref C) "__setattr__" = some (some (.builtin "object.__setattr__"))
  exC : PySem.W.subIn K (.ref C) (.type "BaseException") = some true
  tyC : PySem.W.typeIn K (.ref C) = some (.type "type")
  kC : PySem.W.keepIn K (.ref C) = true
section
open Builtin.ObjectAttr
variable {prog : Program} {w : World} {A : Around} {E : Value → Shared → Prop} {R : Result → Shared → Prop} {hp : Heap} {g : Array GenState} {d : Drawn} {t : Nat} {os : OsState}
variable {K : PySem.W.Frag} {C : Addr} {B newId initId : String} {tl : List Value}
theorem XCl.cd (T : XCl K C B newId initId tl) : ∃ cd, PySem.W.clsIn K C = some cd ∧ cd.hasDict = true := by
  have h0 := T.hd
  unfold PySem.W.hasDictIn at h0
  cases e : PySem.W.clsIn K C with
  | none => simp [e] at h0
  | some c0 => exact ⟨c0, rfl, by simpa [e] using h0⟩
end
end Ab
/-! Ab37: the __init__ of an own exception class; C(..) makes an exception. -/
namespace Ab
open PySem PySem.Spec PyProof.Rows L2
/-! ### a def told by readings -/
/-! ### C(e, ..) -/
end Ab
/-! Ab38: pieces that may raise: yE, yS, ySs; raise; calls of defs that may raise; the promise of such a def. -/
namespace Ab
open PySem PySem.Spec PyProof.Rows L2
def XRep (K : PySem.W.Frag) (H : Hp) (cls : Value) (d : Option Addr) (C : Addr) (fs : List (Str × Val)) : Prop := cls = .ref C ∧ ((d = none ∧ fs = []) ∨ ∃ dd gs, d = some dd ∧ H dd = some (.xd gs) ∧ RepF K H fs gs)
theorem XRep.mono {K : PySem.W.Frag} {H H' : Hp} {cls : Value} {d : Option Addr} {C : Addr} {fs : List (Str × Val)} (e : Same H H') (h : XRep K H cls d C fs) : XRep K H' cls d C fs := by
  obtain ⟨h1, h2 | ⟨dd, gs, h2, h3, h4⟩⟩ := h
  · exact ⟨h1, .inl h2⟩
  · exact ⟨h1, .inr ⟨dd, gs, h2, e _ _ h3, h4.mono e⟩⟩
/-- an exception's class, fields, the memory -/
abbrev XP := Addr → List (Str × Val) → Mem → Prop
abbrev XG := Gam → XP
def XPost (K : PySem.W.Frag) (Hi : Hp) (PE : XP) (E : XK) : Prop := ∀ C fs M' Hi' H' cls d, PE C fs M' → Same Hi Hi' → Ok K Hi' M' H' → XRep K Hi' cls d C fs → E cls d H'
theorem XPost.up {K : PySem.W.Frag} {Hi Hi1 : Hp} {PE : XP} {E : XK} (h : XPost K Hi PE E) (e : Same Hi Hi1) : XPost K Hi1 PE E := fun C fs M' Hi' H' cls d p s => h C fs M' Hi' H' cls d p (e.trans s)
def XReal (K : PySem.W.Frag) (Hi : Hp) (ex : XG) (W : WX) : Prop := ∀ Γ C fs M' σ Hi' H' cls d, ex Γ C fs M' → Same Hi Hi' → Ok K Hi' M' H' → EnvR K Hi' Γ σ → XRep K Hi' cls d C fs → W cls d σ H'
theorem XReal.up {K : PySem.W.Frag} {Hi Hi1 : Hp} {ex : XG} {W : WX} (h : XReal K Hi ex W) (e : Same Hi Hi1) : XReal K Hi1 ex W := fun Γ C fs M' σ Hi' H' cls d p s => h Γ C fs M' σ Hi' H' cls d p (e.trans s)
abbrev Po (X : Cx) : Prop := PassesOwn (model X.prog X.w) X.A X.env X.xe
def yE (X : Cx) (e : Expr) (Γ : Gam) (M : Mem) (P : Val → Mem → Prop) (PE : XP) : Prop := ∀ W, Takes X W → Po X → ∀ Hi H σ, Ok X.K Hi M H → EnvR X.K Hi Γ σ → ∀ Q : VK, Post X.K Hi P Q → XPost X.K Hi PE (fun cls d H' => W cls d σ H') → WE X e σ H Q
def ySs (X : Cx) (s : List Stmt) (Γ : Gam) (M : Mem) (k : AK) (ex : XG) : Prop := ∀ W, Takes X W → Po X → ∀ Hi H σ, Ok X.K Hi M H → EnvR X.K Hi Γ σ → ∀ D, Real X.K Hi k D → XReal X.K Hi ex W → WB X s D σ H
section
variable {X : Cx} {Γ : Gam} {M : Mem} {P : Val → Mem → Prop} {PE : XP} {ex : XG} {e c : Expr} {es : List Expr} {pos p1 : Pos} {k : AK} {st : Stmt} {sts s1 s2 : List Stmt} {x : Str} {n : Nat}
theorem yE.mono {P' : Val → Mem → Prop} {PE' : XP} (h : yE X e Γ M P PE) (f : ∀ d M', P d M' → P' d M') (f2 : ∀ C fs M', PE C fs M' → PE' C fs M') : yE X e Γ M P' PE' := fun W tk po Hi H σ ok en Q q y => h W tk po Hi H σ ok en Q (fun d M1 v Hi1 H1 p => q d M1 v Hi1 H1 (f d M1 p)) fun C fs M' Hi' H' cls d p => y C fs M' Hi' H' cls d (f2 C fs M' p)
end
/-! ### raise C(e, ..) -/
end Ab
/-! Ab39: calls of defs that may raise, their promises. -/
namespace Ab
open PySem PySem.Spec PyProof.Rows L2
abbrev ASxe := List Val → List Val → Mem → (Val → Mem → Prop) → XP → Prop
def spE (K : PySem.W.Frag) (s : ASxe) (vs zs : List V) (H : Hp) (Q : VK) (E : XK) : Prop := ∃ Hi M ds es P PE, RepA K Hi ds vs ∧ RepA K Hi es zs ∧ Ok K Hi M H ∧ s ds es M P PE ∧ Post K Hi P Q ∧ XPost K Hi PE E
structure FnE (P : Program) (w : World) (K : PySem.W.Frag) (mg : Str → Option Value) (base : Heap) (k : Nat) (f : Addr) (ks : List Str) (sp : List V → List V → Hp → VK → XK → Prop) : Prop where
  run : ∀ (A : Around) (outer : List Env) (s : Shared) (H : Hp) (us ws : List Value) (vs zs : List V) (Q : VK) (E : XK), Rm k A → Env0 P w K mg base A outer s H → Vals vs us → Vals zs ws → zs.length = ks.length → sp vs zs H Q E →
    codeAny (model P w) A (.call (.ref f) ⟨us, ks.zip ws⟩) (CR (L2.CX P w) outer P w H s Q E) s
/-- the cells of a def may be dropped when it raises -/
inductive RetX (PE : XP) : XP
  | ok {C : Addr} {fs : List (Str × Val)} {M : Mem} : PE C fs M → RetX PE C fs M
  | drop {C : Addr} {fs : List (Str × Val)} {c : Addr × Cell} {M : Mem} : RetX PE C fs M → RetX PE C fs (c :: M)
theorem RetX.post {K : PySem.W.Frag} {PE : XP} {E : XK} {Hi : Hp} (q : XPost K Hi PE E) {C : Addr} {fs : List (Str × Val)} {M : Mem} (h : RetX PE C fs M) : ∀ {Hi' H' : Hp} {cls : Value} {d : Option Addr}, Same Hi Hi' → Ok K Hi' M H' → XRep K Hi' cls d C fs → E cls d H' := by
  induction h with
  | ok p => exact fun s ok r => q _ _ _ _ _ _ _ p s ok r
  | drop _ ih => exact fun s ok r => ih s ok.tail r
section
variable {P : Program} {w : World} {K : PySem.W.Frag} {mg : Str → Option Value} {base : Heap} {x qual : Str} {f : Addr} {fd : FuncData}
theorem FnE.weak {k : Nat} {ks : List Str} {sp sp' : List V → List V → Hp → VK → XK → Prop} (F : FnE P w K mg base k f ks sp) (h : ∀ vs zs H Q E, sp' vs zs H Q E → sp vs zs H Q E) : FnE P w K mg base k f ks sp' :=
  ⟨fun A outer s H us ws vs zs Q E hr e0 r rz hz hs => F.run A outer s H us ws vs zs Q E hr e0 r rz hz (h _ _ _ _ _ hs)⟩
theorem FnE.mono {j k : Nat} {ks : List Str} {sp : List V → List V → Hp → VK → XK → Prop} (F : FnE P w K mg base j f ks sp) (h : j ≤ k) : FnE P w K mg base k f ks sp := ⟨fun A outer s H us ws vs zs Q E hr => F.run A outer s H us ws vs zs Q E (hr.mono h)⟩
end
end Ab
/-! Ab40: try: .. except C as n: ..; the caught exception is a value from then on. -/
namespace Ab
open PySem PySem.Spec PyProof.Rows L2
/-! ### the same over values -/
end Ab
/-! Ab41: a caught exception's fields, its class. -/
namespace Ab
open PySem PySem.Spec PyProof.Rows L2
end Ab
/-! Ab42: loops whose body may raise; slots and cells forgotten. -/
namespace Ab
open PySem PySem.Spec PyProof.Rows L2
section
variable {X : Cx} {Γ : Gam} {M : Mem} {k : AK} {ex : XG} {c : Expr} {pos : Pos} {sts : List Stmt} {st : Stmt}
/-! slots and cells may be forgotten -/
theorem ySs.mono {k' : AK} (h : ySs X sts Γ M k ex) (f1 : ∀ Γ M, k.nx Γ M → k'.nx Γ M) (f2 : ∀ d M, k.rt d M → k'.rt d M) (f3 : ∀ Γ M, k.bk Γ M → k'.bk Γ M) (f4 : ∀ Γ M, k.ct Γ M → k'.ct Γ M) : ySs X sts Γ M k' ex := fun W tk po Hi H σ ok en D q y =>
  h W tk po Hi H σ ok en D ⟨fun Γ M σ Hi' H' p => q.nx Γ M σ Hi' H' (f1 Γ M p), fun d M v Hi' H' p => q.rt d M v Hi' H' (f2 d M p), fun Γ M σ Hi' H' p => q.bk Γ M σ Hi' H' (f3 Γ M p), fun Γ M σ Hi' H' p => q.ct Γ M σ Hi' H' (f4 Γ M p)⟩ y
end
end Ab
/-! Ab43: defs that may raise, with defaults or keywords. -/
namespace Ab
open PySem PySem.Spec PyProof.Rows L2
end Ab
/-! Ab44: repr of a number, a truth value, None, a text -/
namespace Ab
open PySem PySem.Spec PyProof.Rows L2
end Ab
/-! Ab45: classmethods (with keywords), making an instance through a local name, zip, not in, isinstance of several classes, constants of a class -/
namespace Ab
open PySem PySem.Spec PyProof.Rows L2
/-! ### classmethods -/
theorem callWith_MKW {K : PySem.W.Frag} {M : Model} {A : Around} {s : Shared} {E : Value → Shared → Prop} {env : Env} {pos : Pos} {q g : Addr} {self : Value} {Q : Value → Shared → Prop} {e : Expr} {rest : List Expr} {kws : List Keyword} (hf : PySem.W.fnIn K g = true) (hall : (backToKw pos (keywordEach kws env)).all (·.1.isSome) = true)
    (h : wpAny M A (spliced (backTo pos (starEach (e :: rest) env))) (fun vs s₁ => wpAny M A (evalAll ((backToKw pos (keywordEach kws env)).map (·.2)))
      (fun ks s₂ => PySem.W.MethP K q g self s₂.heap ∧ wpAny M A (call (.ref q) vs (((backToKw pos (keywordEach kws env)).filterMap (·.1)).zip ks)) Q E s₂) E s₁) E s)
    (hplain : ((backTo pos (starEach (e :: rest) env)).any (·.1) || (backToKw pos (keywordEach kws env)).any (·.1.isNone)) = false := by rfl) (he : starEach (e :: rest) env = (false, eval e env) :: starEach rest env := by rfl) :
    wpAny M A (callWith pos (.ref q) [] (backTo pos (starEach (e :: rest) env)) (backToKw pos (keywordEach kws env))) Q E s :=
  PySem.W.callWith_of hplain (PySem.W.keeps_M hf) (PyProof.Rows.evalArgs_kw2 hall h he)
section
variable {X : Cx} {Γ : Gam} {M : Mem} {P : Val → Mem → Prop} {o e a b : Expr} {es : List Expr} {pos p1 apos : Pos} {kws : List Keyword} {n q : Nat} {m x : Str} {C : Addr} {ks : List Str} {sx : ASx} {d d1 d2 : Val}
/-- C.m(e, .., k=..) -/
theorem ae_cmeth {mc : Value} {p g : Addr} {pl : Sem Bool} (r : ClX.CRead X.K C mc) (cm : ClX.CMet X.K C mc m p g) (F : FnX X.prog X.w X.K X.mg X.base n g ks (spX X.K sx)) (hr : Rm q X.A) (hq : n ≤ q) (ho : aV X o Γ M (.ptr C))
    (h : aA X (e :: es) Γ M fun ds M1 => aKw X kws Γ M1 fun zs M2 => zs.length = ks.length ∧ sx (.ptr C :: ds) zs M2 P)
    (hall : (backToKw pos (keywordEach kws X.env)).all (·.1.isSome) = true := by rfl) (hks : (backToKw pos (keywordEach kws X.env)).filterMap (·.1) = ks := by rfl)
    (he : starEach (e :: es) X.env = (false, eval e X.env) :: starEach es X.env := by rfl) (hpl : ((backTo pos (starEach (e :: es) X.env)).any (·.1) || (backToKw pos (keywordEach kws X.env)).any (·.1.isNone)) = false := by rfl)
    (ht : eval (.Call (.Attribute o m apos) (e :: es) kws pos) X.env = (do
      let ov ← eval o X.env
      standAt apos.atName
      let (f, first) ← holding [ov] (getMethod ov m pl)
      callWith pos f first (backTo pos (starEach (e :: es) X.env)) (backToKw pos (keywordEach kws X.env))) := by rfl) : aE X (.Call (.Attribute o m apos) (e :: es) kws pos) Γ M P := fun Hi H σ ok en Q qq => by
  refine ⟨fun σ H Q => WE X o σ H fun x H0 => x = .ref C ∧ WA X (e :: es) σ H0 fun vs H1 => WK X kws σ H1 fun zs H2 => zs.length = ks.length ∧ spX X.K sx (.ref C :: vs) zs H2 Q, ⟨fun pins s σ H Q I h => ?_⟩, ?_⟩
  · refine PySem.W.methodCall_KW (pl := pl) (thn (pe_we.run pins s σ H _ I h) fun u s1 ⟨x, H1, I1, rx, ex, q⟩ => ?_) ht
    subst ex
    obtain rfl : u = Value.ref C := rx
    refine ClX.getmethcm_ok I1 r cm fun s' I2 => ?_
    refine callWith_MKW (self := .ref C) cm.fi hall (thn (pa_wa.run pos _ _ σ H1 _ I2 q) fun us s2 ⟨vs, H2, I3, rv, q2⟩ => ?_) hpl he
    refine thn (pk_wk.run pos _ s2 σ H2 _ I3 q2) fun ws s3 ⟨zs, H3, I4, rz, l2, q3⟩ => ⟨⟨ClX.pin_at I4, I4.kIn⟩, ?_⟩
    rw [hks]
    have z : wpAny (model X.prog X.w) X.A (call (.ref s1.heap.objs.size) us (ks.zip ws)) (EP X ((s1.heap.objs.size, PySem.W.methodObj (.ref g) (.ref C)) :: pins) σ Q) X.xe s3 := by
      refine wpAny_call (PySem.W.method_call (ClX.pin_at I4) (codeAny_mono (F.run X.A X.stack s3 H3 (.ref C :: us) ws (.ref C :: vs) zs Q (hr.mono hq) I4.env0 (.cons rfl rv) rz l2 q3) fun r s'' hq' => ?_))
      cases r with
      | error e => exact False.elim hq'
      | ok fl =>
        cases fl with
        | ret u => exact I4.after hq'
        | next => exact False.elim hq'
        | brk => exact False.elim hq'
        | cont => exact False.elim hq'
    exact thn z fun _ _ y => ClX.unpinE y
  · refine ho Hi H σ ok en _ fun x M0 v0 Hi0 H0 h0 s0 ok0 r0 => ?_
    obtain ⟨rfl, rfl⟩ := h0
    cases r0
    refine ⟨rfl, ?_⟩
    refine h Hi0 H0 σ ok0 (en.mono s0) _ fun ds M1 vs Hi1 H1 h1 s1 ok1 r1 => ?_
    refine h1 Hi1 H1 σ ok1 (en.mono (s0.trans s1)) _ fun zs M2 ws Hi2 H2 h2 s2 ok2 r2 => ?_
    exact ⟨r2.length.symm.trans h2.1, Hi2, M2, _, zs, P, .cons (.ptr C) (r1.mono s2), r2, ok2, h2.2, qq.up ((s0.trans s1).trans s2)⟩
/-- C.f, a constant of the class -/
theorem av_cval {mc u : Value} {f : Str} {v : V} (r : ClX.CRead X.K C mc) (k : ClX.CVal X.K C mc f v u) (ha : aV X a Γ M (.ptr C)) (rep : ∀ H, Rep X.K H d v) (hb : attributeBase a f X.env (eval a X.env) = eval a X.env := by rfl) : aV X (.Attribute a f pos) Γ M d := fun Hi H σ ok en Q q => by
  refine ⟨_, ClX.pe_cval pe_we hb, ?_⟩
  refine ha Hi H σ ok en _ fun x M1 w Hi1 H1 h1 s1 ok1 r1 => ?_
  obtain ⟨rfl, rfl⟩ := h1
  cases r1
  exact ⟨C, mc, v, u, rfl, r, k, q _ _ v Hi1 H1 ⟨rfl, rfl⟩ s1 ok1 (rep _)⟩
/-! ### zip of two tuples -/
/-! ### i not in (j, ..) -/
end
end Ab
namespace K13
open PySem L2 Ab Sm
section
variable {P : Program} {w : World} {K : PySem.W.Frag} {mg : Str → Option Value} {base : Heap} {k : Nat} {f C CN : Addr}
/-! ### is_integer of nodes.py, need_schedule -/
def aInn : ASp := fun ds M R => ∃ n lo : Int, ds = [.int n, .int lo] ∧ R (.bl (decide (lo ≤ n))) M
theorem b_is_integer_nodes (B : Bt mg) : BodyOk P w K mg base k f n_is_integer_nodes "is_integer" (defScope s_is_integer_nodes) (defBody s_is_integer_nodes) aInn := by
  rintro cdv A outer s H E hr ds M R ⟨n, lo, rfl, hp⟩
  refine as_one (as_ret (ae_and (ae_isi B.isinstance (v_ 0) (av_ty (T := "int") B.int (by decide +kernel)) (.ty "int") (.int _) (kit_ty (by decide +kernel)) ⟨true, rfl, fun _ => ?_, ntf⟩)))
  refine ae_and (ae_not (ae_isi B.isinstance (v_ 0) (av_ty (T := "bool") B.bool (by decide +kernel)) (.ty "bool") (.int _) (kit_ty (by decide +kernel)) ⟨false, rfl, true, rfl, fun _ => ?_, ntf⟩))
  exact ae_one (ae_cmp (v_ 0) (v_ 1) cmp_ge (.ok hp))
abbrev GInn (P : Program) (w : World) (K : PySem.W.Frag) (mg : Str → Option Value) (base : Heap) : Prop := Gd P w K mg base 1 "is_integer_nodes" [] fun ds _ => aInn ds
def aNsc (C : Addr) : ASp := fun ds M R => ∃ S : Sc, ds = [scV C S] ∧ R .non M
theorem b_need_schedule (B : Bt mg) (T : Rs K mg C) (IS : Isi K C) : BodyOk P w K mg base k f n_need_schedule "need_schedule" (defScope s_need_schedule) (defBody s_need_schedule) (aNsc C) := by
  rintro cdv A outer s0 H E hr ds M R ⟨S, rfl, hp⟩
  exact as_one (as_if (at_not (at_val (ae_isi B.isinstance (v_ 0) (ae_glob T.gC ⟨rfl, rfl⟩) (.own C) (ty_sc T IS) IS.c5 ⟨true, rfl, nft, fun _ => as_nil (.ok hp)⟩))))
abbrev GNsc (P : Program) (w : World) (K : PySem.W.Frag) (mg : Str → Option Value) (base : Heap) (C : Addr) : Prop := Gd P w K mg base 1 "need_schedule" [] fun ds _ => aNsc C ds
/-! ### sizes_up_to, end_of_stage -/
theorem szS_succ {S : Sc} (hS : GoodS S) (t : Nat) : item S.lv (t + 1) + S.a * szS S t = szS S (t + 1) := by
  have := hS.a2
  unfold szS
  rw [siz, Int.toNat_of_nonneg (by omega)]
theorem edS_step {S : Sc} (hS : GoodS S) (t : Nat) : edS S t + item S.sp (t + 1) + (S.a - 1) * szS S t = edS S (t + 1) := by
  have := hS.a2
  unfold edS szS
  rw [ed, Int.toNat_of_nonneg (by omega)]
def aSzu (C : Addr) : ASp := fun ds M R => ∃ (S : Sc) (h : Nat), ds = [scV C S, .int (h : Int)] ∧ GoodS S ∧ h ≤ 8000 ∧ R (.lst ((upL (szS S) h).map .int)) M
theorem b_sizes_up_to (B : Bt mg) (T : Rs K mg C) (Q : Sm2 P w K mg base C) (PA : PrA P w K mg base C) : BodyOk P w K mg base 3 f n_sizes_up_to "sizes_up_to" (defScope s_sizes_up_to) (defBody s_sizes_up_to) (aSzu C) := by
  rintro cdv A outer s0 H E hr ds M R ⟨S, h, rfl, hS, h30, hp⟩
  have a2 := hS.a2
  have a9 := hS.a9
  refine as_cons (as_set 2 q_sizes_up_to.nd (ae_lstC (aa_cons (aE.val (av_la T Q hr (by decide) (v_ 0) i_ (by assumption) (by omega)) (aa_nil ⟨szb, fun q => ?_⟩)))))
  refine as_cons (as_forW PassesOwn.never rfl (aj_range2 B.range (aA.val (avs_cons i_ (avs_cons (av_add (v_ 1) i_) avs_nil)) ⟨_, _, rfl, ⟨by omega, by omega, by omega, by omega⟩, ?_⟩)))
  refine ⟨fun t Γ M' => M' = (q, .lst ((upL (szS S) t).map .int)) :: M ∧ Γ = [some (scV C S), some (.int (h : Int)), some (.ptr q), none], ⟨_, _, ⟨rfl, rfl⟩, (by repeat' first | exact le_nil | refine le_skip ?_ | refine le_keep rfl ?_), (by repeat' first | exact List.Sublist.refl _ | exact List.sublist_append_right _ _ | apply List.Sublist.cons₂ | apply List.Sublist.cons)⟩, ?_, ?_⟩
  · rintro t Γ M' ht ⟨rfl, rfl⟩
    have hl := up_len (g := szS S) (n := t)
    refine ag_name 3 q_sizes_up_to.nd ?_
    refine as_one (as_expr (ae_append (n0 := 0) (v_ 2) rfl (aE.val (av_add (av_la T Q hr (by decide) (v_ 0) (v_ 3) (by assumption) (by omega)) (av_mulU (av_arity T PA hr (by decide) (v_ 0)) (av_ix (v_ 2) (av_sub (v_ 3) i_) (by first | exact .iT (by omega) (by omega) | exact .iL (by omega) (by omega) | exact .ci 0 rfl (by omega) (by omega) | exact .ci 1 rfl (by omega) (by omega) | exact .t rfl | exact .l rfl | exact .c 0 rfl rfl | exact .c 1 rfl rfl | assumption | exact .ci _ (by assumption) (by omega) (by omega))) (by first | exact .inl (.inl ⟨by omega, by omega⟩) | exact .inl (.inr ⟨by omega, by omega⟩) | assumption))) ⟨0, _, rfl, (szl (by rw [List.length_map, hl]; omega)), ?_⟩)))
    have e2 : item S.lv (1 + (t : Int)).toNat + S.a * at0 (upL (szS S) t) (1 + (t : Int) - 1) = szS S (t + 1) := by
      rw [up_at (by omega) (by omega), show (1 + (t : Int)).toNat = t + 1 by omega, show (1 + (t : Int) - 1).toNat = t by omega]
      exact szS_succ hS t
    rw [e2, up_succ]
    exact ⟨_, _, ⟨rfl, rfl⟩, (by repeat' first | exact le_nil | refine le_skip ?_ | refine le_keep rfl ?_), (by repeat' first | exact List.Sublist.refl _ | exact List.sublist_append_right _ _ | apply List.Sublist.cons₂ | apply List.Sublist.cons)⟩
  · rintro Γ M' ⟨rfl, rfl⟩
    rw [show ((h : Int) + 1 - 1).toNat = h by omega]
    exact as_one (as_ret ((v_ 2).val (.frz (.ok hp))))
abbrev GSzu (P : Program) (w : World) (K : PySem.W.Frag) (mg : Str → Option Value) (base : Heap) (C : Addr) : Prop := Gd P w K mg base 4 "sizes_up_to" [] fun ds _ => aSzu C ds
def aEos (C : Addr) : ASp := fun ds M R => ∃ (S : Sc) (n st : Nat), ds = [scV C S, .lst ((upL (szS S) n).map .int), .int (st : Int)] ∧ GoodS S ∧ st ≤ 8000 ∧ st ≤ n + 1 ∧ R (.int (edS S st)) M
theorem b_end_of_stage (B : Bt mg) (T : Rs K mg C) (Q : Sm2 P w K mg base C) (PA : PrA P w K mg base C) : BodyOk P w K mg base 3 f n_end_of_stage "end_of_stage" (defScope s_end_of_stage) (defBody s_end_of_stage) (aEos C) := by
  rintro cdv A outer s0 H E hr ds M R ⟨S, n, st, rfl, hS, h30, hst, hp⟩
  have a2 := hS.a2
  have a9 := hS.a9
  have hl := up_len (g := szS S) (n := n)
  refine as_cons (as_setv 3 q_end_of_stage.nd (av_sa T Q hr (by decide) (v_ 0) i_ (by assumption) (by omega)) ?_)
  refine as_cons (as_forW PassesOwn.never rfl (aj_range2 B.range (aA.val (avs_cons i_ (avs_cons (av_add (v_ 2) i_) avs_nil)) ⟨_, _, rfl, ⟨by omega, by omega, by omega, by omega⟩, ?_⟩)))
  refine ⟨fun t Γ M' => M' = M ∧ Γ = [some (scV C S), some (.lst ((upL (szS S) n).map .int)), some (.int (st : Int)), some (.int (edS S t)), none], ⟨_, _, ⟨rfl, rfl⟩, (by repeat' first | exact le_nil | refine le_skip ?_ | refine le_keep rfl ?_), (by repeat' first | exact List.Sublist.refl _ | exact List.sublist_append_right _ _ | apply List.Sublist.cons₂ | apply List.Sublist.cons)⟩, ?_, ?_⟩
  · rintro t Γ M' ht ⟨rfl, rfl⟩
    refine ag_name 4 q_end_of_stage.nd ?_
    refine as_one (as_setv 3 q_end_of_stage.nd (av_add (av_add (v_ 3) (av_sa T Q hr (by decide) (v_ 0) (v_ 4) (by assumption) (by omega))) (av_mulU (av_sub (av_arity T PA hr (by decide) (v_ 0)) i_) (av_ix (v_ 1) (av_sub (v_ 4) i_) (by first | exact .iT (by omega) (by omega) | exact .iL (by omega) (by omega) | exact .ci 0 rfl (by omega) (by omega) | exact .ci 1 rfl (by omega) (by omega) | exact .t rfl | exact .l rfl | exact .c 0 rfl rfl | exact .c 1 rfl rfl | assumption | exact .ci _ (by assumption) (by omega) (by omega))) (by first | exact .inl (.inl ⟨by omega, by omega⟩) | exact .inl (.inr ⟨by omega, by omega⟩) | assumption))) ?_)
    have e2 : edS S t + item S.sp (1 + (t : Int)).toNat + (S.a - 1) * at0 (upL (szS S) n) (1 + (t : Int) - 1) = edS S (t + 1) := by
      rw [up_at (by omega) (by omega), show (1 + (t : Int)).toNat = t + 1 by omega, show (1 + (t : Int) - 1).toNat = t by omega]
      exact edS_step hS t
    rw [e2]
    exact ⟨_, _, ⟨rfl, rfl⟩, (by repeat' first | exact le_nil | refine le_skip ?_ | refine le_keep rfl ?_), (by repeat' first | exact List.Sublist.refl _ | exact List.sublist_append_right _ _ | apply List.Sublist.cons₂ | apply List.Sublist.cons)⟩
  · rintro Γ M' ⟨rfl, rfl⟩
    rw [show ((st : Int) + 1 - 1).toNat = st by omega]
    exact as_one (as_retv (v_ 3) (.ok hp))
abbrev GEos (P : Program) (w : World) (K : PySem.W.Frag) (mg : Str → Option Value) (base : Heap) (C : Addr) : Prop := Gd P w K mg base 4 "end_of_stage" [] fun ds _ => aEos C ds
/-! ### need_height, branch_size, stage_end -/
structure NdC (K : PySem.W.Frag) (mg : Str → Option Value) (CN : Addr) : Prop where
  gN : mg "Node" = some (.ref CN)
  rd : ClX.CRead K CN (.type "type")
  mh : ∃ t, ClX.CVal K CN (.type "type") "MAX_HEIGHT" (.int 3000) (.int 3000 t)
theorem av_mh {X : Cx} {Γ : Gam} {M : Mem} {p1 pos : Pos} (N : NdC X.K X.mg CN) (hg : Gl X "Node" := by rfl) (hb : attributeBase (.Name "Node" p1) "MAX_HEIGHT" X.env (eval (.Name "Node" p1) X.env) = eval (.Name "Node" p1) X.env := by rfl) : aV X (.Attribute (.Name "Node" p1) "MAX_HEIGHT" pos) Γ M (.int 3000) := by
  obtain ⟨t, v⟩ := N.mh
  exact av_cval N.rd v (ae_glob N.gN ⟨rfl, rfl⟩ hg) (fun _ => .int 3000) hb
def aNht : ASp := fun ds M R => ∃ h : Int, ds = [.int h] ∧ 0 ≤ h ∧ h ≤ 3000 ∧ R .non M
theorem b_need_height (N : NdC K mg CN) (GI : GInn P w K mg base) : BodyOk P w K mg base 1 f n_need_height "need_height" (defScope s_need_height) (defBody s_need_height) aNht := by
  rintro cdv A outer s0 H E hr ds M R ⟨h, rfl, h0, h1, hp⟩
  refine as_one (as_if (at_w (aw_or (at_not (at_val (ae_g GI hr (by decide) (aa_cons ((v_ 0).val (aa_cons (i_.val (aa_nil (ak_nil ⟨rfl, h, 0, rfl, true, ?_, nft, fun _ => ?_⟩)))))))))))) 
  · rw [decide_eq_true h0]
  · exact aw_or1 (at_cmp (v_ 0) (av_mh N) (cmp_gtF h1) ⟨nft, fun _ => as_nil (.ok hp)⟩)
abbrev GNht (P : Program) (w : World) (K : PySem.W.Frag) (mg : Str → Option Value) (base : Heap) : Prop := Gd P w K mg base 2 "need_height" [] fun ds _ => aNht ds
def aBsz (C : Addr) : ASp := fun ds M R => ∃ (S : Sc) (h : Nat), ds = [scV C S, .int (h : Int)] ∧ GoodS S ∧ h ≤ 3000 ∧ R (.int (szS S h)) M
theorem b_branch_size (g_need_schedule : GNsc P w K mg base C) (g_need_height : GNht P w K mg base) (G : GSzu P w K mg base C) : BodyOk P w K mg base 4 f n_branch_size "branch_size" (defScope s_branch_size) (defBody s_branch_size) (aBsz C) := by
  rintro cdv A outer s0 H E hr ds M R ⟨S, h, rfl, hS, h30, hp⟩
  have hl := up_len (g := szS S) (n := h)
  refine as_cons (as_expr (aE.val (ae_g g_need_schedule hr (by decide) (aa_cons (aE.val (v_ 0) (aa_nil (ak_nil ⟨rfl, _, rfl, rfl, rfl⟩))))) ?_))
  refine as_cons (as_expr (aE.val (ae_g g_need_height hr (by decide) (aa_cons (aE.val (v_ 1) (aa_nil (ak_nil ⟨rfl, _, rfl, (by omega), (by omega), rfl, rfl⟩))))) ?_))
  refine as_one (as_ret (ae_ixV (ae_g G hr (by decide) (aa_cons ((v_ 0).val (aa_cons ((v_ 1).val (aa_nil (ak_nil ⟨rfl, S, h, rfl, hS, by omega, (v_ 1).val ⟨_, _, rfl, .iL (by omega) (by omega), ?_⟩⟩)))))))))
  rw [up_at (by omega) (by omega), Int.toNat_natCast]
  exact .ok hp
abbrev GBsz (P : Program) (w : World) (K : PySem.W.Frag) (mg : Str → Option Value) (base : Heap) (C : Addr) : Prop := Gd P w K mg base 5 "branch_size" [] fun ds _ => aBsz C ds
end
end K13
/-! Ab46: isinstance(x, (C1, C2)) -/
namespace Ab
open PySem PySem.Spec PyProof.Rows L2
end Ab
/-! repr of great ints (up to 12900 binary digits), alone and within lists and tuples -/
namespace Ab
open PySem PySem.Spec PyProof.Rows L2 PySem.Builtin
section
variable {prog : Program} {w : World} {A : Around} {E : Value → Shared → Prop} {s : Shared} {h₀ : Heap}
def Tells (prog : Program) (w : World) (h₀ : Heap) (v : Value) (p : PyData) : Prop := ∃ bs, ReadAtMost h₀ p.depth bs ∧ ReprK prog w bs h₀ p.depth v p.shown
theorem Tells.of {v : Value} {p : PyData} (h : ReprK prog w [] h₀ p.depth v p.shown) : Tells prog w h₀ v p := ⟨[], (fun _ z => nomatch z), h⟩
end
/-! ### on values -/
end Ab
/-! a run that cannot wake the generators that slept when it began leaves them as they are -/
namespace Ab
open PySem PySem.Spec PyProof.Rows L2 GenW
/-- what stands at a place of the two tables: in the run whose sleepers cannot be woken, in the run itself -/
inductive Tw : GenState → GenState → Prop
  | same {x : GenState} (h : ∀ k l c p fs cl, x = .suspended k l c p fs cl → splitAtGen fs = none) : Tw x x
  | slept {k : Resume → Sem PySem.Fin} {l : List Value} {c : Code} {p : Pos} {fs : List Frame} {cl : Bool} : Tw (.suspended (fun _ => .unsupported "slept") l c p fs cl) (.suspended k l c p fs cl)
def GTw (a b : Array GenState) : Prop := a.size = b.size ∧ ∀ (i : Nat) x y, a[i]? = some x → b[i]? = some y → Tw x y
def Sl (x : GenState) : Prop := ∃ l c p fs cl, x = .suspended (fun _ => .unsupported "slept") l c p fs cl
def Stay (a b a' b' : Array GenState) : Prop := ∀ (i : Nat) x, a[i]? = some x → Sl x → a'[i]? = some x ∧ b'[i]? = b[i]?
theorem Stay.refl (a b : Array GenState) : Stay a b a b := fun i x h _ => ⟨h, rfl⟩
theorem Stay.trans {a b a1 b1 a2 b2 : Array GenState} (h : Stay a b a1 b1) (h2 : Stay a1 b1 a2 b2) : Stay a b a2 b2 := fun i x e z => by
  obtain ⟨e1, e2⟩ := h i x e z
  obtain ⟨e3, e4⟩ := h2 i x e1 z
  exact ⟨e3, e4.trans e2⟩
theorem Tw.bare {x y : GenState} (h : Tw x y) : x.bare = y.bare := by
  cases h with
  | same => rfl
  | slept => rfl
theorem GTw.get {a b : Array GenState} (h : GTw a b) {i : Nat} {x : GenState} (e : a[i]? = some x) : ∃ y, b[i]? = some y ∧ Tw x y := by
  obtain ⟨hi, _⟩ := Array.getElem?_eq_some_iff.mp e
  have hi' : i < b.size := h.1 ▸ hi
  exact ⟨b[i], Array.getElem?_eq_getElem hi', h.2 i x _ e (Array.getElem?_eq_getElem hi')⟩
theorem GTw.set {a b : Array GenState} (h : GTw a b) (g : Nat) {x : GenState} (hx : ∀ k l c p fs cl, x = .suspended k l c p fs cl → splitAtGen fs = none) : GTw (a.setIfInBounds g x) (b.setIfInBounds g x) := by
  refine ⟨by rw [Array.size_setIfInBounds, Array.size_setIfInBounds]; exact h.1, fun i u v hu hv => ?_⟩
  rw [Array.getElem?_setIfInBounds] at hu hv
  by_cases e : g = i
  · subst e
    rw [if_pos rfl] at hu hv
    by_cases hl : g < a.size
    · rw [if_pos hl] at hu
      rw [if_pos (h.1 ▸ hl)] at hv
      cases hu
      cases hv
      exact .same hx
    · rw [if_neg hl] at hu
      cases hu
  · rw [if_neg e] at hu hv
    exact h.2 i u v hu hv
theorem GTw.push {a b : Array GenState} (h : GTw a b) (c : Code) : GTw (a.push (.fresh c)) (b.push (.fresh c)) := by
  refine ⟨by rw [Array.size_push, Array.size_push, h.1], fun i u v hu hv => ?_⟩
  rw [Array.getElem?_push] at hu hv
  by_cases e : i = a.size
  · rw [if_pos e] at hu
    rw [if_pos (e.trans h.1)] at hv
    cases hu
    cases hv
    exact .same fun _ _ _ _ _ _ z => nomatch z
  · rw [if_neg e] at hu
    rw [if_neg (fun z => e (z.trans h.1.symm))] at hv
    exact h.2 i u v hu hv
end Ab
/-! generators: the heap cut, objects that stand by while one sleeps -/
namespace Ab
open PySem PySem.Spec PyProof.Rows L2 GenW
/-- the first B objects -/
def cutH (B : Nat) (h : Heap) : Heap := ⟨(h.objs.toList.take B).toArray, h.life⟩
def cutS (B : Nat) (s : Shared) : Shared := { s with heap := cutH B s.heap }
/-! ### what stands by -/
abbrev Own := List (Addr × Obj)
section
variable {ow : Own} {H H' Hi Hi' : Hp} {b : Addr} {o : Obj} {x : HO}
/-- a raw thing is no exception -/
theorem raw_exc {C : Addr} {d : Option Addr} {o : Obj} : rawH b o ≠ exH b C d := fun e => by
  unfold rawH exH at e
  have e1 := HO.ext.inj e
  let o1 : Obj := { cls := .ref C, dict := d, data := .fields #[], slots := #[] }
  let o2 : Obj := { cls := .ref C, dict := d, data := .fields #[.none], slots := #[] }
  have go : ∀ (u : Obj) (vs : Array Value), u.data = .fields vs → Zc (.ref C) d u → u = o := fun u vs hd hz => by
    have hp : ∃ h : Heap, h.get? b = some u := by
      refine ⟨⟨Array.replicate (b + 1) u, {}⟩, ?_⟩
      unfold Heap.get?
      simp only [Array.getElem?_replicate, Nat.lt_succ_self, if_true]
      obtain ⟨c, dd, dt, sl⟩ := u
      have hd : dt = .fields vs := hd
      subst hd
      rfl
    obtain ⟨h, hh⟩ := hp
    have := congrFun e1 h
    have h2 : h.get? b = some o := this.mpr ⟨u, vs, hh, hz, hd⟩
    rw [hh] at h2
    cases h2
    rfl
  have e2 := go o1 #[] rfl ⟨rfl, rfl⟩
  have e3 := go o2 #[.none] rfl ⟨rfl, rfl⟩
  have e4 : o1 = o2 := e2.trans e3.symm
  have e5 := congrArg Obj.data e4
  cases e5
/-- nor a code object -/
theorem raw_code {q : Str} {o : Obj} : rawH b o ≠ LamX.CodeO b q := fun e => by
  unfold rawH LamX.CodeO at e
  have e1 := HO.ext.inj e
  let o1 : Obj := { cls := .none, dict := none, data := .fields #[.none, .str q 0], slots := #[] }
  let o2 : Obj := { cls := .none, dict := none, data := .fields #[.none, .str q 1], slots := #[] }
  have go : ∀ (u : Obj) (vs : Array Value) (tk : Tok), u.data = .fields vs → vs[1]? = some (.str q tk) → u = o := fun u vs tk hd hz => by
    have hp : ∃ h : Heap, h.get? b = some u := by
      refine ⟨⟨Array.replicate (b + 1) u, {}⟩, ?_⟩
      unfold Heap.get?
      simp only [Array.getElem?_replicate, Nat.lt_succ_self, if_true]
      obtain ⟨c, dd, dt, sl⟩ := u
      have hd : dt = .fields vs := hd
      subst hd
      rfl
    obtain ⟨h, hh⟩ := hp
    have := congrFun e1 h
    have h2 : h.get? b = some o := this.mpr ⟨u, vs, tk, hh, hd, hz⟩
    rw [hh] at h2
    cases h2
    rfl
  have e2 := go o1 #[.none, .str q 0] 0 rfl rfl
  have e3 := go o2 #[.none, .str q 1] 1 rfl rfl
  have e4 : o1 = o2 := e2.trans e3.symm
  have e5 := congrArg Obj.data e4
  simp [o1, o2] at e5
theorem Kp.sqL {K : PySem.W.Frag} {a : Addr} {xs : List V} (e : Kp H H') (h : SqL K H a xs) : SqL K H' a xs := by
  rcases h with (h | ⟨o, h⟩) | h
  · exact .inl (.inl (e _ _ h fun o z => by cases z))
  · exact .inl (.inr ⟨o, e _ _ h fun o z => by cases z⟩)
  · exact .inr h
theorem Kp.sqT {K : PySem.W.Frag} {a : Addr} {xs : List V} (e : Kp H H') (h : SqT K H a xs) : SqT K H' a xs := by
  rcases h with (h | ⟨o, h⟩) | h
  · exact .inl (.inl (e _ _ h fun o z => by cases z))
  · exact .inl (.inr ⟨o, e _ _ h fun o z => by cases z⟩)
  · exact .inr h
end
mutual
theorem Rep.kp {K : PySem.W.Frag} {H H' : Hp} (e : Kp H H') : ∀ {d : Val} {v : V}, Rep K H d v → Rep K H' d v
  | _, _, .non => .non
  | _, _, .bl b => .bl b
  | _, _, .int i => .int i
  | _, _, .str x => .str x
  | _, _, .ty n => .ty n
  | _, _, .ptr a => .ptr a
  | _, _, .lst h r => .lst (e.sqL h) (RepA.kp e r)
  | _, _, .tup h r => .tup (e.sqT h) (RepA.kp e r)
  | _, _, .obj h r => .obj (e _ _ h fun o z => by cases z) (RepF.kp e r)
  | _, _, .exc h d r => .exc (e _ _ h fun o z => raw_exc z.symm) (e _ _ d fun o z => by cases z) (RepF.kp e r)
  | _, _, .exc0 h => .exc0 (e _ _ h fun o z => raw_exc z.symm)
  | _, _, .lam h => .lam (h.trans e)
theorem RepA.kp {K : PySem.W.Frag} {H H' : Hp} (e : Kp H H') : ∀ {ds : List Val} {vs : List V}, RepA K H ds vs → RepA K H' ds vs
  | _, _, .nil => .nil
  | _, _, .cons a r => .cons (Rep.kp e a) (RepA.kp e r)
theorem RepF.kp {K : PySem.W.Frag} {H H' : Hp} (e : Kp H H') : ∀ {ds : List (Str × Val)} {vs : List (Str × V)}, RepF K H ds vs → RepF K H' ds vs
  | _, _, .nil => .nil
  | _, _, .cons a r => .cons (Rep.kp e a) (RepF.kp e r)
end
theorem RepK.kp {K : PySem.W.Frag} {H H' : Hp} (e : Kp H H') : ∀ {ds : List (Key × Val)} {vs : List (Key × V)}, RepK K H ds vs → RepK K H' ds vs
  | _, _, .nil => .nil
  | _, _, .cons a r => .cons (a.kp e) (RepK.kp e r)
theorem RepC.kp {K : PySem.W.Frag} {H H' : Hp} (e : Kp H H') : ∀ {c : Cell0} {o : HO}, RepC K H c o → RepC K H' c o
  | .lst _, _, ⟨xs, h, r⟩ => ⟨xs, h, r.kp e⟩
  | .dk _, _, ⟨kvs, h, r⟩ => ⟨kvs, h, r.kp e⟩
  | .ins _ _, _, ⟨dx, fs, h, r⟩ => ⟨dx, fs, h, r.kp e⟩
  | .fz _ _ _, _, ⟨h, r⟩ => ⟨h, r.kp e⟩
  | .tb _, _, ⟨ps, h, t, r⟩ => ⟨ps, h, t, fun pos cv hc => let ⟨c, h1, h2⟩ := r pos cv hc; ⟨c, h1, e _ _ h2 fun o z => raw_code z.symm⟩⟩
theorem EnvR.kp {K : PySem.W.Frag} {H H' : Hp} {Γ : Gam} {σ : L2.St} (e : Kp H H') (h : EnvR K H Γ σ) : EnvR K H' Γ σ := ⟨h.1, fun i d q => let ⟨v, h1, h2⟩ := h.2 i d q; ⟨v, h1, h2.kp e⟩⟩
end Ab
/-! generators: the contract, statements of a generator's body -/
namespace Ab
open PySem PySem.Spec PyProof.Rows L2 GenW
/-- what is wanted of a wake: an item and where the generator then stands, or its end; the cells then -/
abbrev Hnd (τ : Type) := Option (Val × τ) → Mem → Prop
/-- a wake: where the generator stands, the abstract heap and the cells then, what is wanted, what must stay as it is -/
structure Wkg (τ : Type) where
  x : τ
  Hi : Hp
  H : Hp
  M : Mem
  R : Hnd τ
  pn : List (Addr × Obj)
/-- a generator: Tr: what a wake does; Th: when its consumer wakes it -/
structure GX (τ : Type) where
  P : Program
  w : World
  K : PySem.W.Frag
  mg : Str → Option Value
  base : Heap
  N : List Str
  qual : Str
  sc : Scope
  f : Addr
  cdv : Value
  A : Around
  outer : List Env
  B : Nat
  gp : Addr × Obj
  Tr : τ → Mem → Hnd τ → Prop
  Th : Nat → Wkg τ → Shared → Prop
/-- the context of a generator's body since a wake -/
abbrev gcx (P : Program) (w : World) (K : PySem.W.Frag) (mg : Str → Option Value) (base : Heap) (N : List Str) (qual : Str) (sc : Scope) (f : Addr) (cdv : Value) (A : Around) (outer : List Env) (B : Nat) (pn : List (Addr × Obj)) (H : Hp) (s : Shared) : Cx :=
  { prog := P, w := w, K := K, mg := mg, base := base, A := A.deeper (envOfC qual sc B f cdv), N := N, s_0 := cutS B s, H_0 := H, env := envOfC qual sc B f cdv, outer := outer, stack := envOfC qual sc B f cdv :: outer,
    ex := [], fn := fun _ => true, calm := true, pn := pn, xe := fun _ _ => False }
section
variable {τ : Type}
abbrev GX.env (G : GX τ) : Env := envOfC G.qual G.sc G.B G.f G.cdv
abbrev GX.cx (G : GX τ) (H : Hp) (s : Shared) (pn : List (Addr × Obj)) : Cx := gcx G.P G.w G.K G.mg G.base G.N G.qual G.sc G.f G.cdv G.A G.outer G.B (G.gp :: pn) H s
/-- what is true of it through its life -/
structure GOk (G : GX τ) : Prop where
  mod : Mod G.K G.mg G.base
  kind : G.sc.kind = .function
  co : G.sc.isCoroutine = false
  inj : ∀ x y c, G.env.cells.lookup x = some c → G.env.cells.lookup y = some c → x = y
  has : ∀ x, (G.env.kindOf x = some .cell ∨ G.env.kindOf x = some .free) → ∃ c, G.env.cells.lookup x = some c
  cab : ∀ x c, G.env.cells.lookup x = some c → G.B < c
  hd : G.A.handled = none
  frames : G.A.frames = some G.outer
  bsz : G.base.objs.size ≤ G.B
  sml : ∀ b ∈ frs G.outer, b < G.B
  gpB : G.B < G.gp.1
  gpd : ∀ v, G.gp.2.data ≠ .cell v
  gpc : ∀ x c, G.env.cells.lookup x = some c → c ≠ G.gp.1
structure PinOk (G : GX τ) (H : Hp) (s : Shared) (p : Addr × Obj) : Prop where
  at_ : s.heap.get? p.1 = some p.2
  no : H p.1 = none
  loc : p.1 ≠ G.B
  fr : p.1 ∉ frs G.outer
  nc : ∀ v, p.2.data ≠ .cell v
/-- the state at a wake -/
structure Woke (G : GX τ) (n : Nat) (W : Wkg τ) (s : Shared) : Prop where
  th : G.Th n W s
  pos : 0 < n
  tr : G.Tr W.x W.M W.R
  ok : Ok G.K W.Hi W.M W.H
  le : G.B ≤ s.heap.objs.size
  bs : ∀ b o, G.base.get? b = some o → s.heap.get? b = some o ∧ W.H b = none
  funs : s.heap.FunFrames G.base G.outer
  frf : ∀ b ∈ frs G.outer, W.H b = none
  hok : HOk G.P G.w W.H s.heap
  bare : AllBare s.gens
  pn : ∀ p ∈ W.pn, PinOk G W.H s p
/-- the frame, its cells, its iterators, as they stand -/
structure At (G : GX τ) (ip : List (Addr × Obj)) (σ : L2.St) (s : Shared) : Prop where
  loc : ∃ m, s.heap.Ns G.B m ∧ ∀ (i : Nat) (x : Str) (v : V), G.N[i]? = some x → σ[i]? = some (some v) → Vis G.sc x → ∃ u, RelV v u ∧ Look G.env s.heap m x u
  cell : ∀ x c, G.env.cells.lookup x = some c → ∃ v, s.heap.IsCell c v
  ip : ∀ p ∈ ip, s.heap.get? p.1 = some p.2 ∧ p.1 ≠ G.B ∧ p.1 ∉ frs G.outer ∧ (∀ v, p.2.data ≠ .cell v) ∧ G.B ≤ p.1
  gp : s.heap.get? G.gp.1 = some G.gp.2
  len : σ.length = G.N.length
/-- what a run since a wake leaves -/
structure Seen (G : GX τ) (W : Wkg τ) (s₀ : Shared) (Hi H : Hp) (M : Mem) (s : Shared) : Prop where
  os : s.os = s₀.os
  bare : AllBare s.gens
  un : Un (frs G.outer) [] W.H H (cutH G.B s₀.heap) s.heap
  hok : HOk G.P G.w H s.heap
  pn : ∀ p ∈ G.gp :: W.pn, s.heap.get? p.1 = some p.2 ∧ H p.1 = none
  sm : Same W.Hi Hi
  ok : Ok G.K Hi M H
/-- what stands by -/
structure OwOk (G : GX τ) (ow : Own) (H : Hp) (s : Shared) : Prop where
  at_ : ∀ p ∈ ow, s.heap.get? p.1 = some p.2
  no : ∀ p ∈ ow, H p.1 = none
  ab : ∀ p ∈ ow, G.B ≤ p.1
  gp : G.gp ∈ ow
/-- the protocol -/
def YG (G : GX τ) : Protocol := fun n s₀ v s kap => ∃ (W : Wkg τ) (d : Val) (x' : τ) (vv : V) (M : Mem) (Hi H : Hp) (ow : Own), G.Th (n + 1) W s₀ ∧ W.R (some (d, x')) M ∧ RelV vv v ∧ Rep G.K Hi d vv ∧ Seen G W s₀ Hi H M s ∧ OwOk G ow H s ∧ (∀ p ∈ W.pn, ∀ q ∈ ow, p.1 ≠ q.1) ∧
  ∀ (W' : Wkg τ) (s' : Shared), Woke G n W' s' → W'.x = x' → Same Hi W'.Hi → OwOk G ow W'.H s' → (∀ p ∈ W'.pn, ∀ q ∈ ow, p.1 ≠ q.1) → kap (.send .none) s'
def EG (G : GX τ) (n : Nat) (s₀ s : Shared) : Prop := ∃ (W : Wkg τ) (M : Mem) (Hi H : Hp), G.Th n W s₀ ∧ W.R none M ∧ Seen G W s₀ Hi H M s
abbrev RG (G : GX τ) : GenEnd := fun n s₀ r s => ((r = .ok (.ret .none) ∨ r = .ok .next) ∧ EG G n s₀ s) ∨ ∃ e, r = .error e ∧ False
/-- what is wanted behind a statement of a generator: the wakes left, the wish, slots, cells -/
structure KG (τ : Type) where
  nx : Nat → Hnd τ → Gam → Mem → Prop
  rt : Nat → Hnd τ → Val → Mem → Prop
  bk : Nat → Hnd τ → Gam → Mem → Prop := fun _ _ _ _ => False
  ct : Nat → Hnd τ → Gam → Mem → Prop := fun _ _ _ _ => False
/-- where the generator's code stands -/
structure GCt (G : GX τ) (ip : List (Addr × Obj)) (c : Code) (fs : List Frame) (gd : Bool → Bool) : Prop where
  over : G.A.over c fs = G.A.deeper G.env
  split : splitAtGen fs = none
  guard : fs.any Frame.guarded = false
  gd : gd false = false
  ip : ∀ p ∈ ip, G.B ≤ p.1
abbrev SegG (G : GX τ) (n : Nat) (s₀ : Shared) (c : Code) (t : Sem PySem.Fin) (fs : List Frame) (s : Shared) : Prop := Seg (model G.P G.w) G.A (RG G) (YG G) n s₀ c t fs s
/-- the state amid a run since a wake -/
structure GIv (G : GX τ) (ip : List (Addr × Obj)) (n : Nat) (W : Wkg τ) (s₀ s : Shared) (σ : L2.St) (H Hi : Hp) (M : Mem) : Prop where
  th : G.Th n W s₀
  sm : Same W.Hi Hi
  inv : Inv (G.cx W.H s₀ W.pn) ip σ H s
  ok : Ok G.K Hi M H
  ap : ∀ p ∈ W.pn, ∀ q ∈ ip, p.1 ≠ q.1
  le : G.B ≤ s₀.heap.objs.size
  gpn : ∀ p ∈ W.pn, p.1 ≠ G.gp.1
structure GKo (G : GX τ) (ip : List (Addr × Obj)) (Hi0 : Hp) (c : Code) (fs : List Frame) (Kc : Flow → Sem PySem.Fin) (k : KG τ) : Prop where
  nx : ∀ n W s₀ s σ H Hi Γ M, GIv G ip n W s₀ s σ H Hi M → Same Hi0 Hi → EnvR G.K Hi Γ σ → k.nx n W.R Γ M → SegG G n s₀ c (Kc .next) fs s
  bk : ∀ n W s₀ s σ H Hi Γ M, GIv G ip n W s₀ s σ H Hi M → Same Hi0 Hi → EnvR G.K Hi Γ σ → k.bk n W.R Γ M → SegG G n s₀ c (Kc .brk) fs s
  ct : ∀ n W s₀ s σ H Hi Γ M, GIv G ip n W s₀ s σ H Hi M → Same Hi0 Hi → EnvR G.K Hi Γ σ → k.ct n W.R Γ M → SegG G n s₀ c (Kc .cont) fs s
  rt : ∀ n W s₀ s σ H Hi d v u M, GIv G ip n W s₀ s σ H Hi M → Same Hi0 Hi → Rep G.K Hi d v → RelV v u → k.rt n W.R d M → SegG G n s₀ c (Kc (.ret u)) fs s
def gS (G : GX τ) (st : Stmt) (n : Nat) (R : Hnd τ) (Γ : Gam) (M : Mem) (k : KG τ) : Prop := GOk G → ∀ ip W s₀ c fs Kc Jc gd lv s σ H Hi, GCt G ip c fs gd → GIv G ip n W s₀ s σ H Hi M → W.R = R → EnvR G.K Hi Γ σ →
  GKo G ip Hi c fs Kc k → SegG G n s₀ c ((exec st G.env).wrap Kc Jc gd lv) fs s
def gSs (G : GX τ) (st : List Stmt) (n : Nat) (R : Hnd τ) (Γ : Gam) (M : Mem) (k : KG τ) : Prop := GOk G → ∀ ip W s₀ c fs Kc Jc gd lv s σ H Hi, GCt G ip c fs gd → GIv G ip n W s₀ s σ H Hi M → W.R = R → EnvR G.K Hi Γ σ →
  GKo G ip Hi c fs Kc k → SegG G n s₀ c ((execs st G.env).wrap Kc Jc gd lv) fs s
end
section
variable {τ : Type} {G : GX τ} {st : Stmt} {sts rest : List Stmt} {n : Nat} {R : Hnd τ} {Γ : Gam} {M : Mem} {k : KG τ}
section
variable {ip : List (Addr × Obj)} {W : Wkg τ} {s₀ s : Shared} {σ : L2.St} {H Hi : Hp}
theorem GKo.up {Hi' : Hp} {c : Code} {fs : List Frame} {Kc : Flow → Sem PySem.Fin} (kk : GKo G ip Hi c fs Kc k) (sm : Same Hi Hi') : GKo G ip Hi' c fs Kc k :=
  ⟨fun n W s₀ s σ H Hi2 Γ M v s2 => kk.nx n W s₀ s σ H Hi2 Γ M v (sm.trans s2), fun n W s₀ s σ H Hi2 Γ M v s2 => kk.bk n W s₀ s σ H Hi2 Γ M v (sm.trans s2), fun n W s₀ s σ H Hi2 Γ M v s2 => kk.ct n W s₀ s σ H Hi2 Γ M v (sm.trans s2), fun n W s₀ s σ H Hi2 d v u M g s2 => kk.rt n W s₀ s σ H Hi2 d v u M g (sm.trans s2)⟩
theorem GIv.to (v : GIv G ip n W s₀ s σ H Hi M) {s' : Shared} {σ' : L2.St} {H' Hi' : Hp} {M' : Mem} (I : Inv (G.cx W.H s₀ W.pn) ip σ' H' s') (sm : Same Hi Hi') (ok : Ok G.K Hi' M' H') : GIv G ip n W s₀ s' σ' H' Hi' M' := ⟨v.th, v.sm.trans sm, I, ok, v.ap, v.le, v.gpn⟩
end
/-! ### while -/
end
end Ab
/-! generator defs: the call -/
namespace Ab
open PySem PySem.Spec PyProof.Rows L2 GenW
/-- a generator that has not begun; it stands at x -/
def GNew (P : Program) (w : World) (K : PySem.W.Frag) (mg : Str → Option Value) (base : Heap) (k : Nat) (outer : List Env) (B : Nat) {τ : Type} (Tr : τ → Mem → Hnd τ → Prop) (H Hi : Hp) (x : τ) (u : Value) (s : Shared) : Prop :=
  ∃ (N : List Str) (qual : Str) (sc : Scope) (f : Addr) (cdv : Value) (gp : Addr × Obj) (g : Nat) (c : Code) (ow : Own) (nm qn : Value),
    u = .ref gp.1 ∧ gp.2.cls = .type "generator" ∧ gp.2.data = .fields #[.int g 0, nm, qn] ∧ gp.2.slots = #[] ∧ s.gens[g]? = some (.fresh c) ∧
    (∀ p ∈ ow, s.heap.get? p.1 = some p.2 ∧ H p.1 = none ∧ B ≤ p.1) ∧ gp ∈ ow ∧
    ∀ (A : Around) (Th : Nat → Wkg τ → Shared → Prop), Rm k A → A.frames = some outer → GOk (GX.mk P w K mg base N qual sc f cdv A outer B gp Tr Th) ∧
      ∀ (n : Nat) (W : Wkg τ) (s2 : Shared), Woke (GX.mk P w K mg base N qual sc f cdv A outer B gp Tr Th) n W s2 → W.x = x → Same Hi W.Hi → OwOk (GX.mk P w K mg base N qual sc f cdv A outer B gp Tr Th) ow W.H s2 → (∀ p ∈ W.pn, ∀ q ∈ ow, p.1 ≠ q.1) →
        SegG (GX.mk P w K mg base N qual sc f cdv A outer B gp Tr Th) n s2 c ((model P w).den c) [] s2
/-- a generator def by its call -/
structure GnX (P : Program) (w : World) (K : PySem.W.Frag) (mg : Str → Option Value) (base : Heap) (k : Nat) (f : Addr) (ks : List Str) {τ : Type} (Tr : τ → Mem → Hnd τ → Prop) (s0 : List Val → List Val → τ → Prop) : Prop where
  run : ∀ (A : Around) (outer : List Env) (s : Shared) (H Hi : Hp) (us ws : List Value) (vs zs : List V) (ds es : List Val) (x : τ), Rm k A → Env0 P w K mg base A outer s H → Vals vs us → Vals zs ws → zs.length = ks.length → RepA K Hi ds vs → RepA K Hi es zs → s0 ds es x →
    codeAny (model P w) A (.call (.ref f) ⟨us, ks.zip ws⟩) (fun r s' => match r with
      | .ok (.ret u) => GNew P w K mg base k outer s.heap.objs.size Tr H Hi x u s' ∧ s'.os = s.os ∧ AllBare s'.gens ∧ ∀ b o, s.heap.get? b = some o → s'.heap.get? b = some o
      | _ => False) s
end Ab
/-! a for over a generator -/
namespace Ab
open PySem PySem.Spec PyProof.Rows L2 GenW
open Sem (wp)
end Ab
/-! calls of generator defs -/
namespace Ab
open PySem PySem.Spec PyProof.Rows L2 GenW
section
variable {X : Cx} {Γ : Gam} {M : Mem} {e o : Expr} {es : List Expr} {kws : List Keyword} {pos p1 apos : Pos} {x m : Str} {n : Nat} {f C : Addr} {ks : List Str} {τ : Type} {Tr : τ → Mem → Hnd τ → Prop} {s0 : List Val → List Val → τ → Prop} {P : τ → Mem → Prop}
theorem GnX.mono {P : Program} {w : World} {K : PySem.W.Frag} {mg : Str → Option Value} {base : Heap} {j k : Nat} (F : GnX P w K mg base j f ks Tr s0) (h : j ≤ k) : GnX P w K mg base k f ks Tr s0 := ⟨fun A outer s H Hi us ws vs zs ds es x hr e0 r rz l rd re hs =>
  codeAny_mono (F.run A outer s H Hi us ws vs zs ds es x (hr.mono h) e0 r rz l rd re hs) fun r s' hq => by
    cases r with
    | error e => exact hq
    | ok fl =>
      cases fl with
      | ret u =>
        obtain ⟨⟨N, qual, sc, f, cdv, gp, g, c, ow, nm, qn, h1, h2, h3, h4, h5, h6, h7, h8⟩, h9⟩ := hq
        exact ⟨⟨N, qual, sc, f, cdv, gp, g, c, ow, nm, qn, h1, h2, h3, h4, h5, h6, h7, fun A Th hr => h8 A Th (hr.mono h)⟩, h9⟩
      | next => exact hq
      | brk => exact hq
      | cont => exact hq⟩
end
end Ab
/-! a for within a generator's body -/
namespace Ab
open PySem PySem.Spec PyProof.Rows L2 GenW
end Ab
/-! dicts: keys that are ints or texts, get, locking, walking -/
namespace Ab
open PySem PySem.Spec PyProof.Rows L2
/-- a dict at p, locked or not -/
def DkAt (M : Mem) (p : Addr) (ds : List (Key × Val)) : Prop := ∃ n : Nat, M[n]? = some (p, .dk ds) ∨ ∃ od kvs, M[n]? = some (p, .b (.fz od kvs ds))
theorem DkAt.dk {M : Mem} {p : Addr} {ds : List (Key × Val)} (n : Nat) (h : M[n]? = some (p, .dk ds)) : DkAt M p ds := ⟨n, .inl h⟩
theorem DkAt.fz {M : Mem} {p : Addr} {ds : List (Key × Val)} {od : Obj} {kvs : List (Key × V)} (n : Nat) (h : M[n]? = some (p, .b (.fz od kvs ds))) : DkAt M p ds := ⟨n, .inr ⟨od, kvs, h⟩⟩
theorem DkAt.rd {K : PySem.W.Frag} {M : Mem} {p : Addr} {ds : List (Key × Val)} {Hi H : Hp} (h : DkAt M p ds) (ok : Ok K Hi M H) : ∃ kvs, Rd H p (.dK kvs) ∧ RepK K Hi ds kvs := by
  obtain ⟨n, h | ⟨od, kvs, h⟩⟩ := h
  · obtain ⟨_, o, ho, ks, rfl, rk⟩ := ok.get h
    exact ⟨ks, .inl ho, rk⟩
  · obtain ⟨_, o, ho, rfl, rk⟩ := ok.get h
    exact ⟨kvs, .inr ⟨od, ho⟩, rk⟩
section
variable {X : Cx} {Γ : Gam} {M : Mem} {P : Val → Mem → Prop} {e a b c o : Expr} {pos p1 apos ppos : Pos} {k : AK} {d d1 : Val} {kk : Key} {p : Addr} {ds : List (Key × Val)}
/-- while G: the locked dict is there -/
def Lk (p : Addr) (od : Obj) (kvs : List (Key × V)) (ds : List (Key × Val)) (M : Mem) : Prop := ∃ n : Nat, M[n]? = some (p, .b (.fz od kvs ds))
theorem Lk.rd {K : PySem.W.Frag} {od : Obj} {kvs : List (Key × V)} {Hi H : Hp} (h : Lk p od kvs ds M) (ok : Ok K Hi M H) : H p = some (.frz od (.dK kvs)) ∧ RepK K Hi ds kvs := by
  obtain ⟨n, h⟩ := h
  obtain ⟨_, o, ho, rfl, rk⟩ := ok.get h
  exact ⟨ho, rk⟩
end
end Ab
/-! generators: loops that forget slots; keywords in the other order -/
namespace Ab
open PySem PySem.Spec PyProof.Rows L2 GenW
section
variable {τ : Type} {G : GX τ} {st : Stmt} {sts : List Stmt} {n : Nat} {R : Hnd τ} {Γ Γ' : Gam} {M : Mem} {k k' : KG τ}
theorem gko_mono {ip : List (Addr × Obj)} {Hi : Hp} {c : Code} {fs : List Frame} {Kc : Flow → Sem PySem.Fin} (kk : GKo G ip Hi c fs Kc k') (f1 : ∀ n R Γ M, k.nx n R Γ M → k'.nx n R Γ M) (f2 : ∀ n R d M, k.rt n R d M → k'.rt n R d M) (f3 : ∀ n R Γ M, k.bk n R Γ M → k'.bk n R Γ M) (f4 : ∀ n R Γ M, k.ct n R Γ M → k'.ct n R Γ M) : GKo G ip Hi c fs Kc k :=
  ⟨fun n W s₀ s σ H Hi Γ M v sm en h => kk.nx n W s₀ s σ H Hi Γ M v sm en (f1 _ _ _ _ h), fun n W s₀ s σ H Hi Γ M v sm en h => kk.bk n W s₀ s σ H Hi Γ M v sm en (f3 _ _ _ _ h), fun n W s₀ s σ H Hi Γ M v sm en h => kk.ct n W s₀ s σ H Hi Γ M v sm en (f4 _ _ _ _ h), fun n W s₀ s σ H Hi d v u M g sm r rv h => kk.rt n W s₀ s σ H Hi d v u M g sm r rv (f2 _ _ _ _ h)⟩
theorem gS.mono (h : gS G st n R Γ M k) (f1 : ∀ n R Γ M, k.nx n R Γ M → k'.nx n R Γ M) (f2 : ∀ n R d M, k.rt n R d M → k'.rt n R d M := by intro _ _ _ _ h; exact h) (f3 : ∀ n R Γ M, k.bk n R Γ M → k'.bk n R Γ M := by intro _ _ _ _ h; exact h) (f4 : ∀ n R Γ M, k.ct n R Γ M → k'.ct n R Γ M := by intro _ _ _ _ h; exact h) : gS G st n R Γ M k' :=
  fun go ip W s₀ c fs Kc Jc gd lv s σ H Hi g v hR en kk => h go ip W s₀ c fs Kc Jc gd lv s σ H Hi g v hR en (gko_mono kk f1 f2 f3 f4)
theorem gSs.mono (h : gSs G sts n R Γ M k) (f1 : ∀ n R Γ M, k.nx n R Γ M → k'.nx n R Γ M) (f2 : ∀ n R d M, k.rt n R d M → k'.rt n R d M := by intro _ _ _ _ h; exact h) (f3 : ∀ n R Γ M, k.bk n R Γ M → k'.bk n R Γ M := by intro _ _ _ _ h; exact h) (f4 : ∀ n R Γ M, k.ct n R Γ M → k'.ct n R Γ M := by intro _ _ _ _ h; exact h) : gSs G sts n R Γ M k' :=
  fun go ip W s₀ c fs Kc Jc gd lv s σ H Hi g v hR en kk => h go ip W s₀ c fs Kc Jc gd lv s σ H Hi g v hR en (gko_mono kk f1 f2 f3 f4)
end
end Ab
namespace Ab
open PySem PySem.Spec PyProof.Rows L2
section
variable {X : Cx} {a b : Expr} {Γ : Gam} {M : Mem} {P : Val → Mem → Prop} {i j : Int} {pos p1 : Pos}
/-- divmod(a, b) -/
theorem av_divmod (hm : X.mg "divmod" = none) (ha : aV X a Γ M (.int i)) (hb : aV X b Γ M (.int j)) (hc : CDivP i j) (hg : Gl X "divmod" := by rfl) (hs : starEach [a, b] X.env = (false, eval a X.env) :: starEach [b] X.env := by rfl) (hs2 : starEach [b] X.env = (false, eval b X.env) :: starEach [] X.env := by rfl) (hpl : (backTo pos (starEach [b] X.env)).any (·.1) = false := by rfl) : aV X (.Call (.Name "divmod" p1) [a, b] [] pos) Γ M (.tup [.int (i / j), .int (i % j)]) :=
  ae_callB call_divmodW hm (by decide +kernel) (aa_cons (ha.val (aa_cons (hb.val (aa_nil fun Hi H vs ok r Q q => by
    cases r with
    | cons r1 r2 => cases r2 with
      | cons r2 r3 =>
        cases r3
        cases r1
        cases r2
        refine ⟨_, _, rfl, hc, fun l hl => ?_⟩
        have s2 := same_upd (o := .tup [.int (i / j), .int (i % j)]) (ok.none hl)
        exact q _ _ _ _ _ ⟨rfl, rfl⟩ s2 (ok.imm hl) (.tup (SqT.of upd_same) (.cons (.int _) (.cons (.int _) .nil))))) hs2)) hs) hg (he := hs) (hpl := hpl)
/-- divmod of a number whose size is told -/
theorem cdp {i j : Int} (hj : 0 < j) (h : j.natAbs < 2 ^ 8000) : CDivP i j := by
  refine ⟨hj, ?_⟩
  have k : j.natAbs.log2 < 8000 := (Nat.log2_lt (by omega)).mpr h
  show (decide ((if j == 0 then 0 else j.natAbs.log2 / 30 + 1) > 300) && decide ((if i == 0 then 0 else i.natAbs.log2 / 30 + 1) > (if j == 0 then 0 else j.natAbs.log2 / 30 + 1) + 150)) = false
  rw [if_neg (show ¬ (j == 0) = true by simpa using (show j ≠ 0 by omega))]
  rw [decide_eq_false (show ¬ (j.natAbs.log2 / 30 + 1 > 300) by omega), Bool.false_and]
end
end Ab
/-! Ab92: xs[::-1] of a list -/
namespace Ab
open PySem PySem.Spec PyProof.Rows L2
theorem av_revL {X : Cx} {Γ : Gam} {M : Mem} {e : Expr} {pos p1 p2 p3 : Pos} {d : Val} {xs : List Val} {k : Nat} (ha : aV X e Γ M d) (hv : Vw M d (.lst xs)) : aV X (.Subscript e (.Slice none none (some (.UnaryOp .USub (.Constant (.int 1) k p1) p2)) p3) pos) Γ M (.lst xs.reverse) :=
  ae_frz (fun Hi H σ ok en Q q => by
    refine ⟨_, pe_revL pe_we, ?_⟩
    refine ha Hi H σ ok en _ fun x M1 v Hi1 H1 h1 s1 ok1 r1 => ?_
    obtain ⟨rfl, rfl⟩ := h1
    obtain ⟨p, ys, rfl, hq, ra⟩ := hv.repL ok1 r1
    exact ⟨p, ys, rfl, hq, fun l hl => q _ _ _ _ _ ⟨l, _, _, rfl, rfl, rfl, rfl⟩ s1 (ok1.new hl ⟨_, rfl, ra.rev⟩) (.ptr l)⟩)
end Ab
/-! Ab74: try with several clauses `except C as n` -/
namespace Ab
open PySem PySem.Spec PyProof.Rows L2
/-- a clause: its class, the slot of its name, its suite -/
structure Cls3 where
  c : Value
  i : Nat
  suite : List Stmt
abbrev TSx := Addr → Addr → Option Addr → TS
inductive HdsV (X : Cx) : List ExceptHandler → List (Cls3 × TSx) → Prop
  | nil : HdsV X [] []
  | cons {x n : Str} {c : Cls3} {ts : TSx} {b0 : Stmt} {suite : List Stmt} {np pos' : Pos} {hds : List ExceptHandler} {l : List (Cls3 × TSx)} (hc : Names X x c.c) (hi : X.N[c.i]? = some n) (hln : X.env.kindOf n = some .local)
      (hsu : ∀ (a C : Addr) (d : Option Addr) (pn : List (Addr × Obj)), PSs (X.suite a pn) (b0 :: suite) (ts a C d)) (r : HdsV X hds l) :
      HdsV X (.ExceptHandler (some (.Name x np)) (some n) (b0 :: suite) pos' :: hds) ((c, ts) :: l)
/-! ### the same over values -/
inductive HdsW (X : Cx) : List ExceptHandler → List Cls3 → Prop
  | nil : HdsW X [] []
  | cons {x n : Str} {c : Value} {i : Nat} {b0 : Stmt} {suite : List Stmt} {np pos' : Pos} {hds : List ExceptHandler} {l : List Cls3} (hc : Names X x c) (hi : X.N[i]? = some n) (hln : X.env.kindOf n = some .local) (r : HdsW X hds l) :
      HdsW X (.ExceptHandler (some (.Name x np)) (some n) (b0 :: suite) pos' :: hds) (⟨c, i, b0 :: suite⟩ :: l)
abbrev tsV (X : Cx) (c : Cls3) : TSx := fun a C d D1 σ1 H1 => ∀ pn, WB (X.suite a pn) c.suite D1 σ1 H1
theorem HdsW.v {X : Cx} {hds : List ExceptHandler} {l : List Cls3} (h : HdsW X hds l) : HdsV X hds (l.map fun c => (c, tsV X c)) := by
  induction h with
  | nil => exact .nil
  | cons hc hi hln r ih => exact .cons hc hi hln (fun a C d pn => ⟨fun pins s σ1 H1 D1 I1 h1 => pss_wb.run pins s σ1 H1 D1 I1 (h1 pn)⟩) ih
end Ab
/-! Ab75: x(*y, k=e) where x is a local name that holds a class; t * 1; tuple(range(a, b)); a def that may raise but does not -/
namespace Ab
open PySem PySem.Spec PyProof.Rows L2
/-! ### t * 1 -/
end Ab
/-! Ab76: == and != of instances that stand in boxes; Name(*y, k=e); a box behind which new cells are left -/
namespace Ab
open PySem PySem.Spec PyProof.Rows L2
/-- == of the class at C by the def at f, over any memory -/
structure OwnM (P : Program) (w : World) (K : PySem.W.Frag) (mg : Str → Option Value) (base : Heap) (n : Nat) (C f : Addr) (s : ASp) : Prop where
  fx : FX P w K mg base n f fun ds _ => s ds
  at_ : PySem.W.findIn K (.ref C) "__eq__" = some (some (.ref f))
  fn : PySem.W.isFn K (.ref f) = true
  ne : PySem.W.findIn K (.ref C) "__ne__" = some (some (.builtin "object.__ne__"))
  ob : PySem.W.subIn K (.ref C) (.type "object") = some true
end Ab
/-! generators: tests that change cells; boxes over defs that raise -/
namespace Ab
open PySem PySem.Spec PyProof.Rows L2 GenW
section
variable {P : Program} {w : World} {K : PySem.W.Frag} {mg : Str → Option Value} {base : Heap} {k : Nat} {f : Addr} {ks : List Str}
theorem FnE.box {sx sx' : ASxe} (F : FnE P w K mg base k f ks (spE K sx)) (h : ∀ ds es M R PE, sx' ds es M R PE → ∃ (i : Nat) (p : Addr) (φ : Mem0 → Prop), M[i]? = some (p, .box φ) ∧
    ∀ B, φ B → p ∈ B.map (·.1) → sx ds es (bs B ++ M.eraseIdx i) (fun d M' => ∃ B' φ', M' = bs B' ++ M.eraseIdx i ∧ φ' B' ∧ p ∈ B'.map (·.1) ∧ R d (M.set i (p, .box φ')))
      (fun C fs M' => ∃ B' φ', M' = bs B' ++ M.eraseIdx i ∧ φ' B' ∧ p ∈ B'.map (·.1) ∧ PE C fs (M.set i (p, .box φ')))) : FnE P w K mg base k f ks (spE K sx') :=
  F.weak fun vs zs H Q E ⟨Hi, M, ds, es, R, PE, r1, r2, ok, hs, q, qe⟩ => by
    obtain ⟨i, p, φ, hi, hb⟩ := h ds es M R PE hs
    obtain ⟨B, h1, h2, ok'⟩ := ok.opn hi
    refine ⟨Hi, _, ds, es, _, _, r1, r2, ok', hb B h1 h2, fun d M' v Hi' H' hd s' ok2 r => ?_, fun C fs M' Hi' H' cls d hd s' ok2 r => ?_⟩
    · obtain ⟨B', φ', rfl, h3, h4, h5⟩ := hd
      exact q d _ v Hi' H' h5 s' (ok2.clsAt hi h3 h4) r
    · obtain ⟨B', φ', rfl, h3, h4, h5⟩ := hd
      exact qe C fs _ Hi' H' cls d h5 s' (ok2.clsAt hi h3 h4) r
end
end Ab
/-! Ab77: a box opened around an expression and closed as another box -/
namespace Ab
open PySem PySem.Spec PyProof.Rows L2
end Ab
/-! Ab78: the dict of a def's ** parameter, told of the heap alone -/
namespace Ab
open PySem PySem.Spec PyProof.Rows L2
end Ab
/-! Ab79: {k: v for .. in ..} -/
namespace Ab
open PySem PySem.Spec PyProof.Rows L2
end Ab
/-! Ab80: data compared with either answer; == and != of an instance with a value of another kind; list(d.items()); dicts compared with {} -/
namespace Ab
open PySem PySem.Spec PyProof.Rows L2 Builtin
section
variable {X : Cx} {M : Mem} {d1 d2 v w : Val}
theorem CP.is {op : CmpOp} {x y : Val} {p : Prop} [Decidable p] (h : CP X op M x y p) : Cmp X op M x y (decide p) := by
  obtain ⟨b, h1, h2⟩ := h
  have : b = decide p := by
    cases b with
    | true => exact (decide_eq_true (h2.mp rfl)).symm
    | false => exact (decide_eq_false fun z => nomatch h2.mpr z).symm
  rw [← this]
  exact h1
end
/-! ### an instance against a value of another kind -/
/-! ### dicts against the empty one -/
/-! ### list(d.items()) -/
end Ab
/-! Ab81: data in a tuple or list of data -/
namespace Ab
open PySem PySem.Spec PyProof.Rows L2 Builtin
end Ab
/-! Ab82: classmethods by keywords alone; classmethods that may raise -/
namespace Ab
open PySem PySem.Spec PyProof.Rows L2
end Ab
/-! Ab83: a property of any expression that gives an instance, boxed or not -/
namespace Ab
open PySem PySem.Spec PyProof.Rows L2
end Ab
/-! g(lambda: e): a lambda handed to a def that calls it -/
namespace Ab
open PySem PySem.Spec PyProof.Rows L2 LamX
/-! ### the lambda called -/
abbrev LSb := Mem → (Val → Mem → Prop) → XP → Prop
/-! ### a def that gets a lambda -/
/-- from what the lambda does: cells, what follows -/
abbrev LSp := LSb → Mem → (Val → Mem → Prop) → Prop
section
variable {P : Program} {w : World} {K : PySem.W.Frag} {mg : Str → Option Value} {base : Heap}
/-- what its body must do: the lambda stands in the slot of a -/
abbrev BodyL (P : Program) (w : World) (K : PySem.W.Frag) (mg : Str → Option Value) (base : Heap) (k : Nat) (g : Addr) (N : List Str) (q : Str) (sc : Scope) (body : List Stmt) (a : Str) (sL : LSp) : Prop :=
  ∀ cdv A outer s H E, Rm k (A.deeper (envOfC q sc s.heap.objs.size g cdv)) → ∀ (f : Addr) (Hf : Hp) (bsp : LSb),
    (∀ (pn : List (Addr × Obj)) (xe : Value → Shared → Prop) (i : Nat) (Γ : Gam) (M : Mem) (R : Val → Mem → Prop) (PE : XP) (p1 p2 : Pos), N[i]? = some a → Γ[i]? = some (some (Val.lam f Hf)) → bsp M R PE → yE ((cxOf CX0 P w K mg base N q sc g cdv A outer s H E).tr pn xe) (.Call (.Name a p1) [] [] p2) Γ M R PE) →
    ∀ M R, sL bsp M R → aSs (bcx P w K mg base N q sc g cdv A outer s H E) body (gam N [Val.lam f Hf]) M (kOf R)
structure LGd (P : Program) (w : World) (K : PySem.W.Frag) (mg : Str → Option Value) (base : Heap) (k : Nat) (x : Str) (sL : LSp) : Prop where
  ex : ∃ (g : Addr) (q : Str) (pg : Arguments) (body : List Stmt) (sc : Scope) (N : List Str) (a : Str) (fd : FuncData), FunD K x q pg body sc [] [] g fd ∧ FnScope N [a] sc ∧ Vis sc a ∧ N[0]? = some a ∧
    (∀ (kV doc pm : Value) (an : Option Addr) (cdv ct : Value) (u : Value), bindArgs (PySem.W.fnOf x q pg body sc .none kV doc pm an cdv ct) ⟨[u], []⟩ = pure [(a, u)]) ∧
    (a == ("__debug__" : Str)) = false ∧ (a == ("__classdict__" : Str)) = false ∧ mg x = some (.ref g) ∧ PySem.W.keepIn K (.ref g) = true ∧ BodyL P w K mg base k g N q sc body a sL
end
end Ab
/-! Ab84: t * n for any n from 0 on -/
namespace Ab
open PySem PySem.Spec PyProof.Rows L2
theorem LGd.mono {P : Program} {w : World} {K : PySem.W.Frag} {mg : Str → Option Value} {base : Heap} {k k' : Nat} {x : Str} {sL : LSp} (G : LGd P w K mg base k x sL) (h : k ≤ k') : LGd P w K mg base k' x sL := by
  obtain ⟨g, q, pg, body, sc, N, a, fd, h1, h2, h3, h4, h5, h6, h7, h8, h9, hB⟩ := G.ex
  exact ⟨g, q, pg, body, sc, N, a, fd, h1, h2, h3, h4, h5, h6, h7, h8, h9, fun cdv A outer s H E hr => hB cdv A outer s H E (hr.mono h)⟩
/-- .. one of another class -/
theorem kit_noC {K : PySem.W.Frag} {C C' : Addr} (hd : PySem.W.hasDictIn K C = true) (ht : PySem.W.typeIn K (.ref C) = some (.type "type")) (hs : PySem.W.subIn K (.ref C') (.ref C) = some false) (hr : PySem.W.subIn K (.ref C) (.ref C) = some true) : PySem.W.kitOne K (.ref C') (.ref C) = some false := by
  obtain ⟨cd, hc, _⟩ := PySem.W.any_some hd
  unfold PySem.W.kitOne PySem.W.kitCls
  have hne : C' ≠ C := fun z => by
    subst z
    rw [hr] at hs
    cases hs
  rw [if_neg (by simpa using hne)]
  show (if ((PySem.W.clsIn K C).isSome && PySem.W.typeIn K (.ref C) == some (.type "type")) = true then PySem.W.subIn K (.ref C') (.ref C) else none) = some false
  rw [hc, ht, hs]
  simp
end Ab
/-! arguments in any order; a def with one positional parameter and a star -/
namespace Ab
open PySem L2 GenW
end Ab
/-! slices of lists of ints, sums, comparisons of two texts -/
namespace Ab
open PySem L2
/-! ### repr(a) against repr(b) -/
end Ab
/-! texts: str(i), int(s), +, join, split, find, count, places, slices, signs walked, f-strings -/
namespace Ab
open PySem PySem.Spec PyProof.Rows L2
section
variable {X : Cx} {Γ : Gam} {M : Mem} {P : Val → Mem → Prop} {e a b c o : Expr} {es : List Expr} {pos p1 p2 apos : Pos} {d : Val} {i j : Int} {x y z : Str}
/-! ### f-strings -/
/-- {e}: a text or an int -/
inductive FmtV : Val → Str → Prop
  | str (y : Str) : y.length ≤ sizeLine → FmtV (.str y) y
  | int (i : Int) : showI i → FmtV (.int i) (toString i)
theorem av_fmt {y : Str} (ha : aV X a Γ M d) (hf : FmtV d y) : aV X (.FormattedValue a (-1) none pos) Γ M (.str y) := fun Hi H σ ok en Q q => by
  refine ⟨_, pe_fmt pe_we, ?_⟩
  refine ha Hi H σ ok en _ fun d M1 v Hi1 H1 h1 s1 ok1 r1 => ?_
  obtain ⟨rfl, rfl⟩ := h1
  cases hf with
  | str _ hy =>
    cases r1
    exact .inl ⟨y, rfl, hy, q _ _ _ Hi1 _ ⟨rfl, rfl⟩ s1 ok1 (.str _)⟩
  | int i hi =>
    cases r1
    exact .inr ⟨i, rfl, hi, q _ _ _ Hi1 _ ⟨rfl, rfl⟩ s1 ok1 (.str _)⟩
/-- the parts -/
inductive FParts (X : Cx) (Γ : Gam) (M : Mem) : List Expr → Str → Str → Prop
  | nil (acc : Str) : FParts X Γ M [] acc acc
  | cons {e : Expr} {es : List Expr} {acc y out : Str} : aV X e Γ M (.str y) → (acc ++ y).length ≤ sizeLine → FParts X Γ M es (acc ++ y) out → FParts X Γ M (e :: es) acc out
theorem pj_we : ∀ es : List Expr, PJ X es (es.map fun e => WE X e)
  | [] => .nil
  | _ :: es => .cons pe_we (pj_we es)
theorem fparts_run {σ : L2.St} {es : List Expr} {acc out : Str} (h : FParts X Γ M es acc out) : ∀ {Hi H : Hp}, Ok X.K Hi M H → EnvR X.K Hi Γ σ → ∀ {Q : Str → Hp → Prop}, (∀ Hi' H', Same Hi Hi' → Ok X.K Hi' M H' → Q out H') → tJs (es.map fun e => WE X e) acc σ H Q := by
  induction h with
  | nil acc => exact fun {Hi H} ok en {Q} q => q Hi H (Same.refl _) ok
  | cons ha hl hr ih =>
    intro Hi H ok en Q q
    refine ha Hi H σ ok en _ fun d M1 v Hi1 H1 h1 s1 ok1 r1 => ?_
    obtain ⟨rfl, rfl⟩ := h1
    cases r1
    exact ⟨_, rfl, hl, ih ok1 (en.mono s1) fun Hi' H' s2 ok2 => q Hi' H' (s1.trans s2) ok2⟩
theorem av_joined {v1 v2 : Expr} {rest : List Expr} {out : Str} (h : FParts X Γ M (v1 :: v2 :: rest) Str.empty out) : aV X (.JoinedStr (v1 :: v2 :: rest) pos) Γ M (.str out) := fun Hi H σ ok en Q q => by
  refine ⟨_, pe_joined (pj_we _), ?_⟩
  exact fparts_run h ok en fun Hi' H' s ok' => q _ _ _ Hi' _ ⟨rfl, rfl⟩ s ok' (.str _)
end
end Ab
/-! Ab85: str(o) of an own instance -/
namespace Ab
open PySem PySem.Spec PyProof.Rows L2
end Ab
/-! Ab93: repr(o) of an own instance -/
namespace Ab
open PySem PySem.Spec PyProof.Rows L2
section
variable {prog : Program} {w : World} {A : Around} {E : Value → Shared → Prop} {s : Shared} {K : PySem.W.Frag} {x C f : Addr} {ox : Obj} {od : Option Obj}
open PySem.W in
theorem kro_repr {Q : Value → Shared → Prop} (hu : A.in1.units < cLine) (X : K.In s.heap) (I : PySem.W.InstAt s.heap x ox C od) (hs : PySem.W.findIn K (.ref C) "__repr__" = some (some (.ref f))) (hf : PySem.W.isFn K (.ref f) = true)
    (h : wpAny (model prog w) A.in1 (call (.ref f) [.ref x]) (PySem.W.StrBack Q) E s) : wpAny (model prog w) A (call (.builtin "repr") [.ref x]) Q E s := by
  refine Calls.call_function_entry F.kind_repr F.plain_repr F.entry_repr (F.args_repr1 _) ?_
  unfold Builtin.«repr»
  refine wpAny_bind (m := oneArg "repr" _) (wpAny_pure ?_)
  refine wpAny_bind (wpAny_cRoomFor hu ?_)
  refine wpAny_bind (wpAny_bind (I.type.here ((PySem.W.looks_findIn X hs).here ?_)))
  show wpAny _ _ (if (some (Value.ref f)).isNone = true then _ else _) _ _ _
  rw [if_neg (by simp)]
  refine wpAny_bind (m := callSpecialIfBound? (.ref x) (Str.ofString "__repr__") _) (PySem.W.ifBound_K X I hs hf (wpAny_mono h (fun r s' hr => ?_) fun _ _ y => y))
  cases r <;> first | exact hr.elim | skip
  refine wpAny_bind (wpAny_isInstance (typeIs_str _ _ _) isSubtype_str_str ?_)
  first
    | exact wpAny_pure ⟨_, rfl, hr⟩
    | (rw [if_pos rfl]; exact wpAny_pure ⟨_, rfl, hr⟩)
    | (simp only [if_true]; exact wpAny_pure ⟨_, rfl, hr⟩)
end
/-- the class's own __repr__ -/
structure ReprM (P : Program) (w : World) (K : PySem.W.Frag) (mg : Str → Option Value) (base : Heap) (n : Nat) (C f : Addr) (s0 : ASp) : Prop where
  fx : FX P w K mg base n f fun ds _ => s0 ds
  at_ : PySem.W.findIn K (.ref C) "__repr__" = some (some (.ref f))
  fn : PySem.W.isFn K (.ref f) = true
section
variable {X : Cx} {Γ : Gam} {M : Mem} {R : Val → Mem → Prop} {a : Expr} {pos p1 : Pos} {n m : Nat} {C f : Addr} {s0 : ASp}
theorem call_reprOwn (O : ReprM X.prog X.w X.K X.mg X.base n C f s0) (hr : Rm (n + 1) X.A) : CallR X (.builtin "repr") fun xs H Q => ∃ a dx fs, xs = [.ref a] ∧ H a = some (.ins C dx fs) ∧ spX X.K (fun ds _ M R => s0 ds M R) [.ref a] [] H fun v H' => ∃ y, v = .str y ∧ Q (.str y) H' := by
  intro pins s σ H xs us Q I r h
  obtain ⟨a, dx, fs, rfl, ha, hsp⟩ := h
  cases r with
  | cons r1 r2 =>
    cases r2
    cases r1
    obtain ⟨mA, J, _⟩ := ins_get I.hok ha
    obtain ⟨od, J, _⟩ := J.look
    refine kro_repr (hr.in1 : Rm n X.A.in1).room.units0 I.kIn J O.at_ O.fn ?_
    refine wpAny_mono (run_at (A := X.A.in1) O.fx hr.in1 rfl I (vs := [.ref a]) (.cons rfl .nil) hsp) (fun r s' z => ?_) fun _ _ x => x
    obtain ⟨v', H', I', rv, y, rfl, q⟩ := z
    obtain ⟨t, rfl⟩ := rv
    exact ⟨.str y, H', I', ⟨_, rfl⟩, q⟩
/-- repr(o) -/
theorem ae_reprOwn {m1 : Str} (O : ReprM X.prog X.w X.K X.mg X.base n C f s0) (hr : Rm m X.A) (hm : n + 1 ≤ m) (hs : X.mg "repr" = none) (h : aE X a Γ M fun d M1 => ObM M1 C d m1 ∧ s0 [d] M1 fun v M2 => ∃ y, v = .str y ∧ R (.str y) M2) (hg : Gl X "repr" := by rfl)
    (hst : starEach [a] X.env = [(false, eval a X.env)] := by rfl) : aE X (.Call (.Name "repr" p1) [a] [] pos) Γ M R :=
  ae_callB (call_reprOwn O (hr.mono hm)) hs (by decide +kernel) (aa_cons (h.mono fun d M1 ⟨hob, h1⟩ => aa_nil fun Hi H vs ok r Q q => by
    cases r with
    | cons r1 r2 =>
      cases r2
      obtain ⟨x, dx, fs, rfl, ha, _⟩ := hob _ _ _ _ ok r1
      refine ⟨x, dx, fs, rfl, ha, Hi, M1, [d], [], _, .cons r1 .nil, .nil, ok, h1, ?_⟩
      intro d2 M2 v2 Hi2 H2 hd s2 ok2 r2
      obtain ⟨y, rfl, hy⟩ := hd
      cases r2
      exact ⟨y, rfl, q _ _ _ _ _ hy s2 ok2 (.str _)⟩) hst) hg (he := hst) (hpl := rfl)
end
end Ab
/-! Ab94: super().m(..) as a statement; (a, b) < (c, d) of ints -/
namespace Ab
open PySem PySem.Spec PyProof.Rows L2 PySem.W
section
variable {X : Cx} {body : List Stmt} {Γ : Gam} {M : Mem} {e : Expr} {pos : Pos} {k : AK}
theorem zs_expr (h : zE X body e Γ M fun _ M' => k.nx Γ M') (hi : interactive X.env = false := by rfl) (hs : swapsWith e none pos.line X.env = pure false := by rfl) : zS X body (.Expr e pos) Γ M k := fun Hi H σ pins s ok en I Φ q =>
  ks_wpAt_Expr_any (PySem.wpAt_mono (h Hi H σ pins s ok en I (fun v H' => ∀ s', Inv X pins σ H' s' → Φ .next s') fun d M' v Hi' H' p e o r s' I' => q.nx Γ M' σ Hi' H' s' p e o (en.mono e) I') (fun u s' ⟨v, H', I', rv, z⟩ => z s' I') fun _ _ z => z) hi hs
end
end Ab
namespace Sm
/-! ### the value of a sequence of levels, as a limit -/
def ff (k : Int) (w : Nat → Int) : Nat → Int
  | 0 => 0
  | n + 1 => ff k w n * k + w n
structure Vl (k : Int) (w : Nat → Int) (x b : Int) : Prop where
  b0 : 0 < b
  bd : ∃ c : Int, ∀ n, -c ≤ x * k ^ n - b * ff k w n ∧ x * k ^ n - b * ff k w n ≤ c
/-! ### lowest terms -/
end Sm
/-! the mean gap as a fraction; blocks of leaves -/
namespace Sm
/-- a / b is k times the value of the levels w -/
structure Gq (k : Int) (w : Nat → Int) (a b : Nat) : Prop where
  b0 : 0 < b
  ex : ∃ x y, Vl k w x y ∧ 0 ≤ x ∧ (a : Int) * y = x * k * b
variable {k : Int} {w w1 w2 : Nat → Int} {a b a' b' a1 b1 a2 b2 : Nat} {x y : Int}
theorem Gq.of (hk : 2 ≤ k) (h : Vl k w x y) (h0 : 0 ≤ x) : Gq k w (x * k).toNat y.toNat := by
  have y0 := h.b0
  have xk : 0 ≤ x * k := Int.mul_nonneg h0 (by omega)
  exact ⟨by omega, x, y, h, h0, by rw [Int.toNat_of_nonneg xk, Int.toNat_of_nonneg (by omega)]⟩
/-! ### the place of a leaf, by counting and by the sum -/
theorem pl0_place {k : Nat} {s l : Nat → Int} {b : Nat} (hk : 2 ≤ k) : pl k s l 0 b = place k s l b := by
  rcases Nat.eq_zero_or_pos b with h | h
  · subst h
    rw [pl_zero, place_zero]
    simp [fp]
  · rw [pl_form h (lt_pow hk b) (Nat.lt_trans (lt_pow hk b) (Nat.pow_lt_pow_right (by omega) (Nat.lt_succ_self b))) hk]
    unfold place plT
    rw [smN_add, show ed k s l 0 = s 0 from rfl, show siz k l 0 = l 0 from rfl]
    have e1 : smN (fun j => if k ^ j ≤ b then s (0 + 1 + j) else 0) b = smN (fun j => if k ^ j ≤ b then s (j + 1) else 0) b := smN_congr fun j _ => by rw [show 0 + 1 + j = j + 1 by omega]
    have e2 : smN (fun j => ((b / k ^ (j + 1) : Nat) : Int) * l (0 + (j + 1))) b = smN (fun j => l (j + 1) * ((b / k ^ (j + 1) : Nat) : Int)) b := smN_congr fun j _ => by rw [Int.mul_comm, Nat.zero_add]
    rw [e1, e2, Int.sub_mul]
    omega
theorem smN_sub {f g : Nat → Int} {n : Nat} : smN (fun j => f j - g j) n = smN f n - smN g n := by
  induction n with
  | zero => rfl
  | succ n ih => rw [smN, smN, smN, ih]; omega
theorem place_two {k : Nat} {s l : Nat → Int} {b N : Nat} (hk : 2 ≤ k) (hN : b < k ^ N) : place k s l b = s 0 + smN (fun h => if k ^ h ≤ b then s (h + 1) else 0) N + smN (fun h => l h * ((b / k ^ h : Nat) : Int)) (N + 1) := by
  rw [place_N hk hN]
  unfold plT
  rw [smN_add, smN_head (f := fun h => l h * ((b / k ^ h : Nat) : Int)), Nat.pow_zero, Nat.div_one, Int.mul_comm (b : Int)]
  omega
end Sm
/-! distances of places -/
namespace Sm
variable {k : Nat} {s l : Nat → Int}
theorem dvd_iff_div {m b : Nat} (hm : 0 < m) : (((b + 1) / m : Nat) : Int) - ((b / m : Nat) : Int) = if m ∣ b + 1 then 1 else 0 := by
  by_cases h : m ∣ b + 1
  · rw [if_pos h, dvd_div hm (Nat.succ_pos b) h, show b.succ - 1 = b from rfl]
    omega
  · rw [if_neg h, ndvd_div hm h]
    omega
/-- the distance between two leaves -/
theorem place_step (hk : 2 ≤ k) {b N : Nat} (hN : b + 1 < k ^ N) : place k s l (b + 1) - place k s l b = smN (fun j => if k ^ j ∣ b + 1 then l j else 0) (N + 1) + smN (fun j => if k ^ j = b + 1 then s (j + 1) else 0) N := by
  rw [place_two hk hN, place_two hk (N := N) (b := b) (by omega)]
  have e1 : smN (fun h => l h * (((b + 1) / k ^ h : Nat) : Int)) (N + 1) - smN (fun h => l h * ((b / k ^ h : Nat) : Int)) (N + 1) = smN (fun j => if k ^ j ∣ b + 1 then l j else 0) (N + 1) := by
    rw [← smN_sub]
    refine smN_congr fun j _ => ?_
    rw [← Int.mul_sub, dvd_iff_div (Nat.pow_pos (by omega))]
    split <;> simp
  have e2 : smN (fun h => if k ^ h ≤ b + 1 then s (h + 1) else 0) N - smN (fun h => if k ^ h ≤ b then s (h + 1) else 0) N = smN (fun j => if k ^ j = b + 1 then s (j + 1) else 0) N := by
    rw [← smN_sub]
    refine smN_congr fun j _ => ?_
    by_cases h1 : k ^ j ≤ b
    · rw [if_pos (by omega), if_pos h1, if_neg (by omega)]
      omega
    · by_cases h2 : k ^ j = b + 1
      · rw [if_pos (by omega), if_neg h1, if_pos h2]
        omega
      · rw [if_neg (by omega), if_neg h1, if_neg h2]
        omega
  omega
/-- by the exponent: b + 1 = k ^ e * r, k does not divide r -/
theorem place_exp (hk : 2 ≤ k) {b e r : Nat} (hb : b + 1 = k ^ e * r) (hr : ¬ k ∣ r) : place k s l (b + 1) - place k s l b = smN l (e + 1) + if r = 1 then s (e + 1) else 0 := by
  have r0 : 0 < r := by
    rcases Nat.eq_zero_or_pos r with h | h
    · subst h
      exact absurd (Nat.dvd_zero k) hr
    · exact h
  have dv : ∀ j, k ^ j ∣ b + 1 ↔ j ≤ e := fun j => by
    constructor
    · intro h
      rcases Nat.lt_or_ge e j with z | z
      · exfalso
        obtain ⟨c, rfl⟩ : ∃ c, j = e + 1 + c := ⟨j - (e + 1), by omega⟩
        have h1 : k ^ e * k ∣ k ^ e * r := by
          rw [← hb, ← Nat.pow_succ]
          exact Nat.dvd_trans (Nat.pow_dvd_pow k (by omega)) h
        exact hr (Nat.dvd_of_mul_dvd_mul_left (Nat.pow_pos (by omega)) h1)
      · exact z
    · intro h
      rw [hb]
      exact Nat.dvd_trans (Nat.pow_dvd_pow k h) (Nat.dvd_mul_right _ _)
  have eN : e < b + 1 := by
    have h1 := lt_pow hk e
    have h2 : k ^ e ≤ k ^ e * r := Nat.le_mul_of_pos_right _ r0
    omega
  rw [place_step hk (N := b + 1) (lt_pow hk (b + 1))]
  congr 1
  · have h1 : smN (fun j => if k ^ j ∣ b + 1 then l j else 0) (b + 1 + 1) = smN (fun j => if k ^ j ∣ b + 1 then l j else 0) (e + 1) := smN_ext (by omega) fun j hj => if_neg (by rw [dv]; omega)
    rw [h1]
    exact smN_congr fun j hj => if_pos ((dv j).mpr (by omega))
  · by_cases h1 : r = 1
    · subst h1
      rw [Nat.mul_one] at hb
      rw [if_pos rfl]
      have h2 : smN (fun j => if k ^ j = b + 1 then s (j + 1) else 0) (b + 1) = smN (fun j => if k ^ j = b + 1 then s (j + 1) else 0) (e + 1) := smN_ext (by omega) fun j hj => if_neg (by
        rw [hb]
        intro h
        have := (Nat.pow_right_inj (by omega : 2 ≤ k)).mp h
        omega)
      rw [h2, smN, if_pos hb.symm]
      have h3 : smN (fun j => if k ^ j = b + 1 then s (j + 1) else 0) e = smN (fun _ => 0) e := smN_congr fun j hj => if_neg (by
        rw [hb]
        intro h
        have := (Nat.pow_right_inj (by omega : 2 ≤ k)).mp h
        omega)
      rw [h3]
      have h4 : ∀ n, smN (fun _ => 0) n = 0 := fun n => by
        induction n with
        | zero => rfl
        | succ n ih => rw [smN, ih]; rfl
      rw [h4]
      omega
    · rw [if_neg h1]
      have h3 : smN (fun j => if k ^ j = b + 1 then s (j + 1) else 0) (b + 1) = smN (fun _ => 0) (b + 1) := smN_congr fun j hj => if_neg (by
        intro h
        have hj := (dv j).mp (by rw [h]; exact Nat.dvd_refl _)
        have h5 : k ^ e * r = k ^ j := by rw [← hb, h]
        obtain ⟨c, rfl⟩ : ∃ c, e = j + c := ⟨e - j, by omega⟩
        rw [Nat.pow_add, Nat.mul_assoc] at h5
        have h6 : k ^ c * r = 1 := Nat.eq_of_mul_eq_mul_left (Nat.pow_pos (by omega) : 0 < k ^ j) (by rw [h5, Nat.mul_one])
        exact h1 (Nat.eq_one_of_mul_eq_one_left h6))
      rw [h3]
      have h4 : ∀ n, smN (fun _ => 0) n = 0 := fun n => by
        induction n with
        | zero => rfl
        | succ n ih => rw [smN, ih]; rfl
      rw [h4]
/-! ### nodes of one height follow one another -/
/-- the labels of the node with b such nodes before it -/
def lab (s l : Nat → Int) (h b : Nat) : Int := if b = 0 then s h else l h
theorem fq_step {c : Ct} (h : CtOk c) (t i : Nat) : fq c t i + c.la 0 ≤ fq c t (i + 1) := by
  unfold fq
  rw [smN_head, smN_head, Nat.pow_zero, Nat.div_one, Nat.div_one]
  have h1 : smN (fun j => c.la (j + 1) * ((i / c.k ^ (j + 1) : Nat) : Int)) t ≤ smN (fun j => c.la (j + 1) * (((i + 1) / c.k ^ (j + 1) : Nat) : Int)) t := smN_le fun j _ => Int.mul_le_mul_of_nonneg_left (Int.ofNat_le.mpr (Nat.div_le_div_right (Nat.le_succ i))) (h.la _)
  have h2 : c.la 0 * ((i + 1 : Nat) : Int) = c.la 0 * (i : Int) + c.la 0 := by rw [Int.natCast_add, Int.mul_add]; simp
  omega
theorem fq_ext {c : Ct} (h : CtOk c) {t u i : Nat} (hu : t ≤ u) (hi : i < c.k ^ (t + 1)) : fq c u i = fq c t i := by
  unfold fq
  refine smN_ext (by omega) fun j hj => ?_
  have : i < c.k ^ j := Nat.lt_of_lt_of_le hi (Nat.pow_le_pow_right (by have := h.k2; omega) hj)
  rw [Nat.div_eq_of_lt this]
  simp
theorem pp_step {c : Ct} (h : CtOk c) (b : Nat) : pp c b + c.own ≤ pp c (b + 1) := by
  unfold pp
  rw [if_neg (Nat.succ_ne_zero b)]
  have hk := h.k2
  have e1 : smN (fun j => if c.k ^ j ≤ b then c.sp j else 0) b ≤ smN (fun j => if c.k ^ j ≤ b + 1 then c.sp j else 0) (b + 1) := by
    have h1 : smN (fun j => if c.k ^ j ≤ b then c.sp j else 0) b ≤ smN (fun j => if c.k ^ j ≤ b + 1 then c.sp j else 0) b := smN_le fun j _ => by
      have := h.sp j
      split
      · rw [if_pos (by omega)]
        exact Int.le_refl _
      · split
        · exact this
        · exact Int.le_refl _
    have h2 : 0 ≤ if c.k ^ b ≤ b + 1 then c.sp b else 0 := by
      split
      · exact h.sp b
      · exact Int.le_refl _
    rw [smN]
    omega
  have o1 := h.o1
  by_cases hb : b = 0
  · subst hb
    rw [if_pos rfl]
    have e0 : smN (fun j => if c.k ^ j ≤ 0 then c.sp j else 0) 0 = 0 := rfl
    have e2 : c.la 0 ≤ fq c (0 + 1) (0 + 1) := by
      have h3 := fq_step h 1 0
      have h4 := fq_nn h 1 0
      exact Int.le_trans (by omega) h3
    have ae := h.ae
    omega
  · rw [if_neg hb]
    have e2 : fq c b b + c.la 0 ≤ fq c (b + 1) (b + 1) := by
      have h3 := fq_step h (b + 1) b
      rw [fq_ext h (Nat.le_succ b) (Nat.lt_trans (lt_pow hk b) (Nat.pow_lt_pow_right (by omega) (Nat.lt_succ_self b)))] at h3
      exact h3
    omega
theorem pl_step (hk : 2 ≤ k) (hs : ∀ j, 0 ≤ s j) (hl : ∀ j, 0 ≤ l j) (h0 : 0 < l 0) (h b : Nat) : pl k s l h b + lab s l h (b + 1) ≤ pl k s l h (b + 1) := by
  have := pp_step (ct_ok hk hs hl h0 h) b
  unfold lab
  rw [if_neg (Nat.succ_ne_zero b)]
  exact this
theorem pl_mono (hk : 2 ≤ k) (hs : ∀ j, 0 ≤ s j) (hl : ∀ j, 0 ≤ l j) (h0 : 0 < l 0) (h : Nat) {b c : Nat} (hb : b ≤ c) : pl k s l h b ≤ pl k s l h c := by
  induction c with
  | zero => rw [Nat.le_zero.mp hb]; exact Int.le_refl _
  | succ c ih =>
    rcases Nat.lt_or_ge c b with z | z
    · rw [show b = c + 1 by omega]
      exact Int.le_refl _
    · have h1 := pl_step hk hs hl h0 h c
      have h2 := ih z
      have h3 : 0 ≤ lab s l h (c + 1) := by
        unfold lab
        rw [if_neg (Nat.succ_ne_zero c)]
        exact hl h
      omega
end Sm
namespace Sm
theorem pp_step2 {c : Ct} (h : CtOk c) {b : Nat} (hb : 0 < b) : pp c b + c.la 0 ≤ pp c (b + 1) := by
  unfold pp
  rw [if_neg (Nat.succ_ne_zero b), if_neg (by omega)]
  have hk := h.k2
  have e1 : smN (fun j => if c.k ^ j ≤ b then c.sp j else 0) b ≤ smN (fun j => if c.k ^ j ≤ b + 1 then c.sp j else 0) (b + 1) := by
    have h1 : smN (fun j => if c.k ^ j ≤ b then c.sp j else 0) b ≤ smN (fun j => if c.k ^ j ≤ b + 1 then c.sp j else 0) b := smN_le fun j _ => by
      have := h.sp j
      split
      · rw [if_pos (by omega)]
        exact Int.le_refl _
      · split
        · exact this
        · exact Int.le_refl _
    have h2 : 0 ≤ if c.k ^ b ≤ b + 1 then c.sp b else 0 := by
      split
      · exact h.sp b
      · exact Int.le_refl _
    rw [smN]
    omega
  have e2 : fq c b b + c.la 0 ≤ fq c (b + 1) (b + 1) := by
    have h3 := fq_step h (b + 1) b
    rw [fq_ext h (Nat.le_succ b) (Nat.lt_trans (lt_pow hk b) (Nat.pow_lt_pow_right (by omega) (Nat.lt_succ_self b)))] at h3
    exact h3
  omega
theorem pl_ge {k : Nat} {s l : Nat → Int} (hk : 2 ≤ k) (hs : ∀ j, 0 ≤ s j) (hl : ∀ j, 0 ≤ l j) (h0 : 0 < l 0) (h b : Nat) : (b : Int) ≤ pl k s l h b + 1 := by
  induction b with
  | zero =>
    have := pl_nn hk hs hl h0 h 0
    omega
  | succ b ih =>
    rcases Nat.eq_zero_or_pos b with z | z
    · subst z
      have := pl_nn hk hs hl h0 h 1
      show ((0 + 1 : Nat) : Int) ≤ pl k s l h 1 + 1
      omega
    · have h1 := pp_step2 (ct_ok hk hs hl h0 h) z
      have h2 : 0 < (ctO k s l h).la 0 := (ct_ok hk hs hl h0 h).l0
      have h3 : pl k s l h b + (ctO k s l h).la 0 ≤ pl k s l h (b + 1) := h1
      omega
theorem Cnt.le {k : Nat} {s l : Nat → Int} (hk : 2 ≤ k) (hs : ∀ j, 0 ≤ s j) (hl : ∀ j, 0 ≤ l j) (h0 : 0 < l 0) {h : Nat} {n v : Int} (n0 : 0 ≤ n) (hv : Cnt k s l h n v) : v ≤ n + 2 := by
  rcases Int.lt_or_le (n + 2) v with z | z
  · have h1 := (hv.2 (n + 2).toNat).mp (by omega)
    have h2 := pl_ge hk hs hl h0 h (n + 2).toNat
    omega
  · exact z
end Sm
/-! sums over powers and quotients; bounds of places -/
namespace Sm
def psum (k : Nat) (f : Nat → Int) (b sh : Nat) : Int := smN (fun j => if k ^ j ≤ b then f (sh + j) else 0) b
def lsum (k : Nat) (f : Nat → Int) (b sh : Nat) : Int := smN (fun j => ((b / k ^ (j + 1) : Nat) : Int) * f (sh + j)) b
theorem smN_same {f : Nat → Int} {n m : Nat} (h1 : ∀ j, n ≤ j → f j = 0) (h2 : ∀ j, m ≤ j → f j = 0) : smN f n = smN f m := by
  have a := smN_ext (f := f) (n := n) (m := n + m) (by omega) h1
  have b := smN_ext (f := f) (n := m) (m := n + m) (by omega) h2
  rw [← a, b]
theorem psum_is {k : Nat} (hk : 2 ≤ k) {f : Nat → Int} {b sh t : Nat} (ht : b < k ^ t) : smN (fun j => if k ^ j ≤ b then f (sh + j) else 0) t = psum k f b sh := by
  refine smN_same (fun j hj => if_neg ?_) fun j hj => if_neg ?_
  · have := Nat.pow_le_pow_right (n := k) (by omega) hj
    omega
  · have := lt_pow hk j
    omega
theorem lsum_is {k : Nat} (hk : 2 ≤ k) {f : Nat → Int} {b sh t : Nat} (ht : b < k ^ (t + 1)) : smN (fun j => ((b / k ^ (j + 1) : Nat) : Int) * f (sh + j)) t = lsum k f b sh := by
  refine smN_same (fun j hj => ?_) fun j hj => ?_
  · have : b < k ^ (j + 1) := Nat.lt_of_lt_of_le ht (Nat.pow_le_pow_right (by omega) (by omega))
    rw [Nat.div_eq_of_lt this]
    simp
  · have : b < k ^ (j + 1) := Nat.lt_trans (Nat.lt_of_le_of_lt hj (lt_pow hk j)) (Nat.pow_lt_pow_right (by omega) (Nat.lt_succ_self j))
    rw [Nat.div_eq_of_lt this]
    simp
variable {k : Nat} {s l : Nat → Int}
theorem pl_sums (hk : 2 ≤ k) {h b : Nat} (hb : 0 < b) : pl k s l h b = ed k s l h + l h + ((b : Int) - 1) * siz k l h + lsum k l b (h + 1) + psum k s b (h + 1) := by
  rw [pl_form hb (lt_pow hk b) (Nat.lt_trans (lt_pow hk b) (Nat.pow_lt_pow_right (by omega) (Nat.lt_succ_self b))) hk]
  unfold psum lsum
  have e : smN (fun j => ((b / k ^ (j + 1) : Nat) : Int) * l (h + (j + 1))) b = smN (fun j => ((b / k ^ (j + 1) : Nat) : Int) * l (h + 1 + j)) b := smN_congr fun j _ => by rw [show h + (j + 1) = h + 1 + j by omega]
  rw [e]
  omega
theorem pl_leaf (hk : 2 ≤ k) {b : Nat} : pl k s l 0 b = s 0 + (b : Int) * l 0 + lsum k l b 1 + psum k s b 1 := by
  rcases Nat.eq_zero_or_pos b with z | z
  · subst z
    rw [pl_zero]
    simp [fp, lsum, psum, smN]
  · rw [pl_sums hk z, Nat.zero_add, show ed k s l 0 = s 0 from rfl, show siz k l 0 = l 0 from rfl, Int.sub_mul]
    omega
/-! ### bounds -/
theorem quot_sum (hk : 2 ≤ k) : ∀ (N b : Nat), smN (fun j => ((b / k ^ (j + 1) : Nat) : Int)) N ≤ (b : Int)
  | 0, b => by
    show (0 : Int) ≤ b
    omega
  | N + 1, b => by
    rw [smN_head]
    have h1 : smN (fun j => ((b / k ^ (j + 1 + 1) : Nat) : Int)) N = smN (fun j => ((b / k / k ^ (j + 1) : Nat) : Int)) N := smN_congr fun j _ => by
      rw [Nat.div_div_eq_div_mul, Nat.pow_succ k (j + 1), Nat.mul_comm]
    have h2 := quot_sum hk N (b / k)
    have h3 : 2 * (b / k) ≤ b := Nat.le_trans (Nat.mul_le_mul_right _ hk) (Nat.mul_div_le b k)
    rw [h1, Nat.zero_add, Nat.pow_one]
    omega
theorem smN_const_le {f : Nat → Int} {m : Int} {n : Nat} (h : ∀ j, j < n → f j ≤ m) : smN f n ≤ (n : Int) * m := by
  induction n with
  | zero => simp [smN]
  | succ n ih =>
    have h1 := ih fun j hj => h j (by omega)
    have h2 := h n (by omega)
    rw [smN, Int.natCast_add, Int.add_mul]
    have : ((1 : Nat) : Int) * m = m := by simp
    omega
theorem siz_top (hk : 2 ≤ k) (hk9 : k ≤ 9) (l0 : ∀ j, 0 ≤ l j) (h0 : 0 < l 0) (l3 : ∀ j, l j ≤ 3) : ∀ h, siz k l h + 1 ≤ 4 * ((9 ^ h : Nat) : Int)
  | 0 => by
    have := l3 0
    show l 0 + 1 ≤ 4 * ((1 : Nat) : Int)
    omega
  | h + 1 => by
    have h1 := siz_top hk hk9 l0 h0 l3 h
    have h2 := l3 (h + 1)
    have h3 := sz_pos (l := l) hk l0 h0 h
    have h4 : (k : Int) * siz k l h ≤ 9 * siz k l h := Int.mul_le_mul_of_nonneg_right (by omega) (by omega)
    rw [siz, Nat.pow_succ, Int.natCast_mul]
    omega
theorem siz_nn (l0 : ∀ j, 0 ≤ l j) : ∀ h, 0 ≤ siz k l h
  | 0 => l0 0
  | h + 1 => by
    have h1 := siz_nn l0 h
    have h2 := l0 (h + 1)
    have h3 := Int.mul_nonneg (show (0 : Int) ≤ k by omega) h1
    rw [siz]
    omega
theorem siz_le9 (hk9 : k ≤ 9) (l0 : ∀ j, 0 ≤ l j) (l6 : ∀ j, l j ≤ 1000000) : ∀ h, siz k l h + 1000000 ≤ 2000000 * ((9 ^ h : Nat) : Int)
  | 0 => by
    have := l6 0
    show l 0 + 1000000 ≤ 2000000 * ((1 : Nat) : Int)
    omega
  | h + 1 => by
    have h1 := siz_le9 hk9 l0 l6 h
    have h2 := l6 (h + 1)
    have h3 := siz_nn (k := k) l0 h
    have h4 : (k : Int) * siz k l h ≤ 9 * siz k l h := Int.mul_le_mul_of_nonneg_right (by omega) h3
    rw [siz, Nat.pow_succ, Int.natCast_mul]
    omega
end Sm
/-! pruning: the labels of height 0 taken away -/
namespace Sm
section
variable {k : Nat} {s l : Nat → Int}
/-- how many leaves lie before the node's own labels -/
def vL (k h b : Nat) : Nat := if b = 0 then k ^ h else k ^ (h + 1) * b
theorem vL_pos (hk : 2 ≤ k) (h b : Nat) : 0 < vL k h b := by
  unfold vL
  split
  · exact Nat.pow_pos (by omega)
  · exact Nat.mul_pos (Nat.pow_pos (by omega)) (by omega)
theorem lsum_k (hk : 2 ≤ k) (b h : Nat) : lsum k l (k * b) h = (b : Int) * l h + lsum k l b (h + 1) := by
  have h1 : k * b < k ^ (k * b + 1) := Nat.lt_trans (lt_pow hk (k * b)) (Nat.pow_lt_pow_right (by omega) (Nat.lt_succ_self _))
  rw [← lsum_is hk (t := k * b + 1) (Nat.lt_of_lt_of_le h1 (Nat.pow_le_pow_right (by omega) (by omega))), ← lsum_is hk (t := k * b) (b := b) (Nat.lt_of_le_of_lt (Nat.le_mul_of_pos_left _ (by omega)) h1), smN_head]
  congr 1
  · rw [Nat.zero_add, Nat.pow_one, Nat.mul_div_cancel_left _ (by omega), Nat.add_zero]
  · refine smN_congr fun j _ => ?_
    rw [Nat.pow_succ k (j + 1), Nat.mul_comm _ k, Nat.mul_div_mul_left _ _ (by omega), show h + (j + 1) = h + 1 + j by omega]
theorem psum_k (hk : 2 ≤ k) {b : Nat} (hb : 0 < b) (h : Nat) : psum k s (k * b) h = s h + psum k s b (h + 1) := by
  have h1 : k * b < k ^ (k * b) := Nat.lt_pow_self (by omega)
  rw [← psum_is hk (t := k * b + 1) (Nat.lt_of_lt_of_le h1 (Nat.pow_le_pow_right (by omega) (by omega))), ← psum_is hk (t := k * b) (b := b) (Nat.lt_of_le_of_lt (Nat.le_mul_of_pos_left _ (by omega)) h1), smN_head]
  congr 1
  · rw [Nat.pow_zero, if_pos (show 1 ≤ k * b from Nat.mul_pos (by omega) hb), Nat.add_zero]
  · refine smN_congr fun j _ => ?_
    have e : k ^ (j + 1) ≤ k * b ↔ k ^ j ≤ b := by
      rw [Nat.pow_succ, Nat.mul_comm]
      exact Nat.mul_le_mul_left_iff (by omega)
    rw [show h + (j + 1) = h + 1 + j by omega]
    by_cases c : k ^ j ≤ b
    · rw [if_pos c, if_pos (e.mpr c)]
    · rw [if_neg c, if_neg (fun z => c (e.mp z))]
/-- the first child -/
theorem pl_child (hk : 2 ≤ k) {b : Nat} (hb : 0 < b) (h : Nat) : pl k s l h (k * b) = pl k s l (h + 1) b + l h := by
  rw [pl_sums hk (Nat.mul_pos (by omega) hb), pl_sums hk hb, lsum_k hk, psum_k hk hb, ed, siz, Int.natCast_mul]
  generalize siz k l h = z
  have e : ((b : Int) - 1) * (l (h + 1) + (k : Int) * z) = (b : Int) * l (h + 1) - l (h + 1) + ((k : Int) * (b : Int)) * z - (k : Int) * z := by
    rw [Int.sub_mul, Int.one_mul, Int.mul_add, ← Int.mul_assoc, Int.mul_comm (b : Int) (k : Int)]
    omega
  rw [e, Int.sub_mul, Int.sub_mul, Int.one_mul]
  omega
theorem pl_first (hk : 2 ≤ k) (h : Nat) : pl k s l h 1 = pl k s l (h + 1) 0 + l h := by
  rw [pl_sums hk (by omega), pl_zero, fp, if_neg (by omega), Nat.add_sub_cancel]
  have e1 : lsum k l 1 (h + 1) = 0 := by
    rw [← lsum_is hk (t := 0) (by rw [Nat.zero_add, Nat.pow_one]; omega)]
    rfl
  have e2 : psum k s 1 (h + 1) = s (h + 1) := by
    rw [← psum_is hk (t := 1) (by rw [Nat.pow_one]; omega), smN, smN, Nat.pow_zero, if_pos (Nat.le_refl 1)]
    show 0 + s (h + 1 + 0) = _
    rw [Nat.add_zero, Int.zero_add]
  rw [e1, e2]
  simp
  omega
theorem pl_down (hk : 2 ≤ k) : ∀ (h : Nat) {b : Nat}, 0 < b → pl k s l 0 (k ^ h * b) = pl k s l h b + smN l h
  | 0, b, hb => by rw [Nat.pow_zero, Nat.one_mul, smN, Int.add_zero]
  | h + 1, b, hb => by
    rw [Nat.pow_succ, Nat.mul_assoc, pl_down hk h (Nat.mul_pos (by omega) hb), pl_child hk hb, smN]
    omega
theorem pl_vL (hk : 2 ≤ k) (h b : Nat) : pl k s l 0 (vL k h b) = pl k s l (h + 1) b + smN l (h + 1) := by
  unfold vL
  split
  · rename_i z
    subst z
    have := pl_down (s := s) (l := l) hk h (b := 1) (by omega)
    rw [Nat.mul_one] at this
    rw [this, pl_first hk, smN]
    omega
  · exact pl_down hk (h + 1) (by omega)
theorem smN_mon {f : Nat → Int} (h : ∀ j, 0 ≤ f j) {n m : Nat} (hn : n ≤ m) : smN f n ≤ smN f m := by
  induction m with
  | zero =>
    have : n = 0 := by omega
    subst this
    exact Int.le_refl _
  | succ m ih =>
    rcases Nat.lt_or_ge m n with z | z
    · have : n = m + 1 := by omega
      subst this
      exact Int.le_refl _
    · have := ih z
      have := h m
      rw [smN]
      omega
theorem smN_nn0 {f : Nat → Int} (h : ∀ j, 0 ≤ f j) (n : Nat) : 0 ≤ smN f n := smN_mon h (Nat.zero_le n)
/-- the step before a leaf whose number has a power -/
theorem pl_prev (hk : 2 ≤ k) (hs : ∀ j, 0 ≤ s j) (hl : ∀ j, 0 ≤ l j) {t v : Nat} (hv : k ^ t ∣ v) (v0 : 0 < v) : pl k s l 0 (v - 1) + smN l (t + 1) ≤ pl k s l 0 v := by
  obtain ⟨b, rfl⟩ : ∃ b, v = b + 1 := ⟨v - 1, by omega⟩
  rw [Nat.add_sub_cancel, pl0_place hk, pl0_place hk]
  have hN : b + 1 < k ^ (b + 1 + t) := Nat.lt_of_lt_of_le (Nat.lt_pow_self (by omega)) (Nat.pow_le_pow_right (by omega) (by omega))
  have h1 := place_step (s := s) (l := l) hk hN
  have h2 : 0 ≤ smN (fun j => if k ^ j = b + 1 then s (j + 1) else 0) (b + 1 + t) := smN_nn0 (fun j => by split; exact hs _; exact Int.le_refl _) _
  have h3 : smN (fun j => if k ^ j ∣ b + 1 then l j else 0) (t + 1) ≤ smN (fun j => if k ^ j ∣ b + 1 then l j else 0) (b + 1 + t + 1) := smN_mon (fun j => by split; exact hl _; exact Int.le_refl _) (by omega)
  have h4 : smN (fun j => if k ^ j ∣ b + 1 then l j else 0) (t + 1) = smN l (t + 1) := smN_congr fun j hj => if_pos (Nat.dvd_trans (Nat.pow_dvd_pow k (by omega)) hv)
  omega
theorem vL_prev (hk : 2 ≤ k) (hs : ∀ j, 0 ≤ s j) (hl : ∀ j, 0 ≤ l j) (h b : Nat) : pl k s l 0 (vL k h b - 1) + (if b = 0 then 0 else l (h + 1)) ≤ pl k s l (h + 1) b := by
  have e := pl_vL (s := s) (l := l) hk h b
  have v0 := vL_pos hk h b
  by_cases z : b = 0
  · have h1 := pl_prev (s := s) (l := l) hk hs hl (t := h) (v := vL k h b) (by unfold vL; rw [if_pos z]; exact Nat.dvd_refl _) v0
    rw [if_pos z]
    omega
  · have h1 := pl_prev (s := s) (l := l) hk hs hl (t := h + 1) (v := vL k h b) (by unfold vL; rw [if_neg z]; exact Nat.dvd_mul_right _ _) v0
    rw [smN] at h1
    rw [if_neg z]
    omega
theorem pl_far (hk : 2 ≤ k) (hs : ∀ j, 0 ≤ s j) (hl : ∀ j, 0 ≤ l j) (h0 : 0 < l 0) (h b : Nat) : ∀ d : Nat, pl k s l h b + (d : Int) * l h ≤ pl k s l h (b + d)
  | 0 => by simp
  | d + 1 => by
    have h1 := pl_far hk hs hl h0 h b d
    have h2 := pl_step hk hs hl h0 h (b + d)
    unfold lab at h2
    rw [if_neg (by omega)] at h2
    rw [show b + (d + 1) = b + d + 1 by omega, Int.natCast_add, Int.add_mul]
    simp
    omega
theorem Cnt.mono {h : Nat} {n m v u : Int} (a : Cnt k s l h n v) (b : Cnt k s l h m u) (hn : n ≤ m) : v ≤ u := by
  rcases (show v ≤ u ∨ u < v by omega) with z | z
  · exact z
  · have u0 := b.1
    have h1 := (a.2 u.toNat).mp (by omega)
    have h2 := (b.2 u.toNat).mpr (by omega)
    omega
end
end Sm
/-! the labels of all heights make up all labels -/
namespace Sm
/-- the part of the labels a+1 .. a+w that lies up to n -/
def cl (n a w : Int) : Int := max 0 (min (n - a) w)
section
variable {k : Nat} {s l : Nat → Int}
theorem lsum_same (hk : 2 ≤ k) {c : Nat} (hc : ¬ k ∣ c + 1) (h : Nat) : lsum k l (c + 1) h = lsum k l c h := by
  have h1 : c + 1 < k ^ (c + 1 + 1) := Nat.lt_trans (lt_pow hk (c + 1)) (Nat.pow_lt_pow_right (by omega) (Nat.lt_succ_self _))
  rw [← lsum_is hk (t := c + 1) h1, ← lsum_is hk (t := c + 1) (b := c) (by omega)]
  refine smN_congr fun j _ => ?_
  have := dvd_iff_div (m := k ^ (j + 1)) (b := c) (Nat.pow_pos (by omega))
  rw [if_neg (fun z => hc (Nat.dvd_trans ⟨k ^ j, by rw [Nat.pow_succ, Nat.mul_comm]⟩ z))] at this
  congr 1
  omega
theorem psum_same (hk : 2 ≤ k) {c : Nat} (hc : ¬ k ∣ c + 1) (c0 : 0 < c) (h : Nat) : psum k s (c + 1) h = psum k s c h := by
  have h1 := lt_pow hk (c + 1)
  rw [← psum_is hk (t := c + 1) h1, ← psum_is hk (t := c + 1) (b := c) (by omega)]
  refine smN_congr fun j _ => ?_
  have e : k ^ j ≤ c + 1 ↔ k ^ j ≤ c := by
    refine ⟨fun z => ?_, fun z => by omega⟩
    rcases Nat.lt_or_ge c (k ^ j) with y | y
    · exfalso
      have : k ^ j = c + 1 := by omega
      cases j with
      | zero => rw [Nat.pow_zero] at this; omega
      | succ j => exact hc ⟨k ^ j, by rw [← this, Nat.pow_succ, Nat.mul_comm]⟩
    · exact y
  by_cases z : k ^ j ≤ c
  · rw [if_pos z, if_pos (e.mpr z)]
  · rw [if_neg z, if_neg (fun y => z (e.mp y))]
/-- siblings -/
theorem pl_sib (hk : 2 ≤ k) {c : Nat} (hc : ¬ k ∣ c + 1) (c0 : 0 < c) (h : Nat) : pl k s l h (c + 1) = pl k s l h c + siz k l h := by
  rw [pl_sums hk (by omega), pl_sums hk c0, lsum_same hk hc, psum_same hk hc c0, show (((c + 1 : Nat) : Int) - 1) = ((c : Int) - 1) + 1 by omega, Int.add_mul, Int.one_mul]
  omega
theorem pl_sibs (hk : 2 ≤ k) (h : Nat) {b : Nat} (hb : 0 < b) : ∀ i, i < k → pl k s l h (b * k + i) = pl k s l h (b * k) + (i : Int) * siz k l h
  | 0, _ => by simp
  | i + 1, hi => by
    have h1 := pl_sibs hk h hb i (by omega)
    have h2 : 0 < b * k := Nat.mul_pos hb (by omega)
    rw [show b * k + (i + 1) = b * k + i + 1 by omega, pl_sib hk (fun z => ?_) (by omega), h1, Int.natCast_add, Int.add_mul]
    · simp
      omega
    · rw [show b * k + i + 1 = b * k + (i + 1) by omega] at z
      have := (Nat.dvd_add_right (Nat.dvd_mul_left k b)).mp z
      have := Nat.le_of_dvd (by omega) this
      omega
theorem pl_sib0 (hk : 2 ≤ k) (h : Nat) : ∀ i, i + 1 < k → pl k s l h (i + 1) = pl k s l h 1 + (i : Int) * siz k l h
  | 0, _ => by simp
  | i + 1, hi => by
    have h1 := pl_sib0 hk h i (by omega)
    rw [pl_sib hk (fun z => ?_) (by omega), h1, Int.natCast_add, Int.add_mul]
    · simp
      omega
    · have := Nat.le_of_dvd (by omega) z
      omega
/-- where a node's own labels begin -/
def stt (k : Nat) (s l : Nat → Int) (h b : Nat) : Int := pl k s l h b - lab s l h b
theorem stt_pos {h b : Nat} (hb : 0 < b) : stt k s l h b = pl k s l h b - l h := by
  unfold stt lab
  rw [if_neg (by omega)]
theorem siz_pw (hk : 2 ≤ k) (hl : ∀ j, 0 ≤ l j) (h0 : 0 < l 0) : ∀ h : Nat, ((2 ^ h : Nat) : Int) ≤ siz k l h
  | 0 => by
    rw [siz, Nat.pow_zero]
    omega
  | h + 1 => by
    have h1 := siz_pw hk hl h0 h
    have h2 : 2 * siz k l h ≤ (k : Int) * siz k l h := Int.mul_le_mul_of_nonneg_right (by omega) (siz_nn hl h)
    have h3 := hl (h + 1)
    rw [siz, Nat.pow_succ, Int.natCast_mul]
    omega
theorem ed_pw (hk : 2 ≤ k) (hs : ∀ j, 0 ≤ s j) (hl : ∀ j, 0 ≤ l j) (h0 : 0 < l 0) (h : Nat) : ((2 ^ h : Nat) : Int) ≤ ed k s l (h + 1) := by
  have h1 := siz_pw hk hl h0 h
  have h2 := ed_nn hk hs hl h0 h
  have h3 := hs (h + 1)
  have h4 : 1 * siz k l h ≤ ((k : Int) - 1) * siz k l h := Int.mul_le_mul_of_nonneg_right (by omega) (siz_nn hl h)
  rw [ed]
  omega
end
end Sm
/-! S26: the order of the nodes of a tree; digits -/
namespace Sm
section
variable {k : Nat} {s l : Nat → Int}
theorem stt_zero (h : Nat) : stt k s l (h + 1) 0 = ed k s l h := by
  unfold stt
  rw [pl_zero]
  unfold fp lab
  rw [if_neg (by omega), if_pos rfl]
  show ed k s l h + s (h + 1) - s (h + 1) = _
  omega
theorem stt_00 : stt k s l 0 0 = 0 := by
  unfold stt
  rw [pl_zero]
  unfold fp lab
  rw [if_pos rfl, if_pos rfl]
  omega
theorem pl_stt (h b : Nat) : pl k s l h b = stt k s l h b + lab s l h b := by unfold stt; omega
/-- the top digit -/
theorem stt_top (hk : 2 ≤ k) (h : Nat) {d : Nat} (d1 : 1 ≤ d) (hd : d < k) : stt k s l h d = ed k s l h + s (h + 1) + ((d : Int) - 1) * siz k l h := by
  have h1 := pl_sib0 (s := s) (l := l) hk h (d - 1) (by omega)
  have h2 := pl_first (s := s) (l := l) hk h
  rw [show d - 1 + 1 = d by omega] at h1
  rw [stt_pos (by omega), h1, h2, pl_stt, stt_zero]
  unfold lab
  rw [if_pos rfl, show ((d - 1 : Nat) : Int) = (d : Int) - 1 by omega]
  omega
/-- a further digit -/
theorem stt_dig (hk : 2 ≤ k) (h : Nat) {m d : Nat} (m0 : 0 < m) (hd : d < k) : stt k s l h (m * k + d) = stt k s l (h + 1) m + l (h + 1) + (d : Int) * siz k l h := by
  have h1 := pl_sibs (s := s) (l := l) hk h m0 d hd
  have h2 := pl_child (s := s) (l := l) hk m0 h
  have h3 : 0 < m * k := Nat.mul_pos m0 (by omega)
  rw [stt_pos (by omega), stt_pos m0, h1, Nat.mul_comm m k, h2]
  omega
/-! ### digits, the most significant one first -/
def dval (k : Nat) : Nat → List Nat → Nat
  | n, [] => n
  | n, d :: r => dval k (n * k + d) r
structure DgOf (k m : Nat) (ds : List Nat) : Prop where
  v : dval k 0 ds = m
  lt : ∀ d ∈ ds, d < k
  hd : ∃ d r, ds = d :: r ∧ 1 ≤ d
theorem dval_app (k : Nat) : ∀ (a b : List Nat) (n : Nat), dval k n (a ++ b) = dval k (dval k n a) b
  | [], _, _ => rfl
  | d :: a, b, n => dval_app k a b (n * k + d)
theorem dval_mono {k : Nat} (hk : 1 ≤ k) : ∀ (ds : List Nat) (n : Nat), n ≤ dval k n ds
  | [], n => Nat.le_refl _
  | d :: ds, n => by
    refine Nat.le_trans ?_ (dval_mono hk ds (n * k + d))
    have : n * 1 ≤ n * k := Nat.mul_le_mul_left n hk
    omega
/-! ### the order -/
/-- how many leaves come before a node -/
def lf (k h b : Nat) : Nat := if b = 0 then (if h = 0 then 0 else k ^ (h - 1)) else b * k ^ h
theorem lf_vL (h b : Nat) : lf k (h + 1) b = vL k h b := by
  unfold lf vL
  rw [if_neg (by omega : ¬ h + 1 = 0), Nat.add_sub_cancel, Nat.mul_comm]
theorem lf_0 (b : Nat) : lf k 0 b = b := by
  unfold lf
  rw [if_pos rfl, Nat.pow_zero, Nat.mul_one]
  split <;> omega
theorem lf_pos (hk : 2 ≤ k) {h b : Nat} (hh : ¬ (h = 0 ∧ b = 0)) : 0 < lf k h b := by
  cases h with
  | zero =>
    rw [lf_0]
    omega
  | succ h =>
    rw [lf_vL]
    exact vL_pos hk h b
theorem pl_le_lf (hk : 2 ≤ k) (hs : ∀ j, 0 ≤ s j) (hl : ∀ j, 0 ≤ l j) (h b : Nat) : pl k s l h b ≤ pl k s l 0 (lf k h b) := by
  cases h with
  | zero =>
    rw [lf_0]
    exact Int.le_refl _
  | succ h =>
    rw [lf_vL, pl_vL hk]
    have := smN_nn0 hl (h + 1)
    omega
theorem ed_last (hk : 2 ≤ k) (h : Nat) : pl k s l 0 (k ^ h - 1) = ed k s l h := by
  have h2 : pl k s l (h + 1) 0 = ed k s l h + s (h + 1) := by rw [pl_stt, stt_zero]; unfold lab; rw [if_pos rfl]
  have h3 := pl_vL (s := s) (l := l) hk h 0
  have hp : 0 < k ^ h := Nat.pow_pos (by omega)
  obtain ⟨b, hb⟩ : ∃ b, k ^ h = b + 1 := ⟨k ^ h - 1, by omega⟩
  have h4 := place_exp (s := s) (l := l) (b := b) (e := h) (r := 1) hk (by omega) (by intro z; exact absurd (Nat.le_of_dvd (by decide) z) (by omega))
  rw [if_pos rfl, ← pl0_place hk, ← pl0_place hk] at h4
  unfold vL at h3
  rw [if_pos rfl, h2, hb] at h3
  rw [hb, Nat.add_sub_cancel]
  omega
theorem lf_prev (hk : 2 ≤ k) (hs : ∀ j, 0 ≤ s j) (hl : ∀ j, 0 ≤ l j) (h0 : 0 < l 0) {h b : Nat} (hh : ¬ (h = 0 ∧ b = 0)) : pl k s l 0 (lf k h b - 1) ≤ stt k s l h b := by
  cases h with
  | zero =>
    rw [lf_0]
    obtain ⟨c, rfl⟩ : ∃ c, b = c + 1 := ⟨b - 1, by omega⟩
    have := pl_step hk hs hl h0 0 c
    unfold stt
    show pl k s l 0 c ≤ _
    omega
  | succ h =>
    rw [lf_vL]
    by_cases hb : b = 0
    · subst hb
      rw [stt_zero]
      unfold vL
      rw [if_pos rfl, ed_last hk]
      exact Int.le_refl _
    · have := vL_prev hk hs hl h b
      rw [if_neg hb] at this
      rw [stt_pos (by omega)]
      omega
theorem pl_desc (hk : 2 ≤ k) (hl : ∀ j, 0 ≤ l j) : ∀ (d h : Nat) {m : Nat}, 0 < m → pl k s l (h + d) m ≤ pl k s l h (m * k ^ d)
  | 0, h, m, _ => by
    rw [Nat.pow_zero, Nat.mul_one]
    exact Int.le_refl _
  | d + 1, h, m, hm => by
    have h1 := pl_desc hk hl d (h + 1) hm
    have hp : 0 < m * k ^ d := Nat.mul_pos hm (Nat.pow_pos (by omega))
    have h2 := pl_child (s := s) (l := l) hk hp h
    have h3 := hl h
    rw [show h + (d + 1) = h + 1 + d by omega, Nat.pow_succ, show m * (k ^ d * k) = k * (m * k ^ d) by rw [Nat.mul_comm (k ^ d), ← Nat.mul_assoc, ← Nat.mul_assoc, Nat.mul_comm m k]]
    omega
theorem stt_desc (hk : 2 ≤ k) (hl : ∀ j, 0 ≤ l j) (d h : Nat) {m : Nat} (hm : 0 < m) : pl k s l (h + d + 1) m ≤ stt k s l h (m * k ^ (d + 1)) := by
  have h1 := pl_desc (s := s) hk hl d (h + 1) hm
  have hp : 0 < m * k ^ d := Nat.mul_pos hm (Nat.pow_pos (by omega))
  have h2 := pl_child (s := s) (l := l) hk hp h
  have hq : 0 < m * k ^ (d + 1) := Nat.mul_pos hm (Nat.pow_pos (by omega))
  rw [stt_pos hq, Nat.pow_succ, show m * (k ^ d * k) = k * (m * k ^ d) by rw [Nat.mul_comm (k ^ d), ← Nat.mul_assoc, ← Nat.mul_assoc, Nat.mul_comm m k]]
  rw [show h + d + 1 = h + 1 + d by omega]
  omega
/-- a node that comes before another one ends before it begins -/
theorem node_lt (hk : 2 ≤ k) (hs : ∀ j, 0 ≤ s j) (hl : ∀ j, 0 ≤ l j) (h0 : 0 < l 0) {h1 b1 h2 b2 : Nat} (lt : lf k h1 b1 < lf k h2 b2 ∨ (lf k h1 b1 = lf k h2 b2 ∧ h2 < h1)) : pl k s l h1 b1 ≤ stt k s l h2 b2 := by
  rcases lt with lt | ⟨e, hh⟩
  · have hz : ¬ (h2 = 0 ∧ b2 = 0) := fun z => by
      rw [z.1, z.2, lf_0] at lt
      omega
    refine Int.le_trans (pl_le_lf hk hs hl h1 b1) (Int.le_trans (pl_mono hk hs hl h0 0 (show lf k h1 b1 ≤ lf k h2 b2 - 1 by omega)) (lf_prev hk hs hl h0 hz))
  · obtain ⟨d, rfl⟩ : ∃ d, h1 = h2 + d + 1 := ⟨h1 - h2 - 1, by omega⟩
    have hpos := lf_pos (k := k) hk (h := h2 + d + 1) (b := b1) (by omega)
    have hk1 : ∀ n, 0 < k ^ n := fun n => Nat.pow_pos (by omega)
    by_cases z2 : b2 = 0
    · subst z2
      exfalso
      cases h2 with
      | zero =>
        rw [lf_0] at e
        omega
      | succ h2 =>
        rw [lf_vL, lf_vL] at e
        unfold vL at e
        rw [if_pos rfl] at e
        have hlt : k ^ h2 < k ^ (h2 + 1 + d) := Nat.pow_lt_pow_right (by omega) (by omega)
        split at e
        · omega
        · have h3 : k ^ (h2 + 1 + d + 1) * 1 ≤ k ^ (h2 + 1 + d + 1) * b1 := Nat.mul_le_mul_left _ (by omega)
          have h4 : k ^ (h2 + 1 + d) < k ^ (h2 + 1 + d + 1) := Nat.pow_lt_pow_right (by omega) (by omega)
          omega
    · have e2 : lf k h2 b2 = b2 * k ^ h2 := if_neg z2
      by_cases z1 : b1 = 0
      · subst z1
        have e1 : lf k (h2 + d + 1) 0 = k ^ (h2 + d) := by
          unfold lf
          rw [if_pos rfl, if_neg (by omega)]
          rfl
        rw [e1, e2, Nat.pow_add, Nat.mul_comm (k ^ h2)] at e
        have eb : k ^ d = b2 := Nat.eq_of_mul_eq_mul_right (hk1 h2) e
        have hf := pl_first (s := s) (l := l) hk (h2 + d)
        have hn := hl (h2 + d)
        cases d with
        | zero =>
          rw [Nat.pow_zero] at eb
          subst eb
          rw [stt_pos (by decide)]
          have hf : pl k s l h2 1 = pl k s l (h2 + 0 + 1) 0 + l h2 := hf
          omega
        | succ d =>
          have h3 := stt_desc (s := s) hk hl d h2 (m := 1) (by decide)
          rw [Nat.one_mul, eb] at h3
          have : pl k s l (h2 + d + 1) 1 = pl k s l (h2 + (d + 1) + 1) 0 + l (h2 + (d + 1)) := hf
          omega
      · have e1 : lf k (h2 + d + 1) b1 = b1 * k ^ (h2 + d + 1) := if_neg z1
        rw [e1, e2, show h2 + d + 1 = (d + 1) + h2 by omega, Nat.pow_add, ← Nat.mul_assoc] at e
        have eb := Nat.eq_of_mul_eq_mul_right (hk1 h2) e
        rw [← eb]
        exact stt_desc hk hl d h2 (by omega)
end
end Sm
namespace K13
open PySem L2 Ab Sm
section
variable {P : Program} {w : World} {K : PySem.W.Frag} {mg : Str → Option Value} {base : Heap} {k : Nat} {f C CN CS CB : Addr}
/-! ### digits_of -/
abbrev dgV (ds : List Nat) : Val := .lst ((ds.map Int.ofNat).map .int)
def aDgo : ASp := fun ds M R => ∃ (k m T : Nat), ds = [.int (k : Int), .int (m : Int)] ∧ 2 ≤ k ∧ k ≤ 9 ∧ 0 < m ∧ m < 2 ^ T ∧ T ≤ 4000 ∧ ∀ x, DgOf k m x → x.length ≤ T → R (dgV x) M
theorem b_digits_of (B : Bt mg) (hd : mg "divmod" = none) : BodyOk P w K mg base k f n_digits_of "digits_of" (defScope s_digits_of) (defBody s_digits_of) aDgo := by
  rintro cdv A outer s0 H E hr ds M R ⟨kn, m, T, rfl, k2, k9, m0, hT, T2, hp⟩
  refine as_cons (as_set 2 q_digits_of.nd (ae_lstC (aa_nil ⟨szb, fun q => ?_⟩)))
  refine as_cons (as_whileW (fun n Γ M' => ∃ rs : List Nat, dval kn n rs = m ∧ (∀ d ∈ rs, d < kn) ∧ (n = 0 → ∃ d r, rs = d :: r ∧ 1 ≤ d) ∧ n < 2 ^ (T - rs.length) ∧ rs.length ≤ T ∧ M' = (q, .lst ((rs.reverse.map Int.ofNat).map .int)) :: M ∧ Γ = [some (.int (kn : Int)), some (.int (n : Int)), some (.ptr q), none]) m PassesOwn.never ⟨_, _, ⟨[], rfl, (fun _ h => nomatch h), (fun h => absurd h (by omega)), hT, Nat.zero_le _, rfl, rfl⟩, (by repeat' first | exact le_nil | refine le_skip ?_ | refine le_keep rfl ?_), (by repeat' first | exact List.Sublist.refl _ | exact List.sublist_append_right _ _ | apply List.Sublist.cons₂ | apply List.Sublist.cons)⟩ ?_)
  rintro n Γ M' ⟨rs, hv, hlt, h0, hn, hl, rfl, rfl⟩
  refine ⟨_, (tp_cmp (v_ 1) i_ cp_gt), fun hc => ?_, fun hc => ?_⟩
  · have n0 : 0 < n := by
      have : (0 : Int) < (n : Int) := hc
      omega
    have hk8 : ((kn : Int)).natAbs < 2 ^ 8000 := Nat.lt_of_lt_of_le (show ((kn : Int)).natAbs < 2 ^ 4 by omega) (Nat.pow_le_pow_right (by decide) (by decide))
    refine as_cons (as_asg (aE.val (av_divmod hd (v_ 1) (v_ 0) (cdp (by omega) hk8)) (ag_tup rfl (ags_cons (ag_name 1 q_digits_of.nd (ags_cons (ag_name 3 q_digits_of.nd (ags_nil ?_))))))))
    refine as_one (as_expr (ae_append (n0 := 0) (v_ 2) rfl ((v_ 3).val ⟨0, _, rfl, (szl (by rw [List.length_map, List.length_map, List.length_reverse]; omega)), ?_⟩)))
    have hlen : rs.length < T := by
      by_cases z : rs.length = T
      · rw [z, Nat.sub_self] at hn
        exfalso
        have : n < 1 := hn
        omega
      · omega
    have e1 : (n : Int) / (kn : Int) = ((n / kn : Nat) : Int) := (Int.natCast_ediv n kn).symm
    have e2 : (n : Int) % (kn : Int) = ((n % kn : Nat) : Int) := (Int.natCast_emod n kn).symm
    rw [e1, e2]
    have hmod : n % kn < kn := Nat.mod_lt _ (by omega)
    have hdm : n / kn * kn + n % kn = n := by rw [Nat.mul_comm]; exact Nat.div_add_mod n kn
    refine ⟨_, _, ⟨n / kn, Nat.div_lt_self n0 (by omega), n % kn :: rs, ?_, ?_, ?_, ?_, ?_, ?_, rfl⟩, (by repeat' first | exact le_nil | refine le_skip ?_ | refine le_keep rfl ?_), (by repeat' first | exact List.Sublist.refl _ | exact List.sublist_append_right _ _ | apply List.Sublist.cons₂ | apply List.Sublist.cons)⟩
    · show dval kn (n / kn * kn + n % kn) rs = m
      rw [hdm]
      exact hv
    · intro d hd
      rcases List.mem_cons.mp hd with rfl | hd
      · exact hmod
      · exact hlt d hd
    · intro z
      rw [z, Nat.zero_mul, Nat.zero_add] at hdm
      exact ⟨_, _, rfl, by omega⟩
    · show n / kn < 2 ^ (T - (rs.length + 1))
      have h1 : 2 ^ (T - rs.length) = 2 ^ (T - (rs.length + 1)) * 2 := by rw [← Nat.pow_succ]; congr 1; omega
      rw [h1] at hn
      have h2 : n / kn * 2 ≤ n / kn * kn := Nat.mul_le_mul_left _ k2
      have : n / kn * 2 < 2 ^ (T - (rs.length + 1)) * 2 := by omega
      exact Nat.lt_of_mul_lt_mul_right this
    · show rs.length + 1 ≤ T
      omega
    · show _ = (q, Cell.lst (((n % kn :: rs).reverse.map Int.ofNat).map .int)) :: M
      rw [List.reverse_cons, List.map_append, List.map_append]
      rfl
  · have hn0 : n = 0 := by
      have : ¬ ((0 : Int) < (n : Int)) := hc
      omega
    subst hn0
    refine as_one (as_ret ((av_revL (v_ 2) (.lst 0 rfl)).val (.drop (.ok ?_))))
    rw [← List.map_reverse, ← List.map_reverse, List.reverse_reverse]
    exact hp rs ⟨hv, hlt, h0 rfl⟩ hl
abbrev GDgo (P : Program) (w : World) (K : PySem.W.Frag) (mg : Str → Option Value) (base : Heap) : Prop := Gd P w K mg base 1 "digits_of" [] fun ds _ => aDgo ds
/-! ### labels_before -/
/-- how many labels come before a node -/
def ltS (S : Sc) (h m : Nat) : Int := stt S.a.toNat (item S.sp) (item S.lv) h m
theorem ltS_top {S : Sc} (hS : GoodS S) (h : Nat) {d : Nat} (d1 : 1 ≤ d) (hd : d < S.a.toNat) : edS S h + item S.sp (h + 1) + ((d : Int) - 1) * szS S h = ltS S h d := (stt_top hS.k2 h d1 hd).symm
theorem ltS_dig {S : Sc} (hS : GoodS S) (h : Nat) {m d : Nat} (m0 : 0 < m) (hd : d < S.a.toNat) : ltS S (h + 1) m + item S.lv (h + 1) + (d : Int) * szS S h = ltS S h (m * S.a.toNat + d) := (stt_dig hS.k2 h m0 hd).symm
def aLbf (C : Addr) : ASp := fun ds M R => ∃ (S : Sc) (h m : Nat), ds = [scV C S, .int (h : Int), .int (m : Int)] ∧ GoodS S ∧ h ≤ 3001 ∧ m < 2 ^ 4000 ∧ R (.int (ltS S h m)) M
theorem b_labels_before (B : Bt mg) (T : Rs K mg C) (Q : Sm2 P w K mg base C) (PA : PrA P w K mg base C) (GD : GDgo P w K mg base) (GZ : GSzu P w K mg base C) (GE : GEos P w K mg base C) : BodyOk P w K mg base 4 f n_labels_before "labels_before" (defScope s_labels_before) (defBody s_labels_before) (aLbf C) := by
  rintro cdv A outer s0 H E hr ds M R ⟨S, h, m, rfl, hS, h30, hm, hp⟩
  have a2 := hS.a2
  have a9 := hS.a9
  have k2 := hS.k2
  have k9 := hS.k9
  have ea : S.a = (S.a.toNat : Int) := by omega
  refine as_cons (as_ifp (tp_cmp (v_ 2) i_ cp_eq) (fun hc => ?_) (fun hc => as_nil ?_))
  · have m0 : m = 0 := by
      have : (m : Int) = 0 := hc
      omega
    subst m0
    refine as_cons (as_setv (d := .int ((h - 1 : Nat) : Int)) 3 q_labels_before.nd ?_ ?_)
    · rw [show ((h - 1 : Nat) : Int) = max 0 ((h : Int) - 1) by omega]
      exact (av_max2 B.max rfl i_ (av_sub (v_ 1) i_))
    refine as_one (as_ret (ae_ifp (tp_cmp (v_ 1) i_ cp_gt) (fun c => ?_) (fun c => ?_)))
    · obtain ⟨h', rfl⟩ : ∃ h', h = h' + 1 := ⟨h - 1, by have : (0 : Int) < (h : Int) := c; omega⟩
      rw [Nat.add_sub_cancel]
      refine ae_g GE hr (by decide) (aa_cons ((v_ 0).val (aa_cons (ae_g GZ hr (by decide) (aa_cons ((v_ 0).val (aa_cons ((v_ 3).val (aa_nil (ak_nil ⟨rfl, S, h', rfl, hS, by omega, aa_cons ((v_ 3).val (aa_nil (ak_nil ⟨rfl, S, h', h', rfl, hS, by omega, by omega, ?_⟩)))⟩))))))))))
      have e : ltS S (h' + 1) 0 = edS S h' := stt_zero h'
      rw [e] at hp
      exact .ok hp
    · have h0 : h = 0 := by
        have : ¬ (0 : Int) < (h : Int) := c
        omega
      subst h0
      have e : ltS S 0 0 = 0 := stt_00
      rw [e] at hp
      exact i_.val (.ok hp)
  · have m0 : 0 < m := by
      have : ¬ (m : Int) = 0 := hc
      omega
    refine as_cons (as_set 4 q_labels_before.nd (ae_g GD hr (by decide) (aa_cons ((av_arity T PA hr (by decide) (v_ 0)).val (aa_cons ((v_ 2).val (aa_nil (ak_nil ⟨rfl, S.a.toNat, m, 4000, by rw [← ea], k2, k9, m0, hm, by decide, fun x hx hl => ?_⟩))))))))
    obtain ⟨d0, r, rfl, d1⟩ := hx.hd
    have hv := hx.v
    have hlt := hx.lt
    have hd0 : d0 < S.a.toNat := hlt d0 List.mem_cons_self
    have hlr : (d0 :: r).length = r.length + 1 := rfl
    have hlm : ((d0 :: r).map Int.ofNat).length = r.length + 1 := by rw [List.length_map]; rfl
    refine as_cons (as_setv (d := .int ((h + r.length : Nat) : Int)) 5 q_labels_before.nd ?_ ?_)
    · have e : ((h + r.length : Nat) : Int) = (h : Int) + ((((d0 :: r).map Int.ofNat).map Val.int).length : Int) - 1 := by rw [List.length_map, hlm]; omega
      rw [e]
      exact av_sub (av_add (v_ 1) (av_len B.len (v_ 4) (.l (.self _)))) i_
    refine as_cons (as_set 6 q_labels_before.nd (ae_g GZ hr (by decide) (aa_cons ((v_ 0).val (aa_cons ((v_ 5).val (aa_nil (ak_nil ⟨rfl, S, h + r.length, rfl, hS, by omega, ?_⟩))))))))
    have hul := up_len (g := szS S) (n := h + r.length)
    refine as_cons (as_set 7 q_labels_before.nd (ae_bin (ae_bin (ae_g GE hr (by decide) (aa_cons ((v_ 0).val (aa_cons ((v_ 6).val (aa_cons ((v_ 5).val (aa_nil (ak_nil ⟨rfl, S, h + r.length, h + r.length, rfl, hS, by omega, by omega, (av_sa T Q hr (by decide) (v_ 0) (av_add (v_ 5) i_) hS (by omega)).val (bv_add ((av_mulU (av_sub (av_ixL (v_ 4) i_ (.self _) (atI_int (by decide) (by omega))) i_) (av_ixL (v_ 6) (v_ 5) (.self _) (atI_int (by omega) (by rw [hul]; omega))) (.inl (.inl ⟨?_, ?_⟩))).val (bv_add ?_)))⟩))))))))))) )
    · rw [show at0 ((d0 :: r).map Int.ofNat) 0 = (d0 : Int) from rfl]
      omega
    · rw [show at0 ((d0 :: r).map Int.ofNat) 0 = (d0 : Int) from rfl]
      omega
    have e0 : at0 ((d0 :: r).map Int.ofNat) 0 = (d0 : Int) := rfl
    have e1 : at0 (upL (szS S) (h + r.length)) ((h + r.length : Nat) : Int) = szS S (h + r.length) := by rw [up_at (by omega) (by omega), Int.toNat_natCast]
    rw [e0, e1, show (((h + r.length : Nat) : Int) + 1).toNat = h + r.length + 1 by omega, ltS_top hS _ d1 hd0]
    refine as_cons (as_forW PassesOwn.never rfl (aj_ai (R := fun M1 => M1 = M) (ai_lst (xs := (r.map Int.ofNat).map .int) ((av_sliceL (v_ 4) (ao_some i_) ao_none (.self _)).val ⟨?_, rfl⟩)) fun M1 e => ?_))
    · rw [cut_map, cut_loN (by decide)]
      rfl
    subst e
    have hn1 : ∀ i, 0 < dval S.a.toNat d0 (r.take i) := fun i => Nat.lt_of_lt_of_le d1 (dval_mono (by omega) (r.take i) d0)
    refine ⟨fun i Γ M' => M' = M1 ∧ Γ = [some (scV C S), some (.int (h : Int)), some (.int (m : Int)), none, none, some (.int ((h + (r.length - i) : Nat) : Int)), some (.lst ((upL (szS S) (h + r.length)).map .int)), some (.int (ltS S (h + (r.length - i)) (dval S.a.toNat d0 (r.take i)))), none], ⟨_, _, ⟨rfl, rfl⟩, (by repeat' first | exact le_nil | refine le_skip ?_ | refine le_keep rfl ?_), (by repeat' first | exact List.Sublist.refl _ | exact List.sublist_append_right _ _ | apply List.Sublist.cons₂ | apply List.Sublist.cons)⟩, ?_, ?_⟩
    · rintro i Γ M' hi ⟨rfl, rfl⟩
      have hi : i < r.length := by simpa using hi
      obtain ⟨a, ha⟩ : ∃ a, h + (r.length - i) = a + 1 ∧ h + (r.length - (i + 1)) = a := ⟨h + (r.length - (i + 1)), by omega, rfl⟩
      have hdr : r[i] < S.a.toNat := hlt _ (List.mem_cons_of_mem _ (List.getElem_mem hi))
      rw [ha.1]
      dsimp only
      rw [getD_int (by rw [List.length_map]; exact hi), show ((r.map Int.ofNat)[i]'(by rw [List.length_map]; exact hi)) = (r[i] : Int) by rw [List.getElem_map]; rfl]
      refine ag_name 8 q_labels_before.nd ?_
      refine as_cons (as_setv (d := .int (ltS S a (dval S.a.toNat d0 (r.take (i + 1))))) 7 q_labels_before.nd ?_ ?_)
      · have e2 : dval S.a.toNat d0 (r.take (i + 1)) = dval S.a.toNat d0 (r.take i) * S.a.toNat + r[i] := by
          rw [List.take_succ_eq_append_getElem hi, dval_app]
          rfl
        have e3 := ltS_dig hS a (hn1 i) hdr
        have e4 : at0 (upL (szS S) (h + r.length)) (((a + 1 : Nat) : Int) - 1) = szS S a := by rw [up_at (by omega) (by omega), show (((a + 1 : Nat) : Int) - 1).toNat = a by omega]
        rw [e2, ← e3, ← e4]
        refine av_add (av_add (v_ 7) ?_) (av_mulU (v_ 8) (av_ixL (v_ 6) (av_sub (v_ 5) i_) (.self _) (atI_int (by omega) (by rw [hul]; omega))) (.inl (.inl ⟨by omega, by omega⟩)))
        exact av_la T Q hr (by decide) (v_ 0) (v_ 5) hS (i := ((a + 1 : Nat) : Int)) (by omega)
      refine as_one (as_setv (d := .int (a : Int)) 5 q_labels_before.nd ?_ ?_)
      · rw [show (a : Int) = ((a + 1 : Nat) : Int) - 1 by omega]
        exact av_sub (v_ 5) i_
      exact ⟨_, _, ⟨rfl, by rw [ha.2]⟩, (by repeat' first | exact le_nil | refine le_skip ?_ | refine le_keep rfl ?_), (by repeat' first | exact List.Sublist.refl _ | exact List.sublist_append_right _ _ | apply List.Sublist.cons₂ | apply List.Sublist.cons)⟩
    · rintro Γ M' ⟨rfl, rfl⟩
      rw [List.length_map, List.length_map, Nat.sub_self, List.take_length]
      have e5 : dval S.a.toNat d0 r = m := by rw [← hv]; show _ = dval _ (0 * S.a.toNat + d0) r; rw [Nat.zero_mul, Nat.zero_add]
      rw [e5]
      exact as_one (as_retv (v_ 7) (.ok hp))
abbrev GLbf (P : Program) (w : World) (K : PySem.W.Frag) (mg : Str → Option Value) (base : Heap) (C : Addr) : Prop := Gd P w K mg base 5 "labels_before" [] fun ds _ => aLbf C ds
end
end K13
namespace K13
open PySem L2 Ab Sm
/-! ### nodes -/
def nfN (st : Stmt) (name qual : Str) (cc cda : Addr) : NdefX.NF := ⟨name, qual, defArgs st, defBody st, defScope st, [(("__class__" : Str), cc)], cda⟩
structure NdX (K : PySem.W.Frag) (X : Addr) : Prop where
  cl : Cls K X
  n0 : NoAttr K X "own_schedule"
  n1 : NoAttr K X "own_height"
  n2 : NoAttr K X "index"
  is : Isi K X
structure NdT (K : PySem.W.Frag) (mg : Str → Option Value) (CN CS CB : Addr) : Prop where
  nc : NdC K mg CN
  gS : mg "SpineNode" = some (.ref CS)
  gB : mg "BranchNode" = some (.ref CB)
  s : NdX K CS
  b : NdX K CB
  sN : PySem.W.kitOne K (.ref CS) (.ref CN) = some true
  bN : PySem.W.kitOne K (.ref CB) (.ref CN) = some true
  sB : PySem.W.kitOne K (.ref CS) (.ref CB) = some false
  bS : PySem.W.kitOne K (.ref CB) (.ref CS) = some false
def ndX (CS CB : Addr) (m : Nat) : Addr := if m = 0 then CS else CB
def ndF (C : Addr) (S : Sc) (h m : Nat) : List (Str × Val) := [("own_schedule", scV C S), ("own_height", .int (h : Int)), ("index", .int (m : Int))]
def ndV (C CS CB : Addr) (S : Sc) (h m : Nat) : Val := .obj (ndX CS CB m) (ndF C S h m)
section
variable {P : Program} {w : World} {K : PySem.W.Frag} {mg : Str → Option Value} {base : Heap} {k : Nat} {f C CN CS CB : Addr}
theorem NdT.x (N : NdT K mg CN CS CB) (m : Nat) : NdX K (ndX CS CB m) := by
  unfold ndX
  split
  · exact N.s
  · exact N.b
theorem NdT.kN (N : NdT K mg CN CS CB) (m : Nat) : PySem.W.kitOne K (.ref (ndX CS CB m)) (.ref CN) = some true := by
  unfold ndX
  split
  · exact N.sN
  · exact N.bN
theorem ty_nd {M : Mem} {S : Sc} {h m : Nat} (N : NdT K mg CN CS CB) : TyV K M (ndV C CS CB S h m) (.ref (ndX CS CB m)) := .ob (.im _) (N.x m).cl (N.x m).is.c1 (N.x m).is.c2 (N.x m).is.c3 (N.x m).is.c4
section
variable {X : Cx} {Γ : Gam} {M : Mem} {o : Expr} {pos : Pos} {S : Sc} {h m : Nat}
theorem av_ndS (N : NdT X.K X.mg CN CS CB) (ho : aV X o Γ M (ndV C CS CB S h m)) (hb : attributeBase o "own_schedule" X.env (eval o X.env) = eval o X.env := by rfl) : aV X (.Attribute o "own_schedule" pos) Γ M (scV C S) := av_fld (N.x m).cl (N.x m).n0 ho (.im _) rfl hb
theorem av_ndH (N : NdT X.K X.mg CN CS CB) (ho : aV X o Γ M (ndV C CS CB S h m)) (hb : attributeBase o "own_height" X.env (eval o X.env) = eval o X.env := by rfl) : aV X (.Attribute o "own_height" pos) Γ M (.int (h : Int)) := av_fld (N.x m).cl (N.x m).n1 ho (.im _) rfl hb
theorem av_ndI (N : NdT X.K X.mg CN CS CB) (ho : aV X o Γ M (ndV C CS CB S h m)) (hb : attributeBase o "index" X.env (eval o X.env) = eval o X.env := by rfl) : aV X (.Attribute o "index" pos) Γ M (.int (m : Int)) := av_fld (N.x m).cl (N.x m).n2 ho (.im _) rfl hb
end
/-! ### making nodes -/
def aNin (C X0 : Addr) : ASp := fun ds M R => ∃ (p : Addr) (S : Sc) (h m : Nat) (M0 : Mem), ds = [.ptr p, scV C S, .int (h : Int), .int (m : Int)] ∧ M = (p, .ins X0 []) :: M0 ∧ h ≤ 3000 ∧ R .non ((p, .ins X0 (ndF C S h m)) :: M0)
theorem b_ninit {X0 : Addr} (NX : NdX K X0) (N : NdC K mg CN) (GS : GNsc P w K mg base C) (GI : GInn P w K mg base) : BodyOk P w K mg base 1 f n_Node___init__ "Node.__init__" (defScope c_Node___init__) (defBody c_Node___init__) (aNin C X0) := by
  rintro cdv A outer s0 H E hr ds M R ⟨p, S, h, m, M0, rfl, rfl, h30, hp⟩
  refine as_cons (as_expr (ae_g GS hr (by decide) (aa_cons ((v_ 1).val (aa_nil (ak_nil ⟨rfl, S, rfl, ?_⟩))))))
  refine as_cons (as_if (at_w (aw_or (at_not (at_val (ae_g GI hr (by decide) (aa_cons ((v_ 2).val (aa_cons (i_.val (aa_nil (ak_nil ⟨rfl, (h : Int), 0, rfl, true, ?_, nft, fun _ => ?_⟩))))))))))))
  · rw [decide_eq_true (by omega)]
  refine aw_or1 (at_cmp (v_ 2) (av_mh N) (cmp_gtF (by omega)) ⟨nft, fun _ => as_nil ?_⟩)
  refine as_cons (as_fld NX.cl NX.n0 ((v_ 1).val ((v_ 0).val ⟨0, p, _, rfl, rfl, Nat.le_of_ble_eq_true rfl, ?_⟩)))
  refine as_cons (as_fld NX.cl NX.n1 ((v_ 2).val ((v_ 0).val ⟨0, p, _, rfl, rfl, Nat.le_of_ble_eq_true rfl, ?_⟩)))
  refine as_one (as_fld NX.cl NX.n2 ((v_ 3).val ((v_ 0).val ⟨0, p, _, rfl, rfl, Nat.le_of_ble_eq_true rfl, .ok ?_⟩)))
  exact hp
def aSin (C CS : Addr) : ASp := fun ds M R => ∃ (p : Addr) (S : Sc) (h : Nat) (M0 : Mem), ds = [.ptr p, scV C S, .int (h : Int)] ∧ M = (p, .ins CS []) :: M0 ∧ h ≤ 3000 ∧ R .non ((p, .ins CS (ndF C S h 0)) :: M0)
theorem z_spine_init {cc cda D f2 : Addr} (ms : mg "super" = none) (NX : NdX K CS) (S1 : Sup K P f cda cc D CS f2 "__init__") (XI : FX P w K mg base 2 f2 fun ds _ => aNin C CS ds) :
    ZBody P w K mg base 2 f n_SpineNode___init__ (nfN c_SpineNode___init__ "__init__" "SpineNode.__init__" cc cda) (aSin C CS) := by
  rintro A outer s0 H hr ds M R ⟨p, S, h, M0, rfl, rfl, h30, hp⟩
  exact zs_one (zs_expr (ze_sup S1 XI hr (by decide) ms NX.cl rfl (.ce 0 rfl) (aa_cons ((v_ 1).val (aa_cons ((v_ 2).val (aa_cons (i_.val (aa_nil ⟨p, S, h, 0, M0, rfl, rfl, h30, .ok hp⟩)))))))))
def aBin (C CB : Addr) : ASp := fun ds M R => ∃ (p : Addr) (S : Sc) (h m : Nat) (M0 : Mem), ds = [.ptr p, scV C S, .int (h : Int), .int (m : Int)] ∧ M = (p, .ins CB []) :: M0 ∧ h ≤ 3000 ∧ 0 < m ∧ R .non ((p, .ins CB (ndF C S h m)) :: M0)
theorem z_branch_init {cc cda D f2 : Addr} (ms : mg "super" = none) (NX : NdX K CB) (GI : GInn P w K mg base) (S1 : Sup K P f cda cc D CB f2 "__init__") (XI : FX P w K mg base 2 f2 fun ds _ => aNin C CB ds) :
    ZBody P w K mg base 2 f n_BranchNode___init__ (nfN c_BranchNode___init__ "__init__" "BranchNode.__init__" cc cda) (aBin C CB) := by
  rintro A outer s0 H hr ds M R ⟨p, S, h, m, M0, rfl, rfl, h30, m0, hp⟩
  refine zs_cons (zs_expr (ze_sup S1 XI hr (by decide) ms NX.cl rfl (.ce 0 rfl) (aa_cons ((v_ 1).val (aa_cons ((v_ 2).val (aa_cons ((v_ 3).val (aa_nil ⟨p, S, h, m, M0, rfl, rfl, h30, ?_⟩)))))))))
  refine zs_of ?_
  refine as_one (as_if (at_not (at_val (ae_g GI hr (by decide) (aa_cons ((v_ 3).val (aa_cons (i_.val (aa_nil (ak_nil ⟨rfl, (m : Int), 1, rfl, true, ?_, nft, fun _ => as_nil (.ok hp)⟩))))))))))
  rw [decide_eq_true (by omega)]
structure NMk (P : Program) (w : World) (K : PySem.W.Frag) (mg : Str → Option Value) (base : Heap) (C CS CB : Addr) : Prop where
  s : ∃ fi, Mk K CS fi ∧ FX P w K mg base 3 fi fun ds _ => aSin C CS ds
  b : ∃ fi, Mk K CB fi ∧ FX P w K mg base 3 fi fun ds _ => aBin C CB ds
section
variable {X : Cx} {Γ : Gam} {M : Mem} {R : Val → Mem → Prop} {e e1 e2 : Expr} {p1 p2 pos : Pos} {m : Nat}
theorem ae_spine (N : NdT X.K X.mg CN CS CB) (I : NMk X.prog X.w X.K X.mg X.base C CS CB) (hr : Rm m X.A) (hm : 4 ≤ m)
    (hh : aE X e Γ M fun x M1 => aE X e1 Γ M1 fun y M2 => ∃ (S : Sc) (h : Nat), x = scV C S ∧ y = .int (h : Int) ∧ h ≤ 3000 ∧ R (ndV C CS CB S h 0) M2)
    (hg : Gl X "SpineNode" := by rfl) (he : starEach [e, e1] X.env = (false, eval e X.env) :: starEach [e1] X.env := by rfl) (he2 : starEach [e1] X.env = (false, eval e1 X.env) :: starEach [] X.env := by rfl) : aE X (.Call (.Name "SpineNode" p1) [e, e1] [] pos) Γ M R := by
  obtain ⟨fi, mk, F⟩ := I.s
  refine ae_frzO (ae_make mk F (hr.mono hm) N.gS (aa_cons (hh.mono fun x M1 h1 => aa_cons (h1.mono fun y M2 ⟨S, h, e1, e2, h30, hR⟩ => aa_nil (ak_nil ⟨rfl, fun p hn => ?_⟩)) he2) he) hg rfl rfl (by decide) he (by rw [he, he2]; rfl))
  subst e1 e2
  exact ⟨p, S, h, M2, rfl, rfl, h30, rfl, p, CS, _, M2, rfl, rfl, hR⟩
theorem ae_branch (N : NdT X.K X.mg CN CS CB) (I : NMk X.prog X.w X.K X.mg X.base C CS CB) (hr : Rm m X.A) (hm : 4 ≤ m)
    (hh : aE X e Γ M fun x M1 => aE X e1 Γ M1 fun y M2 => aE X e2 Γ M2 fun z M3 => ∃ (S : Sc) (h b : Nat), x = scV C S ∧ y = .int (h : Int) ∧ z = .int (b : Int) ∧ h ≤ 3000 ∧ 0 < b ∧ R (ndV C CS CB S h b) M3)
    (hg : Gl X "BranchNode" := by rfl) (he : starEach [e, e1, e2] X.env = (false, eval e X.env) :: starEach [e1, e2] X.env := by rfl) (he2 : starEach [e1, e2] X.env = (false, eval e1 X.env) :: starEach [e2] X.env := by rfl) (he3 : starEach [e2] X.env = (false, eval e2 X.env) :: starEach [] X.env := by rfl) : aE X (.Call (.Name "BranchNode" p1) [e, e1, e2] [] pos) Γ M R := by
  obtain ⟨fi, mk, F⟩ := I.b
  refine ae_frzO (ae_make mk F (hr.mono hm) N.gB (aa_cons (hh.mono fun x M1 h1 => aa_cons (h1.mono fun y M2 h2 => aa_cons (h2.mono fun z M3 ⟨S, h, b, e1, e2, e3, h30, b0, hR⟩ => aa_nil (ak_nil ⟨rfl, fun p hn => ?_⟩)) he3) he2) he) hg rfl rfl (by decide) he (by rw [he, he2, he3]; rfl))
  subst e1 e2 e3
  have ex : ndX CS CB b = CB := if_neg (by omega)
  unfold ndV at hR
  rw [ex] at hR
  exact ⟨p, S, h, b, M3, rfl, rfl, h30, b0, rfl, p, CB, _, M3, rfl, rfl, hR⟩
end
/-! ### Node.named -/
def aNmd (C CS CB : Addr) : ASp := fun ds M R => ∃ (S : Sc) (h m : Nat), ds = [scV C S, .int (h : Int), .int (m : Int)] ∧ h ≤ 3000 ∧ R (ndV C CS CB S h m) M
theorem b_named (N : NdT K mg CN CS CB) (I : NMk P w K mg base C CS CB) (GI : GInn P w K mg base) : BodyOk P w K mg base 4 f n_Node_named "Node.named" (defScope c_Node_named) (defBody c_Node_named) (aNmd C CS CB) := by
  rintro cdv A outer s0 H E hr ds M R ⟨S, h, m, rfl, h30, hp⟩
  refine as_cons (as_if (at_w (aw_and (at_val (ae_g GI hr (by decide) (aa_cons ((v_ 2).val (aa_cons (i_.val (aa_nil (ak_nil ⟨rfl, (m : Int), 0, rfl, true, ?_, fun _ => ?_, ntf⟩)))))))))))
  · rw [decide_eq_true (by omega)]
  by_cases z : m = 0
  · subst z
    exact aw_and1 (at_cmp (v_ 2) i_ (cmp_eqI.eq (decide_eq_true rfl)) ⟨fun _ => as_one (as_ret (ae_spine N I hr (by decide) ((v_ 0).val ((v_ 1).val ⟨S, h, rfl, rfl, h30, .ok hp⟩)))), ntf⟩)
  · exact aw_and1 (at_cmp (v_ 2) i_ (cmp_eqI.eq (decide_eq_false (by omega))) ⟨nft, fun _ => as_nil (as_one (as_ret (ae_branch N I hr (by decide) ((v_ 0).val ((v_ 1).val ((v_ 2).val ⟨S, h, m, rfl, rfl, rfl, h30, by omega, .ok hp⟩))))))⟩)
structure NNm (P : Program) (w : World) (K : PySem.W.Frag) (mg : Str → Option Value) (base : Heap) (C CN CS CB : Addr) : Prop where
  ex : ∃ p g, SMet K CN (.type "type") "named" p g ∧ FX P w K mg base 5 g fun ds _ => aNmd C CS CB ds
theorem ae_named {X : Cx} {Γ : Gam} {M : Mem} {R : Val → Mem → Prop} {e e1 e2 : Expr} {p1 apos pos : Pos} {m : Nat} {pl : Sem Bool} (N : NdT X.K X.mg CN CS CB) (I : NNm X.prog X.w X.K X.mg X.base C CN CS CB) (hr : Rm m X.A) (hm : 5 ≤ m)
    (hh : aE X e Γ M fun x M1 => aE X e1 Γ M1 fun y M2 => aE X e2 Γ M2 fun z M3 => ∃ (S : Sc) (h b : Nat), x = scV C S ∧ y = .int (h : Int) ∧ z = .int (b : Int) ∧ h ≤ 3000 ∧ R (ndV C CS CB S h b) M3)
    (hg : Gl X "Node" := by rfl) (he : starEach [e, e1, e2] X.env = (false, eval e X.env) :: starEach [e1, e2] X.env := by rfl) (he2 : starEach [e1, e2] X.env = (false, eval e1 X.env) :: starEach [e2] X.env := by rfl) (he3 : starEach [e2] X.env = (false, eval e2 X.env) :: starEach [] X.env := by rfl)
    (ht : eval (.Call (.Attribute (.Name "Node" p1) "named" apos) [e, e1, e2] [] pos) X.env = (do
      let ov ← eval (.Name "Node" p1) X.env
      standAt apos.atName
      let (f, first) ← holding [ov] (getMethod ov "named" pl)
      callWith pos f first (backTo pos (starEach [e, e1, e2] X.env)) (backToKw pos (keywordEach [] X.env))) := by rfl) : aE X (.Call (.Attribute (.Name "Node" p1) "named" apos) [e, e1, e2] [] pos) Γ M R := by
  obtain ⟨p, g, sm, F⟩ := I.ex
  refine ae_smeth N.nc.rd sm F (hr.mono hm) (ae_glob N.nc.gN ⟨rfl, rfl⟩ hg) (aa_cons (hh.mono fun x M1 h1 => aa_cons (h1.mono fun y M2 h2 => aa_cons (h2.mono fun z M3 ⟨S, h, b, e1, e2, e3, h30, hR⟩ => aa_nil (ak_nil ⟨rfl, S, h, b, by rw [e1, e2, e3], h30, hR⟩)) he3) he2) he) rfl rfl he (by rw [he, he2, he3]; rfl) ht
end
end K13
namespace K13
open PySem L2 Ab GenW Sm
/-! ### properties and methods of nodes -/
structure NPr (P : Program) (w : World) (K : PySem.W.Frag) (mg : Str → Option Value) (base : Heap) (CS CB : Addr) (fl : Str) (n : Nat) (sp : ASp) : Prop where
  s : ∃ p g, PropOf K CS fl p g ∧ FX P w K mg base n g fun ds _ => sp ds
  b : ∃ p g, PropOf K CB fl p g ∧ FX P w K mg base n g fun ds _ => sp ds
structure NMt (P : Program) (w : World) (K : PySem.W.Frag) (mg : Str → Option Value) (base : Heap) (CS CB : Addr) (nm : Str) (n : Nat) (sp : ASp) : Prop where
  s : ∃ f, Meth K CS nm f ∧ FX P w K mg base n f fun ds _ => sp ds
  b : ∃ f, Meth K CB nm f ∧ FX P w K mg base n f fun ds _ => sp ds
section
variable {P : Program} {w : World} {K : PySem.W.Frag} {mg : Str → Option Value} {base : Heap} {k : Nat} {f C CN CS CB : Addr} {fl : Str} {n : Nat} {s : ASp}
theorem NPr.x (Q : NPr P w K mg base CS CB fl n s) (m : Nat) : ∃ p g, PropOf K (ndX CS CB m) fl p g ∧ FX P w K mg base n g fun ds _ => s ds := by
  unfold ndX
  split
  · exact Q.s
  · exact Q.b
theorem NMt.x (Q : NMt P w K mg base CS CB fl n s) (m : Nat) : ∃ f, Meth K (ndX CS CB m) fl f ∧ FX P w K mg base n f fun ds _ => s ds := by
  unfold ndX
  split
  · exact Q.s
  · exact Q.b
section
variable {X : Cx} {Γ : Gam} {M : Mem} {R : Val → Mem → Prop} {o e : Expr} {apos pos : Pos} {S : Sc} {h m q : Nat}
theorem ae_npr (N : NdT X.K X.mg CN CS CB) (Q : NPr X.prog X.w X.K X.mg X.base CS CB fl n s) (hr : Rm q X.A) (hq : n + 1 ≤ q) (ho : aV X o Γ M (ndV C CS CB S h m)) (hh : s [ndV C CS CB S h m] M R) (hb : attributeBase o fl X.env (eval o X.env) = eval o X.env := by rfl) : aE X (.Attribute o fl pos) Γ M R := by
  obtain ⟨p, g, hp, F⟩ := Q.x m
  exact ae_prop (N.x m).cl hp F (hr.mono hq) ho (.im _) hh hb
theorem ae_nm1 {pl : Sem Bool} (N : NdT X.K X.mg CN CS CB) (Q : NMt X.prog X.w X.K X.mg X.base CS CB fl n s) (hr : Rm q X.A) (hq : n ≤ q) (ho : aV X o Γ M (ndV C CS CB S h m)) (hh : aE X e Γ M fun x M1 => s [ndV C CS CB S h m, x] M1 R) (hl : (ndF C S h m).lookup fl = none := by rfl)
    (hst : starEach [e] X.env = (false, eval e X.env) :: starEach [] X.env := by rfl)
    (ht : eval (.Call (.Attribute o fl apos) [e] [] pos) X.env = (do
      let ov ← eval o X.env
      standAt apos.atName
      let (f, first) ← holding [ov] (getMethod ov fl pl)
      callWith pos f first (backTo pos (starEach [e] X.env)) (backToKw pos (keywordEach [] X.env))) := by rfl) : aE X (.Call (.Attribute o fl apos) [e] [] pos) Γ M R :=
  ae_mt1 (N.x m).cl (Q.x m) hr hq ho (.im _) hh hl hst ht
end
def aPsc (C CS CB : Addr) : ASp := fun ds M R => ∃ (S : Sc) (h m : Nat), ds = [ndV C CS CB S h m] ∧ R (scV C S) M
theorem b_nschedule (N : NdT K mg CN CS CB) : BodyOk P w K mg base k f n_Node_schedule "Node.schedule" (defScope c_Node_schedule) (defBody c_Node_schedule) (aPsc C CS CB) := by
  rintro cdv A outer s0 H E hr ds M R ⟨S, h, m, rfl, hp⟩
  exact as_one (as_retv (av_ndS N (v_ 0)) (.ok hp))
def aPhe (C CS CB : Addr) : ASp := fun ds M R => ∃ (S : Sc) (h m : Nat), ds = [ndV C CS CB S h m] ∧ R (.int (h : Int)) M
theorem b_nheight (N : NdT K mg CN CS CB) : BodyOk P w K mg base k f n_Node_height "Node.height" (defScope c_Node_height) (defBody c_Node_height) (aPhe C CS CB) := by
  rintro cdv A outer s0 H E hr ds M R ⟨S, h, m, rfl, hp⟩
  exact as_one (as_retv (av_ndH N (v_ 0)) (.ok hp))
def aPfl (C CS CB : Addr) : ASp := fun ds M R => ∃ (S : Sc) (h m : Nat), ds = [ndV C CS CB S h m] ∧ GoodS S ∧ h ≤ 3001 ∧ m < 2 ^ 4000 ∧ R (.int (ltS S h m + 1)) M
theorem b_first_label (N : NdT K mg CN CS CB) (GL : GLbf P w K mg base C) : BodyOk P w K mg base 5 f n_Node_first_label "Node.first_label" (defScope c_Node_first_label) (defBody c_Node_first_label) (aPfl C CS CB) := by
  rintro cdv A outer s0 H E hr ds M R ⟨S, h, m, rfl, hS, h30, hm, hp⟩
  exact as_one (as_ret (ae_bin (ae_g GL hr (by decide) (aa_cons ((av_ndS N (v_ 0)).val (aa_cons ((av_ndH N (v_ 0)).val (aa_cons ((av_ndI N (v_ 0)).val (aa_nil (ak_nil ⟨rfl, S, h, m, rfl, hS, h30, hm, i_.val (bv_add (.ok hp))⟩)))))))))))
def aChi (C CS CB : Addr) : ASp := fun ds M R => ∃ (S : Sc) (h m c : Nat), ds = [ndV C CS CB S h m, .int (c : Int)] ∧ GoodS S ∧ 0 < h ∧ h ≤ 3000 ∧ c < S.a.toNat ∧ R (ndV C CS CB S (h - 1) (m * S.a.toNat + c)) M
theorem b_child (T : Rs K mg C) (PA : PrA P w K mg base C) (N : NdT K mg CN CS CB) (I : NNm P w K mg base C CN CS CB) (GI : GInn P w K mg base) : BodyOk P w K mg base 5 f n_Node_child "Node.child" (defScope c_Node_child) (defBody c_Node_child) (aChi C CS CB) := by
  rintro cdv A outer s0 H E hr ds M R ⟨S, h, m, c, rfl, hS, h0, h30, hc, hp⟩
  have a2 := hS.a2
  have a9 := hS.a9
  have ea : S.a = (S.a.toNat : Int) := by omega
  refine as_cons (as_if (at_w (aw_or (at_not (at_val (ae_g GI hr (by decide) (aa_cons ((v_ 1).val (aa_cons (i_.val (aa_nil (ak_nil ⟨rfl, (c : Int), 0, rfl, true, ?_, nft, fun _ => ?_⟩))))))))))))
  · rw [decide_eq_true (by omega)]
  refine aw_or (at_cmp (v_ 1) (av_arity T PA hr (by decide) (av_ndS N (v_ 0))) (cmp_ge.eq (decide_eq_false (by omega))) ⟨nft, fun _ => aw_or1 (at_cmp (av_ndH N (v_ 0)) i_ (cmp_eqI.eq (decide_eq_false (by omega))) ⟨nft, fun _ => as_nil ?_⟩)⟩)
  refine as_one (as_ret (ae_named N I hr (by decide) ((av_ndS N (v_ 0)).val ((av_sub (av_ndH N (v_ 0)) i_).val ((av_add (av_mulU (av_ndI N (v_ 0)) (av_arity T PA hr (by decide) (av_ndS N (v_ 0))) (.inl (.inr ⟨by omega, by omega⟩))) (v_ 1)).val ⟨S, h - 1, m * S.a.toNat + c, rfl, by rw [show ((h - 1 : Nat) : Int) = (h : Int) - 1 by omega], ?_, by omega, .ok hp⟩)))))
  rw [Int.natCast_add, Int.natCast_mul, ← ea]
def kids (C CS CB : Addr) (S : Sc) (h m : Nat) : List Val := if h = 0 then [] else (List.range S.a.toNat).map fun c => ndV C CS CB S (h - 1) (m * S.a.toNat + c)
def aKid (C CS CB : Addr) : ASp := fun ds M R => ∃ (S : Sc) (h m : Nat), ds = [ndV C CS CB S h m] ∧ GoodS S ∧ h ≤ 3000 ∧ R (.tup (kids C CS CB S h m)) M
theorem b_children (B : Bt mg) (T : Rs K mg C) (PA : PrA P w K mg base C) (N : NdT K mg CN CS CB) (XC : NMt P w K mg base CS CB "child" 6 (aChi C CS CB)) : BodyOk P w K mg base 6 f n_Node_children "Node.children" (defScope c_Node_children) (defBody c_Node_children) (aKid C CS CB) := by
  rintro cdv A outer s0 H E hr ds M R ⟨S, h, m, rfl, hS, h30, hp⟩
  have a2 := hS.a2
  have a9 := hS.a9
  have ea : S.a = (S.a.toNat : Int) := by omega
  refine as_cons (as_setv (d := .int ((if h = 0 then 0 else S.a.toNat : Nat) : Int)) 1 q_Node_children.nd ?_ ?_)
  · by_cases z : h = 0
    · rw [if_pos z]
      exact ae_ifp (tp_cmp (av_ndH N (v_ 0)) i_ cp_gt) (fun c => absurd c (by omega)) (fun _ => i_.val ⟨rfl, rfl⟩)
    · rw [if_neg z, ← ea]
      exact ae_ifp (tp_cmp (av_ndH N (v_ 0)) i_ cp_gt) (fun _ => (av_arity T PA hr (by decide) (av_ndS N (v_ 0))).val ⟨rfl, rfl⟩) (fun c => absurd (by omega) c)
  refine as_one (as_ret (ae_tuple B.tuple (ae_lcP [("number", 2)] (fun c => ndV C CS CB S (h - 1) (m * S.a.toNat + c)) rfl q_Node_children.nd (blkOk_by (N := n_Node_children) (sc := defScope c_Node_children) (by decide +kernel)) (ai_range1 (n := if h = 0 then 0 else S.a.toNat) B.range ((v_ 1).val ⟨_, rfl, Int.toNat_natCast _, by omega, by split <;> omega, rfl⟩)) ?_ (by split <;> omega) ⟨_, .l (.self _), .ok ?_⟩)))
  · intro c acc D hc s1 H1 C1 cl fp
    refine agw_name 2 q_Node_children.nd fun s1 H1 C1 cl fp => ?_
    have h0 : 0 < h := by
      by_cases z : h = 0
      · rw [if_pos z] at hc
        omega
      · omega
    rw [if_neg (by omega)] at hc
    exact ae_nm1 N XC hr (by decide) (v_ 0) (aE.val (v_ 2) ⟨S, h, m, c, by rw [Int.zero_add], hS, h0, h30, hc, rfl, rfl⟩)
  · unfold kids at hp
    by_cases z : h = 0
    · rw [if_pos z] at hp ⊢
      exact hp
    · rw [if_neg z] at hp ⊢
      exact hp
end
end K13
/-! Ab95: isinstance of a subclass -/
namespace Ab
open PySem PySem.Spec PyProof.Rows L2
theorem kit_yes {K : PySem.W.Frag} {C : Addr} {t : Value} (hd : PySem.W.hasDictIn K C = true) (ht : PySem.W.typeIn K (.ref C) = some (.type "type")) (hs : PySem.W.subIn K t (.ref C) = some true) : PySem.W.kitOne K t (.ref C) = some true := by
  obtain ⟨cd, hc, _⟩ := PySem.W.any_some hd
  unfold PySem.W.kitOne PySem.W.kitCls
  split
  · rfl
  show (if ((PySem.W.clsIn K C).isSome && PySem.W.typeIn K (.ref C) == some (.type "type")) = true then PySem.W.subIn K t (.ref C) else none) = some true
  rw [hc, ht, hs]
  simp
theorem nf_no {K : PySem.W.Frag} {C : Addr} {t : Value} (hs : PySem.W.subIn K t (.ref C) = some false) : PySem.W.notFirst K C t = true := by
  simp [PySem.W.notFirst, hs]
theorem nf_self {K : PySem.W.Frag} {C : Addr} : PySem.W.notFirst K C (.ref C) = true := by
  simp [PySem.W.notFirst]
/-! ### t == () -/
end Ab
namespace K13
open PySem L2 Ab GenW Sm
section
variable {P : Program} {w : World} {K : PySem.W.Frag} {mg : Str → Option Value} {base : Heap} {k : Nat} {f C CN CS CB : Addr} {fl : Str} {n : Nat}
/-! ### __repr__ -/
abbrev zzS : Str := "SpineNode("
abbrev zzB : Str := "BranchNode("
abbrev zzC : Str := ", "
abbrev zzE : Str := ")"
def spT (h : Nat) : Str := Str.empty ++ zzS ++ toString (h : Int) ++ zzE
def brT (h m : Nat) : Str := Str.empty ++ zzB ++ toString (h : Int) ++ zzC ++ toString (m : Int) ++ zzE
def ndT (h m : Nat) : Str := if m = 0 then spT h else brT h m
theorem showN {m : Nat} (h : m < 2 ^ 1900) : showI (m : Int) := log_lt (Nat.lt_of_lt_of_le (show ((m : Int)).natAbs < 2 ^ 1900 by rw [Int.natAbs_natCast]; exact h) (Nat.pow_le_pow_right (by decide) (by decide)))
theorem show30 {h : Nat} (hh : h ≤ 3001) : showI (h : Int) := showN (Nat.lt_of_lt_of_le (show h < 2 ^ 12 by omega) (Nat.pow_le_pow_right (by decide) (by decide)))
theorem sp_parts {X : Cx} {Γ : Gam} {M : Mem} {e : Expr} {j1 j2 : Nat} {p1 p2 p3 pos : Pos} {h : Nat} (he : aV X e Γ M (.int (h : Int))) (hh : showI (h : Int)) : aV X (.JoinedStr [.Constant (.str "SpineNode(") j1 p1, .FormattedValue e (-1) none p2, .Constant (.str ")") j2 p3] pos) Γ M (.str (spT h)) := by
  have l1 : (toString (h : Int) : Str).length ≤ 1921 := shownI_le hh
  have e0 : (Str.empty ++ zzS : Str).length = 10 := by rw [Str.empty_append]; decide
  have e1 : (Str.empty ++ zzS ++ toString (h : Int) : Str).length = 10 + (toString (h : Int) : Str).length := by rw [Str.length_append, e0]
  have e2 : (zzE : Str).length = 1 := by decide
  exact av_joined (out := spT h) (.cons s_ (sz (n := (Str.empty ++ zzS : Str).length) (by omega)) (.cons (av_fmt he (.int _ hh)) (sz (n := (Str.empty ++ zzS ++ toString (h : Int) : Str).length) (by omega)) (.cons s_ (sz (n := (Str.empty ++ zzS ++ toString (h : Int) ++ zzE : Str).length) (by rw [Str.length_append]; omega)) (.nil _))))
theorem br_parts {X : Cx} {Γ : Gam} {M : Mem} {e e2 : Expr} {j1 j2 j3 : Nat} {p1 p2 p3 p4 p5 pos : Pos} {h m : Nat} (he : aV X e Γ M (.int (h : Int))) (he2 : aV X e2 Γ M (.int (m : Int))) (hh : showI (h : Int)) (hm : showI (m : Int)) : aV X (.JoinedStr [.Constant (.str "BranchNode(") j1 p1, .FormattedValue e (-1) none p2, .Constant (.str ", ") j2 p3, .FormattedValue e2 (-1) none p4, .Constant (.str ")") j3 p5] pos) Γ M (.str (brT h m)) := by
  have l1 : (toString (h : Int) : Str).length ≤ 1921 := shownI_le hh
  have l2 : (toString (m : Int) : Str).length ≤ 1921 := shownI_le hm
  have e0 : (Str.empty ++ zzB : Str).length = 11 := by rw [Str.empty_append]; decide
  have e1 : (Str.empty ++ zzB ++ toString (h : Int) : Str).length = 11 + (toString (h : Int) : Str).length := by rw [Str.length_append, e0]
  have c2 : (zzC : Str).length = 2 := by decide
  have e2 : (Str.empty ++ zzB ++ toString (h : Int) ++ zzC : Str).length = 11 + (toString (h : Int) : Str).length + 2 := by rw [Str.length_append, e1, c2]
  have e3 : (Str.empty ++ zzB ++ toString (h : Int) ++ zzC ++ toString (m : Int) : Str).length = 11 + (toString (h : Int) : Str).length + 2 + (toString (m : Int) : Str).length := by rw [Str.length_append, e2]
  have c3 : (zzE : Str).length = 1 := by decide
  exact av_joined (out := brT h m) (.cons s_ (sz (n := (Str.empty ++ zzB : Str).length) (by omega)) (.cons (av_fmt he (.int _ hh)) (sz (n := (Str.empty ++ zzB ++ toString (h : Int) : Str).length) (by omega)) (.cons s_ (sz (n := (Str.empty ++ zzB ++ toString (h : Int) ++ zzC : Str).length) (by omega)) (.cons (av_fmt he2 (.int _ hm)) (sz (n := (Str.empty ++ zzB ++ toString (h : Int) ++ zzC ++ toString (m : Int) : Str).length) (by omega)) (.cons s_ (sz (n := (Str.empty ++ zzB ++ toString (h : Int) ++ zzC ++ toString (m : Int) ++ zzE : Str).length) (by rw [Str.length_append]; omega)) (.nil _))))))
def aSrp (C CS CB : Addr) : ASp := fun ds M R => ∃ (S : Sc) (h : Nat), ds = [ndV C CS CB S h 0] ∧ h ≤ 3001 ∧ R (.str (ndT h 0)) M
theorem b_spine_repr (N : NdT K mg CN CS CB) : BodyOk P w K mg base k f n_SpineNode___repr__ "SpineNode.__repr__" (defScope c_SpineNode___repr__) (defBody c_SpineNode___repr__) (aSrp C CS CB) := by
  rintro cdv A outer s0 H E hr ds M R ⟨S, h, rfl, hh, hp⟩
  exact as_one (as_retv (sp_parts (av_ndH N (v_ 0)) (show30 hh)) (.ok hp))
def aBrp (C CS CB : Addr) : ASp := fun ds M R => ∃ (S : Sc) (h m : Nat), ds = [ndV C CS CB S h m] ∧ h ≤ 3001 ∧ 0 < m ∧ m < 2 ^ 1900 ∧ R (.str (ndT h m)) M
theorem b_branch_repr (N : NdT K mg CN CS CB) : BodyOk P w K mg base k f n_BranchNode___repr__ "BranchNode.__repr__" (defScope c_BranchNode___repr__) (defBody c_BranchNode___repr__) (aBrp C CS CB) := by
  rintro cdv A outer s0 H E hr ds M R ⟨S, h, m, rfl, hh, m0, hm, hp⟩
  have e : ndT h m = brT h m := if_neg (by omega)
  rw [e] at hp
  exact as_one (as_retv (br_parts (av_ndH N (v_ 0)) (av_ndI N (v_ 0)) (show30 hh) (showN hm)) (.ok hp))
structure NRp (P : Program) (w : World) (K : PySem.W.Frag) (mg : Str → Option Value) (base : Heap) (C CS CB : Addr) : Prop where
  s : ∃ f, ReprM P w K mg base 1 CS f (aSrp C CS CB)
  b : ∃ f, ReprM P w K mg base 1 CB f (aBrp C CS CB)
theorem ae_nrepr {X : Cx} {Γ : Gam} {M : Mem} {R : Val → Mem → Prop} {a : Expr} {p1 pos : Pos} {q : Nat} {S : Sc} {h m : Nat} (N : NdT X.K X.mg CN CS CB) (Q : NRp X.prog X.w X.K X.mg X.base C CS CB) (hr : Rm q X.A) (hq : 2 ≤ q) (hs : X.mg "repr" = none) (ha : aV X a Γ M (ndV C CS CB S h m)) (hh : h ≤ 3001) (hm : m < 2 ^ 1900) (hp : R (.str (ndT h m)) M) (hg : Gl X "repr" := by rfl)
    (hst : starEach [a] X.env = [(false, eval a X.env)] := by rfl) : aE X (.Call (.Name "repr" p1) [a] [] pos) Γ M R := by
  by_cases z : m = 0
  · subst z
    obtain ⟨f, O⟩ := Q.s
    exact ae_reprOwn (m1 := "__repr__") O hr hq hs (ha.val ⟨(Ob.im _).obM rfl, S, h, rfl, hh, _, rfl, hp⟩) hg hst
  · obtain ⟨f, O⟩ := Q.b
    have ex : ndX CS CB m = CB := if_neg z
    have hob : ObM M CB (ndV C CS CB S h m) "__repr__" := by
      unfold ndV
      rw [ex]
      exact (Ob.im _).obM rfl
    exact ae_reprOwn (m1 := "__repr__") O hr hq hs (ha.val ⟨hob, S, h, m, rfl, hh, by omega, hm, _, rfl, hp⟩) hg hst
/-! ### __eq__ -/
def aNeq (K : PySem.W.Frag) (C CN CS CB : Addr) : ASp := fun ds M R => ∃ (S : Sc) (h m : Nat) (d : Val), ds = [ndV C CS CB S h m, d] ∧ GoodS S ∧
  ((∃ (S' : Sc) (h' m' : Nat) (b : Bool), d = ndV C CS CB S' h' m' ∧ GoodS S' ∧ (b = true ↔ h = h' ∧ m = m' ∧ S = S') ∧ R (.bl b) M) ∨ (∃ t, TyV K M d t ∧ PySem.W.kitOne K t (.ref CN) = some false ∧ R (.bl false) M))
theorem b_neq (B : Bt mg) (N : NdT K mg CN CS CB) {fq : Addr} (OS : OwnS P w K mg base C fq) : BodyOk P w K mg base 1 f n_Node___eq__ "Node.__eq__" (defScope c_Node___eq__) (defBody c_Node___eq__) (aNeq K C CN CS CB) := by
  rintro cdv A outer s0 H E hr ds M R ⟨S, h, m, d, rfl, hS, hp⟩
  rcases hp with ⟨S', h', m', b, rfl, hS', hb, hp⟩ | ⟨t, ht, hk, hp⟩
  · refine as_cons (as_if (at_w (aw_or (at_not (at_val (ae_isi B.isinstance (v_ 1) (ae_glob N.nc.gN ⟨rfl, rfl⟩) (.own CN) (ty_nd N) (N.kN m') ⟨true, rfl, nft, fun _ => ?_⟩))))))
    by_cases z1 : h = h'
    · refine aw_or (at_cmp (av_ndH N (v_ 0)) (av_ndH N (v_ 1)) (cmp_neI.eq (by rw [decide_eq_true (by omega)]; rfl)) ⟨nft, fun _ => ?_⟩)
      by_cases z2 : m = m'
      · refine aw_or1 (at_cmp (av_ndI N (v_ 0)) (av_ndI N (v_ 1)) (cmp_neI.eq (by rw [decide_eq_true (by omega)]; rfl)) ⟨nft, fun _ => as_nil ?_⟩)
        have e : b = relS (schF S) (schF S') := by
          by_cases z3 : S = S'
          · rw [rel_eq z3]
            exact hb.mpr ⟨z1, z2, z3⟩
          · rw [rel_ne z3]
            cases b with
            | false => rfl
            | true => exact absurd (hb.mp rfl).2.2 z3
        rw [e] at hp
        exact as_one (as_ret (ae_cmp (av_ndS N (v_ 0)) (av_ndS N (v_ 1)) (cmp_eqO OS hr ⟨_, rfl, hS⟩ ⟨_, rfl, hS'⟩) (.ok hp)))
      · have e : b = false := by
          cases b with
          | false => rfl
          | true => exact absurd (hb.mp rfl).2.1 z2
        subst e
        refine aw_or1 (at_cmp (av_ndI N (v_ 0)) (av_ndI N (v_ 1)) (cmp_neI.eq (by rw [decide_eq_false (by omega)]; rfl)) ⟨fun _ => ?_, ntf⟩)
        refine as_one (as_retv av_bl ?_)
        exact .ok hp
    · have e : b = false := by
        cases b with
        | false => rfl
        | true => exact absurd (hb.mp rfl).1 z1
      subst e
      refine aw_or (at_cmp (av_ndH N (v_ 0)) (av_ndH N (v_ 1)) (cmp_neI.eq (by rw [decide_eq_false (by omega)]; rfl)) ⟨fun _ => ⟨fun _ => ?_, ntf⟩, ntf⟩)
      refine as_one (as_retv av_bl ?_)
      exact .ok hp
  · refine as_cons (as_if (at_w (aw_or (at_not (at_val (ae_isi B.isinstance (v_ 1) (ae_glob N.nc.gN ⟨rfl, rfl⟩) (.own CN) ht hk ⟨false, rfl, fun _ => ⟨fun _ => ?_, ntf⟩, ntf⟩))))))
    refine as_one (as_retv av_bl ?_)
    exact .ok hp
structure NEq (P : Program) (w : World) (K : PySem.W.Frag) (mg : Str → Option Value) (base : Heap) (C CN CS CB : Addr) : Prop where
  s : ∃ f, OwnM P w K mg base 2 CS f (aNeq K C CN CS CB)
  b : ∃ f, OwnM P w K mg base 2 CB f (aNeq K C CN CS CB)
  sb : PySem.W.notFirst K CS (.ref CB) = true
  bs : PySem.W.notFirst K CB (.ref CS) = true
theorem NEq.x (Q : NEq P w K mg base C CN CS CB) (m : Nat) : ∃ f, OwnM P w K mg base 2 (ndX CS CB m) f (aNeq K C CN CS CB) := by
  unfold ndX
  split
  · exact Q.s
  · exact Q.b
theorem NEq.nf (Q : NEq P w K mg base C CN CS CB) (m m' : Nat) : PySem.W.notFirst K (ndX CS CB m) (.ref (ndX CS CB m')) = true := by
  unfold ndX
  split <;> split
  · exact nf_self
  · exact Q.sb
  · exact Q.bs
  · exact nf_self
/-! ### trees.py -/
/-! ### leaves_before -/
/-! ### precedes -/
end
end K13
/-! S27: the node in which a label lies; its path -/
namespace Sm
section
variable {k : Nat} {s l : Nat → Int} {n : Int} {h b h' b' : Nat}
structure On (k : Nat) (s l : Nat → Int) (n : Int) (h b : Nat) : Prop where
  lo : stt k s l h b < n
  hi : n ≤ pl k s l h b
theorem lf_inj (hk : 2 ≤ k) (e : lf k h b = lf k h b') : b = b' := by
  cases h with
  | zero =>
    rw [lf_0, lf_0] at e
    exact e
  | succ h =>
    rw [lf_vL, lf_vL] at e
    unfold vL at e
    have hp : 0 < k ^ (h + 1) := Nat.pow_pos (by omega)
    have hlt : k ^ h < k ^ (h + 1) := Nat.pow_lt_pow_right (by omega) (by omega)
    split at e
    · split at e
      · omega
      · have : k ^ (h + 1) * 1 ≤ k ^ (h + 1) * b' := Nat.mul_le_mul_left _ (by omega)
        omega
    · split at e
      · have : k ^ (h + 1) * 1 ≤ k ^ (h + 1) * b := Nat.mul_le_mul_left _ (by omega)
        omega
      · exact Nat.eq_of_mul_eq_mul_left hp e
theorem On.uniq (hk : 2 ≤ k) (hs : ∀ j, 0 ≤ s j) (hl : ∀ j, 0 ≤ l j) (h0 : 0 < l 0) (x : On k s l n h b) (y : On k s l n h' b') : h = h' ∧ b = b' := by
  have key : ∀ {h b h' b' : Nat}, On k s l n h b → On k s l n h' b' → ¬ (lf k h b < lf k h' b' ∨ (lf k h b = lf k h' b' ∧ h' < h)) := fun {h b h' b'} x y z => by
    have := node_lt hk hs hl h0 z
    have := x.hi
    have := y.lo
    omega
  have k1 := key x y
  have k2 := key y x
  have e : lf k h b = lf k h' b' := by omega
  have eh : h = h' := by omega
  subst eh
  exact ⟨rfl, lf_inj hk e⟩
/-! ### padded digits -/
def pdg (k : Nat) : Nat → Nat → List Nat
  | 0, _ => []
  | j + 1, v => pdg k j (v / k) ++ [v % k]
theorem pdg_add (hk : 0 < k) : ∀ (j m v : Nat), pdg k j (m * k ^ j + v) = pdg k j v
  | 0, _, _ => rfl
  | j + 1, m, v => by
    have e : m * k ^ (j + 1) = k * (m * k ^ j) := by rw [Nat.pow_succ, ← Nat.mul_assoc, Nat.mul_comm]
    show pdg k j ((m * k ^ (j + 1) + v) / k) ++ [(m * k ^ (j + 1) + v) % k] = pdg k j (v / k) ++ [v % k]
    rw [e, Nat.mul_add_div hk, Nat.mul_add_mod, pdg_add hk j]
/-- the last digits of a number -/
theorem drop_dig : ∀ (ds : List Nat) (n j : Nat), (∀ d ∈ ds, d < k) → j ≤ ds.length → ds.drop (ds.length - j) = pdg k j (dval k n ds) := fun ds => by
  induction hL : ds.length generalizing ds with
  | zero =>
    intro n j _ hj
    have : j = 0 := by omega
    subst this
    rw [Nat.sub_zero, List.drop_of_length_le (by omega)]
    rfl
  | succ L ih =>
    intro n j hd hj
    rcases List.eq_nil_or_concat ds with z | ⟨i, d, z⟩
    · rw [z] at hL
      cases hL
    · have z : ds = i ++ [d] := by rw [z, List.concat_eq_append]
      subst z
      have hi : i.length = L := by
        rw [List.length_append] at hL
        simpa using hL
      have hdk : d < k := hd d (by simp)
      cases j with
      | zero =>
        rw [Nat.sub_zero, List.drop_of_length_le (by omega)]
        rfl
      | succ j =>
        have e1 := ih i hi n j (fun x hx => hd x (by simp [hx])) (by omega)
        rw [show L + 1 - (j + 1) = L - j by omega, List.drop_append_of_le_length (by omega), e1, dval_app]
        show _ = pdg k j ((dval k n i * k + d) / k) ++ [(dval k n i * k + d) % k]
        rw [Nat.mul_comm, Nat.mul_add_div (by omega), Nat.div_eq_of_lt hdk, Nat.add_zero, Nat.mul_add_mod, Nat.mod_eq_of_lt hdk]
/-! ### the path of a label -/
structure PathOf (k : Nat) (s l : Nat → Int) (n : Int) (st : Nat) (ds : List Nat) (r : Int) : Prop where
  len : ds.length ≤ st
  on : On k s l n (st - ds.length) (dval k 0 ds)
  rest : r = n - stt k s l (st - ds.length) (dval k 0 ds)
  lt : ∀ d ∈ ds, d < k
  hd : ds = [] ∨ ∃ d t, ds = d :: t ∧ 1 ≤ d
theorem PathOf.spine {st : Nat} (h1 : stt k s l st 0 < n) (h2 : n ≤ pl k s l st 0) : PathOf k s l n st [] (n - stt k s l st 0) := ⟨Nat.zero_le _, ⟨h1, h2⟩, rfl, (fun _ h => nomatch h), .inl rfl⟩
/-- inside the branches of a stage: the node at height a on the way, v its index -/
structure Way (k : Nat) (s l : Nat → Int) (n : Int) (st a : Nat) (ds : List Nat) (r : Int) : Prop where
  len : ds.length + a = st
  lt : ∀ d ∈ ds, d < k
  hd : ∃ d t, ds = d :: t ∧ 1 ≤ d
  eq : n = stt k s l a (dval k 0 ds) + r
  r1 : 1 ≤ r
  r2 : r ≤ siz k l a
theorem Way.pos (hk : 2 ≤ k) {st a : Nat} {ds : List Nat} {r : Int} (w : Way k s l n st a ds r) : 0 < dval k 0 ds := by
  obtain ⟨d, t, rfl, h1⟩ := w.hd
  refine Nat.lt_of_lt_of_le ?_ (dval_mono (k := k) (by omega) t (0 * k + d))
  omega
theorem Way.fin (hk : 2 ≤ k) {st a : Nat} {ds : List Nat} {r : Int} (w : Way k s l n st a ds r) (hr : r ≤ l a) : PathOf k s l n st ds r := by
  have hp := w.pos hk
  have hl := w.len
  have ha : st - ds.length = a := by omega
  have he := w.eq
  have h1 := w.r1
  refine ⟨by omega, ?_, ?_, w.lt, .inr w.hd⟩
  · rw [ha]
    have := stt_pos (k := k) (s := s) (l := l) (h := a) hp
    exact ⟨by omega, by omega⟩
  · rw [ha]
    omega
theorem ediv_lt {x y z : Int} (hz : 0 < z) (h : x < y * z) : x / z < y := Int.ediv_lt_of_lt_mul hz h
theorem Way.first (hk : 2 ≤ k) (hl : ∀ j, 0 ≤ l j) (h0 : 0 < l 0) {a : Nat} {c : Int} (c0 : 0 ≤ c) (c1 : c < ((k : Int) - 1) * siz k l a) (he : n = ed k s l a + s (a + 1) + 1 + c) :
    Way k s l n (a + 1) a [(c / siz k l a + 1).toNat] (c % siz k l a + 1) ∧ ((c / siz k l a + 1).toNat : Int) = c / siz k l a + 1 := by
  have hz := sz_pos hk hl h0 a
  have q0 : 0 ≤ c / siz k l a := Int.ediv_nonneg c0 (by omega)
  have q1 : c / siz k l a < (k : Int) - 1 := ediv_lt hz c1
  have m0 := Int.emod_nonneg c (show siz k l a ≠ 0 by omega)
  have m1 := Int.emod_lt_of_pos c hz
  have hdm := Int.mul_ediv_add_emod c (siz k l a)
  obtain ⟨d, hd⟩ : ∃ d : Nat, c / siz k l a + 1 = (d : Int) := ⟨(c / siz k l a + 1).toNat, by omega⟩
  have ed' : (c / siz k l a + 1).toNat = d := by omega
  rw [ed']
  refine ⟨⟨by show 1 + a = a + 1; omega, fun x hx => ?_, ⟨d, [], rfl, by omega⟩, ?_, by omega, by omega⟩, hd.symm⟩
  · rw [List.mem_singleton.mp hx]
    omega
  · show n = stt k s l a (0 * k + d) + _
    rw [Nat.zero_mul, Nat.zero_add, stt_top hk a (by omega) (by omega)]
    have e : (d : Int) - 1 = c / siz k l a := by omega
    rw [e, Int.mul_comm]
    omega
theorem Way.next (hk : 2 ≤ k) (hl : ∀ j, 0 ≤ l j) (h0 : 0 < l 0) {st a : Nat} {ds : List Nat} {r : Int} (w : Way k s l n st a ds r) (hr : l a < r) :
    ∃ a', a = a' + 1 ∧ Way k s l n st a' (ds ++ [((r - l a - 1) / siz k l a').toNat]) ((r - l a - 1) % siz k l a' + 1) ∧ (((r - l a - 1) / siz k l a').toNat : Int) = (r - l a - 1) / siz k l a' := by
  cases a with
  | zero =>
    have := w.r2
    have e : siz k l 0 = l 0 := rfl
    omega
  | succ a =>
    refine ⟨a, rfl, ?_⟩
    have hz := sz_pos hk hl h0 a
    have hsz : siz k l (a + 1) = l (a + 1) + k * siz k l a := rfl
    have r2 := w.r2
    have hc1 : r - l (a + 1) - 1 < (k : Int) * siz k l a := by omega
    obtain ⟨c, hc, c0⟩ : ∃ c, r - l (a + 1) - 1 = c ∧ 0 ≤ c := ⟨_, rfl, by omega⟩
    rw [hc] at hc1 ⊢
    have q0 : 0 ≤ c / siz k l a := Int.ediv_nonneg c0 (by omega)
    have q1 : c / siz k l a < (k : Int) := ediv_lt hz hc1
    have m0 := Int.emod_nonneg c (show siz k l a ≠ 0 by omega)
    have m1 := Int.emod_lt_of_pos c hz
    have hdm := Int.mul_ediv_add_emod c (siz k l a)
    obtain ⟨d, hd⟩ : ∃ d : Nat, c / siz k l a = (d : Int) := ⟨(c / siz k l a).toNat, by omega⟩
    have ed' : (c / siz k l a).toNat = d := by omega
    rw [ed']
    have hlen := w.len
    refine ⟨⟨by rw [List.length_append]; show ds.length + 1 + a = st; omega, fun x hx => ?_, ?_, ?_, by omega, by omega⟩, hd.symm⟩
    · rcases List.mem_append.mp hx with z | z
      · exact w.lt x z
      · rw [List.mem_singleton.mp z]
        omega
    · obtain ⟨x, t, rfl, h1⟩ := w.hd
      exact ⟨x, t ++ [d], rfl, h1⟩
    · rw [dval_app]
      show n = stt k s l a (dval k 0 ds * k + d) + _
      rw [stt_dig hk a (w.pos hk) (by omega), w.eq]
      rw [← hd, Int.mul_comm]
      omega
end
end Sm
namespace K13
open PySem L2 Ab GenW Sm
section
variable {P : Program} {w : World} {K : PySem.W.Frag} {mg : Str → Option Value} {base : Heap} {k : Nat} {f C CN CS CB : Addr}
/-! ### paths -/
abbrev OnS (S : Sc) (n : Int) (h b : Nat) : Prop := On S.a.toNat (item S.sp) (item S.lv) n h b
abbrev PathS (S : Sc) (n : Int) (st : Nat) (ds : List Nat) (r : Int) : Prop := PathOf S.a.toNat (item S.sp) (item S.lv) n st ds r
abbrev WayS (S : Sc) (n : Int) (st a : Nat) (ds : List Nat) (r : Int) : Prop := Way S.a.toNat (item S.sp) (item S.lv) n st a ds r
abbrev dgT (ds : List Nat) : Val := .tup ((ds.map Int.ofNat).map .int)
abbrev paV (st : Nat) (ds : List Nat) (r : Int) : Val := .tup [.int (st : Int), dgT ds, .int r]
theorem szS_8000 {S : Sc} (hS : GoodS S) {a : Nat} (ha : a ≤ 2300) : (szS S a).natAbs < 2 ^ 8000 := by
  have h1 := siz_le9 hS.k9 hS.l0 (fun j => (hS.ll.item j).2) a
  have h2 : 0 < szS S a := sz_pos hS.k2 hS.l0 hS.lp a
  have h3 : (9 : Nat) ^ a ≤ 9 ^ 2300 := Nat.pow_le_pow_right (by decide) ha
  have h4 : 2000000 * (9 : Nat) ^ 2300 < 2 ^ 8000 := by decide +kernel
  have h5 : szS S a + 1000000 ≤ 2000000 * ((9 ^ a : Nat) : Int) := h1
  generalize (9 : Nat) ^ 2300 = p at *
  generalize (2 : Nat) ^ 8000 = q at *
  generalize (9 : Nat) ^ a = r at *
  omega
def aPin (C : Addr) : ASp := fun ds M R => ∃ (S : Sc) (a : Nat) (n c : Int), ds = [scV C S, .lst ((upL (szS S) a).map .int), .int ((a + 1 : Nat) : Int), .int c] ∧ GoodS S ∧ a ≤ 2300 ∧ 0 ≤ c ∧ c < ((S.a.toNat : Int) - 1) * szS S a ∧ n = edS S a + item S.sp (a + 1) + 1 + c ∧ ∀ x r, PathS S n (a + 1) x r → R (paV (a + 1) x r) M
theorem b_path_inside (B : Bt mg) (T : Rs K mg C) (Q : Sm2 P w K mg base C) : BodyOk P w K mg base 3 f n_path_inside "path_inside" (defScope s_path_inside) (defBody s_path_inside) (aPin C) := by
  rintro cdv A outer s0 H E hr ds M R ⟨S, a, n, c, rfl, hS, ha, c0, c1, he, hp⟩
  have k2 := hS.k2
  have hul := up_len (g := szS S) (n := a)
  have hz : ∀ b, 0 < szS S b := fun b => sz_pos k2 hS.l0 hS.lp b
  have up : ∀ b : Nat, b ≤ a → at0 (upL (szS S) a) (b : Int) = szS S b := fun b hb => by rw [up_at (by omega) (by omega), Int.toNat_natCast]
  obtain ⟨hw, hw2⟩ := Way.first (s := item S.sp) (l := item S.lv) (n := n) k2 hS.l0 hS.lp c0 c1 he
  have ix : ∀ {Γ : Gam} {M : Mem} {e1 e2 : Expr} {pos : Pos} {b : Nat}, b ≤ a → aV (bcx P w K mg base n_path_inside "path_inside" (defScope s_path_inside) f cdv A outer s0 H E) e1 Γ M (.lst ((upL (szS S) a).map .int)) → aV (bcx P w K mg base n_path_inside "path_inside" (defScope s_path_inside) f cdv A outer s0 H E) e2 Γ M (.int (b : Int)) → PlainIx e2 → aV (bcx P w K mg base n_path_inside "path_inside" (defScope s_path_inside) f cdv A outer s0 H E) (.Subscript e1 e2 pos) Γ M (.int (szS S b)) := fun hb h1 h2 h3 => by
    rw [← up _ hb]
    exact av_ixL h1 h2 (.self _) (atI_int (by omega) (by rw [hul]; omega)) h3
  refine as_cons (as_setv (d := .int (a : Int)) 4 q_path_inside.nd ?_ ?_)
  · rw [show (a : Int) = ((a + 1 : Nat) : Int) - 1 by omega]
    exact av_sub (v_ 2) i_
  refine as_cons (as_par 5 6 q_path_inside.nd rfl (by decide) (aa_cons (ae_lstC (aa_cons ((av_add (av_fdivU (v_ 3) (ix (Nat.le_refl _) (v_ 1) (v_ 4) fun _ _ => rfl) (cdw (hz a) (szS_8000 hS ha))) i_).val (aa_nil ⟨szb, fun q => aa_cons ((av_add (av_mod (v_ 3) (ix (Nat.le_refl _) (v_ 1) (v_ 4) fun _ _ => rfl) (hz a)) i_).val (aa_nil ⟨_, _, rfl, ?_⟩))⟩))))))
  have e0 : c / szS S a + 1 = (((c / szS S a + 1).toNat : Nat) : Int) := hw2.symm
  rw [e0]
  refine as_cons (as_whileW (fun m Γ M' => ∃ (x : List Nat) (r b : Int), WayS S n (a + 1) m x r ∧ M' = (q, .lst ((x.map Int.ofNat).map .int)) :: M ∧ Γ = [some (scV C S), some (.lst ((upL (szS S) a).map .int)), some (.int ((a + 1 : Nat) : Int)), some (.int b), some (.int (m : Int)), some (.ptr q), some (.int r)]) a PassesOwn.never ⟨_, _, ⟨_, _, c, hw, rfl, rfl⟩, (by repeat' first | exact le_nil | refine le_skip ?_ | refine le_keep rfl ?_), (by repeat' first | exact List.Sublist.refl _ | exact List.sublist_append_right _ _ | apply List.Sublist.cons₂ | apply List.Sublist.cons)⟩ ?_)
  rintro m Γ M' ⟨x, r, b, w, rfl, rfl⟩
  have hma : m ≤ a := by
    have := w.len
    have : 1 ≤ x.length := by
      obtain ⟨d, t, rfl, _⟩ := w.hd
      simp
    omega
  have hxl : x.length ≤ a + 1 := by have := w.len; omega
  have lv : ∀ {Γ : Gam} {M : Mem} {e1 e2 : Expr} {pos apos : Pos}, True := fun {_ _ _ _ _ _} => trivial
  refine ⟨_, tp_cmp (v_ 6) (av_la T Q hr (by decide) (v_ 0) (v_ 4) hS (i := (m : Int)) (by omega)) cp_gt, fun hc => ?_, fun hc => ?_⟩
  · have hc : item S.lv m < r := hc
    obtain ⟨m', rfl, w', hd⟩ := w.next k2 hS.l0 hS.lp hc
    refine as_cons (as_setv (d := .int (r - item S.lv (m' + 1) - 1)) 3 q_path_inside.nd (av_sub (av_sub (v_ 6) (av_la T Q hr (by decide) (v_ 0) (v_ 4) hS (i := ((m' + 1 : Nat) : Int)) (by omega))) i_) ?_)
    refine as_cons (as_setv (d := .int (m' : Int)) 4 q_path_inside.nd ?_ ?_)
    · rw [show (m' : Int) = ((m' + 1 : Nat) : Int) - 1 by omega]
      exact av_sub (v_ 4) i_
    refine as_cons (as_expr (ae_append (n0 := 0) (v_ 5) rfl ((av_fdivU (v_ 3) (ix (by omega) (v_ 1) (v_ 4) fun _ _ => rfl) (cdw (hz m') (szS_8000 hS (by omega)))).val ⟨0, _, rfl, szl (by rw [List.length_map, List.length_map]; omega), ?_⟩)))
    refine as_one (as_setv 6 q_path_inside.nd (av_add (av_mod (v_ 3) (ix (by omega) (v_ 1) (v_ 4) fun _ _ => rfl) (hz m')) i_) ?_)
    refine ⟨_, _, ⟨m', by omega, _, _, _, w', ?_, rfl⟩, (by repeat' first | exact le_nil | refine le_skip ?_ | refine le_keep rfl ?_), (by repeat' first | exact List.Sublist.refl _ | exact List.sublist_append_right _ _ | apply List.Sublist.cons₂ | apply List.Sublist.cons)⟩
    rw [List.map_append, List.map_append]
    show (q, Cell.lst (_ ++ [Val.int ((r - item S.lv (m' + 1) - 1) / szS S m')])) :: M = (q, Cell.lst (_ ++ [Val.int (((r - item S.lv (m' + 1) - 1) / siz S.a.toNat (item S.lv) m').toNat : Nat)])) :: M
    rw [hd]
    rfl
  · have hc : ¬ item S.lv m < r := hc
    have hpath := w.fin k2 (by omega)
    refine as_one (as_ret ((av_tup (avs_cons (v_ 2) (avs_cons (av_tuple B.tuple (v_ 5) (.l (.lst 0 rfl))) (avs_cons (v_ 6) avs_nil))) szb).val (.drop (.ok (hp x r hpath)))))
abbrev GPin (P : Program) (w : World) (K : PySem.W.Frag) (mg : Str → Option Value) (base : Heap) (C : Addr) : Prop := Gd P w K mg base 4 "path_inside" [] fun ds _ => aPin C ds
/-! ### path_of -/
def aPth (C : Addr) : ASp := fun ds M R => ∃ (S : Sc) (n : Int), ds = [scV C S, .int n] ∧ GoodS S ∧ 1 ≤ n ∧ n < 2 ^ 2000 ∧ ∀ st x r, st ≤ 2010 → PathS S n st x r → R (paV st x r) M
theorem b_path_of (B : Bt mg) (T : Rs K mg C) (Q : Sm2 P w K mg base C) (PA : PrA P w K mg base C) (GI : GPin P w K mg base C) : BodyOk P w K mg base 4 f n_path_of "path_of" (defScope s_path_of) (defBody s_path_of) (aPth C) := by
  rintro cdv A outer s0 H E hr ds M R ⟨S, n, rfl, hS, n1, n2, hp⟩
  have a2 := hS.a2
  have a9 := hS.a9
  have k2 := hS.k2
  have ea : S.a = (S.a.toNat : Int) := by omega
  have hz : ∀ b, 0 < szS S b := fun b => sz_pos k2 hS.l0 hS.lp b
  have ed8 : ∀ t : Nat, edS S t < n → t ≤ 2001 := fun t ht => by
    cases t with
    | zero => omega
    | succ t =>
      have h1 := ed_pw (s := item S.sp) (l := item S.lv) k2 hS.s0 hS.l0 hS.lp t
      have h2 : ((2 ^ t : Nat) : Int) ≤ edS S (t + 1) := h1
      have h3 : ((2 ^ t : Nat) : Int) < 2 ^ 2000 := by omega
      have e : (2 : Int) ^ 2000 = ((2 ^ 2000 : Nat) : Int) := by rw [Int.natCast_pow]; rfl
      rw [e] at h3
      have h4 : 2 ^ t < 2 ^ 2000 := Int.ofNat_lt.mp h3
      have := (Nat.pow_lt_pow_iff_right (a := 2) (by decide)).mp h4
      omega
  refine as_cons (as_par3 2 3 4 q_path_of.nd rfl (aa_cons ((av_sa T Q hr (by decide) (v_ 0) i_ hS (by decide)).val (aa_cons (ae_lstC (aa_cons ((av_la T Q hr (by decide) (v_ 0) i_ hS (by decide)).val (aa_nil ⟨szb, fun q => aa_cons (i_.val (aa_nil ⟨_, _, _, rfl, ?_⟩))⟩)))))))) 
  have e00 : edS S 0 = item S.sp (0 : Int).toNat := rfl
  rw [← e00]
  refine as_cons (as_ifp (tp_cmp (v_ 1) (v_ 2) cp_le) (fun hc => ?_) (fun hc => as_nil ?_))
  · have hc : n ≤ edS S 0 := hc
    have h0 : PathS S n 0 [] (n - stt S.a.toNat (item S.sp) (item S.lv) 0 0) := PathOf.spine (by rw [stt_00]; omega) (by rw [pl_zero]; unfold fp; rw [if_pos rfl, Int.zero_add]; exact hc)
    rw [stt_00, Int.sub_zero] at h0
    exact as_one (as_ret ((av_tup (avs_cons i_ (avs_cons (av_tup avs_nil szb) (avs_cons (v_ 1) avs_nil))) szb).val (.drop (.ok (hp 0 [] n (by decide) h0)))))
  have hc : ¬ n ≤ edS S 0 := hc
  refine as_one (as_whileL (fun m Γ M' => ∃ t : Nat, m = 2010 - t ∧ edS S t < n ∧ M' = (q, .lst ((upL (szS S) t).map .int)) :: M ∧ Γ = [some (scV C S), some (.int n), some (.int (edS S t)), some (.ptr q), some (.int (t : Int)), none]) 2010 PassesOwn.never ⟨_, ⟨0, rfl, by omega, rfl, rfl⟩, (by repeat' first | exact le_nil | refine le_skip ?_ | refine le_keep rfl ?_)⟩ ?_)
  rintro m Γ M' ⟨t, rfl, ht, rfl, rfl⟩
  have ht8 := ed8 t ht
  have hul := up_len (g := szS S) (n := t)
  refine ⟨_, tp_val av_bl, fun _ => ?_, fun h => absurd rfl h⟩
  refine as_cons (as_setv (d := .int ((t + 1 : Nat) : Int)) 4 q_path_of.nd ?_ ?_)
  · rw [show ((t + 1 : Nat) : Int) = (t : Int) + 1 by omega]
    exact av_add (v_ 4) i_
  refine as_cons (as_setv (d := .int (edS S t + item S.sp (t + 1))) 5 q_path_of.nd (av_add (v_ 2) (av_sa T Q hr (by decide) (v_ 0) (v_ 4) hS (i := ((t + 1 : Nat) : Int)) (by omega))) ?_)
  refine as_cons (as_ifp (tp_cmp (v_ 1) (v_ 5) cp_le) (fun hc2 => ?_) (fun hc2 => as_nil ?_))
  · have h0 : PathS S n (t + 1) [] (n - stt S.a.toNat (item S.sp) (item S.lv) (t + 1) 0) := PathOf.spine (by rw [stt_zero]; exact ht) (by rw [pl_stt, stt_zero]; unfold lab; rw [if_pos rfl]; exact hc2)
    rw [stt_zero] at h0
    exact as_one (as_ret ((av_tup (avs_cons (v_ 4) (avs_cons (av_tup avs_nil szb) (avs_cons (av_sub (v_ 1) (v_ 2)) avs_nil))) szb).val (.drop (.ok (hp (t + 1) [] _ (by omega) h0)))))
  have hc2 : ¬ n ≤ edS S t + item S.sp (t + 1) := hc2
  have e1 : at0 (upL (szS S) t) (((t + 1 : Nat) : Int) - 1) = szS S t := by rw [up_at (by omega) (by omega), show (((t + 1 : Nat) : Int) - 1).toNat = t by omega]
  have hix : ∀ {Γ : Gam} {e e2 : Expr} {pos : Pos}, aV (bcx P w K mg base n_path_of "path_of" (defScope s_path_of) f cdv A outer s0 H E) e Γ ((q, .lst ((upL (szS S) t).map .int)) :: M) (.ptr q) → aV (bcx P w K mg base n_path_of "path_of" (defScope s_path_of) f cdv A outer s0 H E) e2 Γ ((q, .lst ((upL (szS S) t).map .int)) :: M) (.int (((t + 1 : Nat) : Int) - 1)) → PlainIx e2 → aV (bcx P w K mg base n_path_of "path_of" (defScope s_path_of) f cdv A outer s0 H E) (.Subscript e e2 pos) Γ ((q, .lst ((upL (szS S) t).map .int)) :: M) (.int (szS S t)) := fun h1 h2 h3 => by
    rw [← e1]
    exact av_ixL h1 h2 (.lst 0 rfl) (atI_int (by omega) (by rw [hul]; omega)) h3
  refine as_cons (as_setv (d := .int (edS S (t + 1))) 2 q_path_of.nd ?_ ?_)
  · rw [← edS_step hS t]
    exact av_add (v_ 5) (av_mulU (av_sub (av_arity T PA hr (by decide) (v_ 0)) i_) (hix (v_ 3) (av_sub (v_ 4) i_) fun _ _ => rfl) (.inl (.inl ⟨by omega, by omega⟩)))
  refine as_cons (as_ifp (tp_cmp (v_ 1) (v_ 2) cp_le) (fun hc3 => ?_) (fun hc3 => as_nil ?_))
  · have hc3 : n ≤ edS S (t + 1) := hc3
    refine as_frz 3 rfl ?_
    have e5 := edS_step hS t
    rw [ea] at e5
    refine as_one (as_ret (ae_g GI hr (by decide) (aa_cons ((v_ 0).val (aa_cons ((v_ 3).val (aa_cons ((v_ 4).val (aa_cons ((av_sub (av_sub (v_ 1) (v_ 5)) i_).val (aa_nil (ak_nil ⟨rfl, S, t, n, n - (edS S t + item S.sp (t + 1)) - 1, rfl, hS, by omega, by omega, by omega, by omega, fun x r hx => .ok (hp (t + 1) x r (by omega) hx)⟩))))))))))))
  have hc3 : ¬ n ≤ edS S (t + 1) := hc3
  refine as_one (as_expr (ae_append (n0 := 0) (v_ 3) rfl (aE.val (av_add (av_la T Q hr (by decide) (v_ 0) (v_ 4) hS (i := ((t + 1 : Nat) : Int)) (by omega)) (av_mulU (av_arity T PA hr (by decide) (v_ 0)) (hix (v_ 3) (av_sub (v_ 4) i_) fun _ _ => rfl) (.inl (.inl ⟨by omega, by omega⟩)))) ⟨0, _, rfl, (szl (by rw [List.length_map, hul]; omega)), ?_⟩)))
  refine ⟨_, ⟨2010 - (t + 1), by omega, t + 1, rfl, by omega, ?_, rfl⟩, (by repeat' first | exact le_nil | refine le_skip ?_ | refine le_keep rfl ?_)⟩
  have e6 := szS_succ hS t
  show (q, Cell.lst ((upL (szS S) t).map .int ++ [.int (item S.lv (t + 1) + S.a * szS S t)])) :: M = _
  rw [e6, up_succ]
abbrev GPth (P : Program) (w : World) (K : PySem.W.Frag) (mg : Str → Option Value) (base : Heap) (C : Addr) : Prop := Gd P w K mg base 5 "path_of" [] fun ds _ => aPth C ds
/-! ### led, at, label_path, end_label -/
def aLed (C CS CB : Addr) : ASp := fun ds M R => ∃ (S : Sc) (st : Nat) (x : List Nat), ds = [scV C S, .int (st : Int), dgT x] ∧ GoodS S ∧ x.length ≤ st ∧ st ≤ 3000 ∧ R (ndV C CS CB S (st - x.length) (dval S.a.toNat 0 x)) M
theorem b_led (B : Bt mg) (T : Rs K mg C) (PA : PrA P w K mg base C) (N : NdT K mg CN CS CB) (I : NNm P w K mg base C CN CS CB) : BodyOk P w K mg base 5 f n_Node_led "Node.led" (defScope c_Node_led) (defBody c_Node_led) (aLed C CS CB) := by
  rintro cdv A outer s0 H E hr ds M R ⟨S, st, x, rfl, hS, hx, h30, hp⟩
  have a2 := hS.a2
  have a9 := hS.a9
  have ea : S.a = (S.a.toNat : Int) := by omega
  have hxl : ((x.map Int.ofNat).map Val.int).length = x.length := by rw [List.length_map, List.length_map]
  refine as_cons (as_setv (d := .int ((dval S.a.toNat 0 (x.take 0) : Nat) : Int)) 3 q_Node_led.nd i_ ?_)
  refine as_cons (as_forW PassesOwn.never rfl (aj_ai (R := fun M1 => M1 = M) (ai_tup (xs := (x.map Int.ofNat).map .int) ((v_ 2).val ⟨rfl, rfl⟩)) fun M1 e => ?_))
  subst e
  refine ⟨fun i Γ M' => M' = M1 ∧ Γ = [some (scV C S), some (.int (st : Int)), some (dgT x), some (.int ((dval S.a.toNat 0 (x.take i) : Nat) : Int)), none], ⟨_, _, ⟨rfl, rfl⟩, (by repeat' first | exact le_nil | refine le_skip ?_ | refine le_keep rfl ?_), (by repeat' first | exact List.Sublist.refl _ | exact List.sublist_append_right _ _ | apply List.Sublist.cons₂ | apply List.Sublist.cons)⟩, ?_, ?_⟩
  · rintro i Γ M' hi ⟨rfl, rfl⟩
    have hi : i < x.length := by rw [hxl] at hi; exact hi
    dsimp only
    rw [getD_int (by rw [List.length_map]; exact hi), show ((x.map Int.ofNat)[i]'(by rw [List.length_map]; exact hi)) = (x[i] : Int) by rw [List.getElem_map]; rfl]
    refine ag_name 4 q_Node_led.nd ?_
    refine as_one (as_setv (d := .int ((dval S.a.toNat 0 (x.take (i + 1)) : Nat) : Int)) 3 q_Node_led.nd ?_ ⟨_, _, ⟨rfl, rfl⟩, (by repeat' first | exact le_nil | refine le_skip ?_ | refine le_keep rfl ?_), (by repeat' first | exact List.Sublist.refl _ | exact List.sublist_append_right _ _ | apply List.Sublist.cons₂ | apply List.Sublist.cons)⟩)
    have e2 : dval S.a.toNat 0 (x.take (i + 1)) = dval S.a.toNat 0 (x.take i) * S.a.toNat + x[i] := by
      rw [List.take_succ_eq_append_getElem hi, dval_app]
      rfl
    rw [e2, Int.natCast_add, Int.natCast_mul, ← ea]
    exact av_add (av_mulU (v_ 3) (av_arity T PA hr (by decide) (v_ 0)) (.inl (.inr ⟨by omega, by omega⟩))) (v_ 4)
  · rintro Γ M' ⟨rfl, rfl⟩
    rw [hxl, List.take_length]
    refine as_one (as_ret (ae_named N I hr (by decide) ((v_ 0).val ((av_sub (v_ 1) (av_len B.len (v_ 2) .t)).val ((v_ 3).val ⟨S, st - x.length, _, rfl, ?_, rfl, by omega, .ok hp⟩)))))
    rw [hxl, show ((st - x.length : Nat) : Int) = (st : Int) - (x.length : Int) by omega]
structure NLd (P : Program) (w : World) (K : PySem.W.Frag) (mg : Str → Option Value) (base : Heap) (C CN CS CB : Addr) : Prop where
  ex : ∃ p g, SMet K CN (.type "type") "led" p g ∧ FX P w K mg base 6 g fun ds _ => aLed C CS CB ds
def aAt (C CN CS CB : Addr) : ASp := fun ds M R => ∃ (S : Sc) (n : Int), ds = [.ptr CN, scV C S, .int n] ∧ GoodS S ∧ 1 ≤ n ∧ n < 2 ^ 2000 ∧ ∀ h b, OnS S n h b → h ≤ 2010 → R (ndV C CS CB S h b) M
theorem b_at (N : NdT K mg CN CS CB) (GS : GNsc P w K mg base C) (GI : GInn P w K mg base) (GP : GPth P w K mg base C) (LD : NLd P w K mg base C CN CS CB) : BodyOk P w K mg base 6 f n_Node_at "Node.at" (defScope c_Node_at) (defBody c_Node_at) (aAt C CN CS CB) := by
  rintro cdv A outer s0 H E hr ds M R ⟨S, n, rfl, hS, n1, n2, hp⟩
  obtain ⟨p, g, sm, F⟩ := LD.ex
  refine as_cons (as_expr (ae_g GS hr (by decide) (aa_cons ((v_ 1).val (aa_nil (ak_nil ⟨rfl, S, rfl, ?_⟩))))))
  refine as_cons (as_if (at_not (at_val (ae_g GI hr (by decide) (aa_cons ((v_ 2).val (aa_cons (i_.val (aa_nil (ak_nil ⟨rfl, n, 1, rfl, true, ?_, nft, fun _ => as_nil ?_⟩))))))))))
  · rw [decide_eq_true n1]
  refine as_cons (as_asg (ae_g GP hr (by decide) (aa_cons ((v_ 1).val (aa_cons ((v_ 2).val (aa_nil (ak_nil ⟨rfl, S, n, rfl, hS, n1, n2, fun st x r hst hx => ag_tup rfl (ags_cons (ag_name 3 q_Node_at.nd (ags_cons (ag_name 4 q_Node_at.nd (ags_cons (ag_name 5 q_Node_at.nd (ags_nil ?_)))))))⟩))))))))
  exact as_one (as_ret (ae_smeth N.nc.rd sm F (hr.mono (by decide)) (v_ 0) (aa_cons ((v_ 1).val (aa_cons ((v_ 3).val (aa_cons ((v_ 4).val (aa_nil (ak_nil ⟨rfl, S, st, x, rfl, hS, hx.len, by omega, .ok (hp _ _ hx.on (by omega))⟩))))))))))
def aLpa (C : Addr) : ASp := fun ds M R => ∃ (S : Sc) (n : Int), ds = [scV C S, .int n] ∧ GoodS S ∧ 1 ≤ n ∧ n < 2 ^ 2000 ∧ ∀ st x r, st ≤ 2010 → PathS S n st x r → R (paV st x r) M
theorem b_label_path (GS : GNsc P w K mg base C) (GI : GInn P w K mg base) (GP : GPth P w K mg base C) : BodyOk P w K mg base 5 f n_label_path "label_path" (defScope s_label_path) (defBody s_label_path) (aLpa C) := by
  rintro cdv A outer s0 H E hr ds M R ⟨S, n, rfl, hS, n1, n2, hp⟩
  refine as_cons (as_expr (ae_g GS hr (by decide) (aa_cons ((v_ 0).val (aa_nil (ak_nil ⟨rfl, S, rfl, ?_⟩))))))
  refine as_cons (as_if (at_not (at_val (ae_g GI hr (by decide) (aa_cons ((v_ 1).val (aa_cons (i_.val (aa_nil (ak_nil ⟨rfl, n, 1, rfl, true, ?_, nft, fun _ => as_nil ?_⟩))))))))))
  · rw [decide_eq_true n1]
  exact as_one (as_ret (ae_g GP hr (by decide) (aa_cons ((v_ 0).val (aa_cons ((v_ 1).val (aa_nil (ak_nil ⟨rfl, S, n, rfl, hS, n1, n2, fun st x r hst hx => .ok (hp st x r hst hx)⟩))))))))
abbrev GLpa (P : Program) (w : World) (K : PySem.W.Frag) (mg : Str → Option Value) (base : Heap) (C : Addr) : Prop := Gd P w K mg base 6 "label_path" [] fun ds _ => aLpa C ds
/-- the last label of a node and the nodes below it -/
def elS (S : Sc) (h m : Nat) : Int := if m = 0 then edS S h else ltS S h m + szS S h
def aPel (C CS CB : Addr) : ASp := fun ds M R => ∃ (S : Sc) (h m : Nat), ds = [ndV C CS CB S h m] ∧ GoodS S ∧ h ≤ 3000 ∧ m < 2 ^ 4000 ∧ R (.int (elS S h m)) M
theorem b_end_label (N : NdT K mg CN CS CB) (GZ : GSzu P w K mg base C) (GE : GEos P w K mg base C) (Q1 : NPr P w K mg base CS CB "first_label" 6 (aPfl C CS CB)) : BodyOk P w K mg base 7 f n_Node_end_label "Node.end_label" (defScope c_Node_end_label) (defBody c_Node_end_label) (aPel C CS CB) := by
  rintro cdv A outer s0 H E hr ds M R ⟨S, h, m, rfl, hS, h30, hm, hp⟩
  have hul := up_len (g := szS S) (n := h)
  refine as_cons (as_set 1 q_Node_end_label.nd (ae_g GZ hr (by decide) (aa_cons ((av_ndS N (v_ 0)).val (aa_cons ((av_ndH N (v_ 0)).val (aa_nil (ak_nil ⟨rfl, S, h, rfl, hS, by omega, ?_⟩))))))))
  refine as_cons (as_ifp (tp_cmp (av_ndI N (v_ 0)) i_ cp_eq) (fun hc => ?_) (fun hc => as_nil ?_))
  · have e : elS S h m = edS S h := if_pos (by omega)
    rw [e] at hp
    exact as_one (as_ret (ae_g GE hr (by decide) (aa_cons ((av_ndS N (v_ 0)).val (aa_cons ((v_ 1).val (aa_cons ((av_ndH N (v_ 0)).val (aa_nil (ak_nil ⟨rfl, S, h, h, rfl, hS, by omega, by omega, .ok hp⟩))))))))))
  · have e : elS S h m = ltS S h m + szS S h := if_neg (by omega)
    rw [e] at hp
    refine as_one (as_ret (ae_bin (ae_bin (ae_npr N Q1 hr (by decide) (v_ 0) ⟨S, h, m, rfl, hS, by omega, hm, (av_ixL (v_ 1) (av_ndH N (v_ 0)) (.self _) (atI_int (by omega) (by rw [hul]; omega))).val (bv_add (i_.val (bv_sub (.ok ?_))))⟩))))
    rw [up_at (by omega) (by omega), Int.toNat_natCast, show ltS S h m + 1 + szS S h - 1 = ltS S h m + szS S h by omega]
    exact hp
end
end K13
namespace K13
open PySem L2 Ab Sm
/-! ### the law's streams of draws: a dict -/
def stD (cs : List Int) (t y : Int) : Cell := .dk [(.inr "cells", .lst (cs.map .int)), (.inr "at", .int t), (.inr "left", .int y)]
theorem stD_inj {cs cs' : List Int} {t y t' y' : Int} (h : stD cs t y = stD cs' t' y') : t = t' := by
  unfold stD at h
  injection h with h
  injection h with h
  injection h with h1 h
  injection h with h2 h
  have := congrArg Prod.snd h2
  simpa using this
/-- the stream's cell stands at place i; its count is at most N -/
def SD (M : Mem) (i : Nat) (a : Addr) (N : Nat) : Prop := ∃ cs t y, M[i]? = some (a, stD cs t y) ∧ cs ≠ [] ∧ cs.length ≤ 1000 ∧ 0 ≤ t ∧ t ≤ (N : Int)
def Dq (i : Nat) (a : Addr) (c : Nat) (M M' : Mem) : Prop := ∃ cs t y cs' t' y', M[i]? = some (a, stD cs t y) ∧ M' = M.set i (a, stD cs' t' y') ∧ (cs ≠ [] → cs' ≠ []) ∧ (cs.length ≤ 1000 → cs'.length ≤ 1000) ∧ (0 ≤ t → 0 ≤ t') ∧ t' ≤ t + (c : Int)
theorem SD.dq {M M' : Mem} {i : Nat} {a : Addr} {N c : Nat} (h : SD M i a N) (d : Dq i a c M M') : SD M' i a (N + c) := by
  obtain ⟨cs, t, y, hm, hne, hl, h0, h1⟩ := h
  obtain ⟨cs1, t1, y1, cs2, t2, y2, hm1, rfl, f1, f2, g0, g1⟩ := d
  rw [hm] at hm1
  have e := (Prod.mk.inj (Option.some.inj hm1)).2
  have et := stD_inj e
  have ec : cs = cs1 := by
    unfold stD at e
    injection e with e
    injection e with e
    injection e with e1 e
    have e2 := congrArg Prod.snd e1
    have e3 : cs.map Val.int = cs1.map Val.int := by simpa using e2
    exact (List.map_inj_right (fun a b h => by injection h)).mp e3
  subst et ec
  exact ⟨cs2, t2, y2, List.getElem?_set_self (List.getElem?_eq_some_iff.mp hm).1, f1 hne, f2 hl, g0 h0, by omega⟩
theorem Dq.trans {M M' M'' : Mem} {i : Nat} {a : Addr} {c e : Nat} (d : Dq i a c M M') (d' : Dq i a e M' M'') : Dq i a (c + e) M M'' := by
  obtain ⟨cs1, t1, y1, cs2, t2, y2, hm1, rfl, f1, f2, g0, g1⟩ := d
  obtain ⟨cs3, t3, y3, cs4, t4, y4, hm3, rfl, f3, f4, g2, g3⟩ := d'
  rw [List.getElem?_set_self (List.getElem?_eq_some_iff.mp hm1).1] at hm3
  have e := (Prod.mk.inj (Option.some.inj hm3)).2
  have et := stD_inj e
  have ec : cs2 = cs3 := by
    unfold stD at e
    injection e with e
    injection e with e
    injection e with e1 e
    have e2 := congrArg Prod.snd e1
    have e3 : cs2.map Val.int = cs3.map Val.int := by simpa using e2
    exact (List.map_inj_right (fun a b h => by injection h)).mp e3
  subst et ec
  exact ⟨cs1, t1, y1, cs4, t4, y4, hm1, by rw [List.set_set], fun h => f3 (f1 h), fun h => f4 (f2 h), fun h => g2 (g0 h), by omega⟩
theorem Dq.mono {M M' : Mem} {i : Nat} {a : Addr} {c e : Nat} (d : Dq i a c M M') (h : c ≤ e) : Dq i a e M M' := by
  obtain ⟨cs1, t1, y1, cs2, t2, y2, hm1, e1, f1, f2, g0, g1⟩ := d
  exact ⟨cs1, t1, y1, cs2, t2, y2, hm1, e1, f1, f2, g0, by omega⟩
theorem SD.refl {M : Mem} {i : Nat} {a : Addr} {N : Nat} (h : SD M i a N) : Dq i a 0 M M := by
  obtain ⟨cs, t, y, h, _⟩ := h
  exact ⟨cs, t, y, cs, t, y, h, (set_id h).symm, fun h => h, fun h => h, fun h => h, by omega⟩
theorem SD.cons {M : Mem} {i : Nat} {a : Addr} {N : Nat} {c : Addr × Cell} (h : SD M i a N) : SD (c :: M) (i + 1) a N := h
theorem Dq.cons {M M' : Mem} {i : Nat} {a : Addr} {e : Nat} {c : Addr × Cell} (h : Dq (i + 1) a e (c :: M) M') : ∃ M'', M' = c :: M'' ∧ Dq i a e M M'' := by
  obtain ⟨x1, t1, y1, x2, t2, y2, hm1, rfl, g⟩ := h
  exact ⟨_, rfl, x1, t1, y1, x2, t2, y2, hm1, rfl, g⟩
section
variable {P : Program} {w : World} {K : PySem.W.Frag} {mg : Str → Option Value} {base : Heap} {k : Nat} {f C C2 : Addr}
/-! ### _law_next -/
def aNxt : ASp := fun ds M R => ∃ (a : Addr) (i N : Nat) (n : Int), ds = [.ptr a, .int n] ∧ SD M i a N ∧ N ≤ 1000000 ∧ 0 < n ∧ n.natAbs < 2 ^ 8000 ∧ ∀ v M', 0 ≤ v → v < n → Dq i a 1 M M' → R (.int v) M'
abbrev GNx (P : Program) (w : World) (K : PySem.W.Frag) (mg : Str → Option Value) (base : Heap) : Prop := Gd P w K mg base 1 "_law_next" [] fun ds _ => aNxt ds
theorem ae_next {X : Cx} {Γ : Gam} {M : Mem} {R : Val → Mem → Prop} {a b : Expr} {p1 pos : Pos} {n : Int} {p : Addr} {i m N : Nat} (D : GNx X.prog X.w X.K X.mg X.base) (hr : Rm m X.A) (hm : 1 ≤ m) (ha : aV X a Γ M (.ptr p)) (hb : aV X b Γ M (.int n)) (hs : SD M i p N) (hN : N ≤ 1000000) (h0 : 0 < n) (h1 : n.natAbs < 2 ^ 8000)
    (h : ∀ v M', 0 ≤ v → v < n → Dq i p 1 M M' → R (.int v) M') (hg : Gl X "_law_next" := by rfl)
    (he : starEach [a, b] X.env = [(false, eval a X.env), (false, eval b X.env)] := by rfl) (he2 : starEach [b] X.env = [(false, eval b X.env)] := by rfl) : aE X (.Call (.Name "_law_next" p1) [a, b] [] pos) Γ M R :=
  ae_g D hr hm (aa_cons (ha.val (aa_cons (hb.val (aa_nil (ak_nil ⟨rfl, p, i, N, n, rfl, hs, hN, h0, h1, h⟩))) (by rw [he2]; rfl))) (by rw [he, he2])) hg rfl rfl (he := by rw [he, he2]) (hpl := by rw [he]; rfl)
/-! ### _law_raised -/
/-! ### _law_huge -/
end
end K13
namespace K13
open PySem L2 Ab Sm
/-- a short stream -/
structure Sq3 (lo : Int) (s : Stm) : Prop where
  sq : Seq lo s
  a1 : ∀ v ∈ s.1, v ≤ 3
  a2 : ∀ v ∈ s.2, v ≤ 3
  l3 : s.1.length ≤ 3
theorem Sq3.it {lo : Int} {s : Stm} (h : Sq3 lo s) (i : Nat) : item s i ≤ 3 := by
  rcases item_mem h.sq.ne i with z | z
  · exact h.a1 _ z
  · exact h.a2 _ z
theorem sq3_bs {a : Int} {s l : Stm} (a2 : 2 ≤ a) (a9 : a ≤ 9) (hs : Sq3 0 s) (hl : Sq3 1 l) : Bs 3 ⟨a, nf s, nf l⟩ := by
  have h := seq_bs a2 a9 hs.sq hl.sq
  exact ⟨h.g, h.p1, h.p2, fun i => by show item (nf s) i ≤ 3; rw [(nf_spec hs.sq.ne).it]; exact hs.it i, fun i => by show item (nf l) i ≤ 3; rw [(nf_spec hl.sq.ne).it]; exact hl.it i⟩
section
variable {P : Program} {w : World} {K : PySem.W.Frag} {mg : Str → Option Value} {base : Heap} {k : Nat} {f C C2 : Addr}
/-! ### _law_random_stream -/
def aRst : ASp := fun ds M R => ∃ (p : Addr) (i N : Nat) (lo : Int), ds = [.ptr p, .int lo] ∧ SD M i p N ∧ N ≤ 900000 ∧ 0 ≤ lo ∧ lo ≤ 1 ∧ ∀ s M', Sq3 lo s → Dq i p 9 M M' → R (stV s) M'
theorem max_sm3 {lo v : Int} (h0 : 0 ≤ lo) (h1 : lo ≤ 1) (v0 : 0 ≤ v) (v3 : v ≤ 3) : (sm (max v lo) ∧ max v lo ≤ 3) ∧ lo ≤ max v lo := by
  unfold sm
  omega
/-! ### _law_streams -/
/-- the streams' cells -/
def Sts (M : Mem) (ps : List Addr) (N : Nat) : Prop := ∀ (j : Nat) (p : Addr), ps[j]? = some p → SD M j p N
def aSts : ASp := fun ds M R => ∃ ns : List Int, ds = [.lst (ns.map .int)] ∧ ns.length ≤ 63 ∧ ∀ (ps : List Addr) (Ds : Mem), ps ≠ [] → ps.length ≤ 6 → Ds.length = ps.length → Sts Ds ps 600 → R (.lst (ps.map .ptr)) (Ds ++ M)
abbrev GSts (P : Program) (w : World) (K : PySem.W.Frag) (mg : Str → Option Value) (base : Heap) : Prop := Gd P w K mg base 1 "_law_streams" [] fun ds _ => aSts ds
end
end K13
namespace K13
open PySem L2 Ab Sm
/-! ### the draws of stage 4: a dict in a box -/
def d4 (x y t : Int) : List (Key × Val) := [(.inr "left", .int x), (.inr "folded", .int y), (.inr "step", .int t)]
section
variable {P : Program} {w : World} {K : PySem.W.Frag} {mg : Str → Option Value} {base : Heap} {k : Nat} {f C C2 : Addr}
def sm4 (v : Int) : Prop := 0 ≤ v ∧ v ≤ 29
/-- a small stream of draws -/
structure Sg4 (s : Stm) : Prop where
  l1 : s.1.length ≤ 4
  l2 : s.2.length ≤ 3
  ne : s.2 ≠ []
  a1 : ∀ v ∈ s.1, sm4 v
  a2 : ∀ v ∈ s.2, sm4 v
theorem Sg4.lim {s : Stm} (h : Sg4 s) : Lim s := ⟨by have := h.l1; omega, by have := h.l2; omega, h.ne, fun v hv => ⟨(h.a1 v hv).1, by have := (h.a1 v hv).2; omega⟩, fun v hv => ⟨(h.a2 v hv).1, by have := (h.a2 v hv).2; omega⟩⟩
theorem Sg4.item {s : Stm} (h : Sg4 s) (i : Nat) : sm4 (item s i) := by
  rcases item_mem h.ne i with z | z
  · exact h.a1 _ z
  · exact h.a2 _ z
/-! ### _law_item -/
theorem b__law_item (B : Bt mg) : BodyOk P w K mg base k f n__law_item "_law_item" (defScope s__law_item) (defBody s__law_item) aItem := by
  rintro cdv A outer s0 H E hr ds M R ⟨s, i, rfl, hn, h0, hp⟩
  have hl : 0 < s.2.length := List.length_pos_iff.mpr hn
  refine as_cons (as_asg (aE.val (v_ 0) (ag_tup rfl (ags_cons (ag_name 2 q__law_item.nd (ags_cons (ag_name 3 q__law_item.nd (ags_nil ?_))))))))
  have m0 := Int.emod_nonneg (i - s.1.length) (show (s.2.length : Int) ≠ 0 by omega)
  have m1 := Int.emod_lt_of_pos (i - s.1.length) (show (0 : Int) < s.2.length by omega)
  refine as_one (as_ret (ae_ifp (tp_cmp (v_ 1) (av_lenN B.len (v_ 2) (by first | exact .iT _ | exact .iL _ | exact .mT _ _ | exact .mL _ _ | exact .cm 0 rfl | exact .cm 1 rfl | exact .cm 2 rfl | exact .c 0 rfl | exact .c 1 rfl | exact .t _ | exact .l _ | exact .cm _ (by assumption))) cp_lt) (fun c => aE.val (av_ix (v_ 2) (v_ 1) (by first | exact .iT (by omega) (by omega) | exact .iL (by omega) (by omega) | exact .ci 0 rfl (by omega) (by omega) | exact .ci 1 rfl (by omega) (by omega) | exact .t rfl | exact .l rfl | exact .c 0 rfl rfl | exact .c 1 rfl rfl | assumption | exact .ci _ (by assumption) (by omega) (by omega))) (.ok ?_)) (fun c => aE.val (av_ix (v_ 3) (av_mod (av_sub (v_ 1) (av_lenN B.len (v_ 2) (by first | exact .iT _ | exact .iL _ | exact .mT _ _ | exact .mL _ _ | exact .cm 0 rfl | exact .cm 1 rfl | exact .cm 2 rfl | exact .c 0 rfl | exact .c 1 rfl | exact .t _ | exact .l _ | exact .cm _ (by assumption)))) (av_lenN B.len (v_ 3) (by first | exact .iT _ | exact .iL _ | exact .mT _ _ | exact .mL _ _ | exact .cm 0 rfl | exact .cm 1 rfl | exact .cm 2 rfl | exact .c 0 rfl | exact .c 1 rfl | exact .t _ | exact .l _ | exact .cm _ (by assumption))) (by first | omega | assumption)) (by first | exact .iT (by omega) (by omega) | exact .iL (by omega) (by omega) | exact .ci 0 rfl (by omega) (by omega) | exact .ci 1 rfl (by omega) (by omega) | exact .t rfl | exact .l rfl | exact .c 0 rfl rfl | exact .c 1 rfl rfl | assumption | exact .ci _ (by assumption) (by omega) (by omega))) (.ok ?_))))
  · have e : item s i.toNat = at0 s.1 i := by rw [item_lt (by omega)]; rfl
    rw [← e]
    exact hp
  · rw [← item_lp hn h0 c]
    exact hp
abbrev GItL (P : Program) (w : World) (K : PySem.W.Frag) (mg : Str → Option Value) (base : Heap) : Prop := Gd P w K mg base 1 "_law_item" [] fun ds _ => aItem ds
end
end K13
namespace K13
open PySem L2 Ab Sm
/-! ### the streams of draws in boxes -/
def st3 (p : Addr) (N : Nat) : Cell := .box fun B => ∃ (cs : List Int) (t y : Int), B = [(p, .dk [(.inr "cells", .lst (cs.map .int)), (.inr "at", .int t), (.inr "left", .int y)])] ∧ cs ≠ [] ∧ cs.length ≤ 1000 ∧ 0 ≤ t ∧ t ≤ (N : Int)
theorem sd_open {p : Addr} {N : Nat} {B : Mem0} {M : Mem} (h : ∃ (cs : List Int) (t y : Int), B = [(p, .dk [(.inr "cells", .lst (cs.map .int)), (.inr "at", .int t), (.inr "left", .int y)])] ∧ cs ≠ [] ∧ cs.length ≤ 1000 ∧ 0 ≤ t ∧ t ≤ (N : Int)) : SD (bs B ++ M) 0 p N := by
  obtain ⟨cs, t, y, rfl, h1, h2, h3, h4⟩ := h
  exact ⟨cs, t, y, rfl, h1, h2, h3, h4⟩
theorem sd_close {p : Addr} {N : Nat} {M : Mem} (h : SD M 0 p N) : ∃ B M2, M = bs B ++ M2 ∧ p ∈ B.map (·.1) ∧ ∃ (cs : List Int) (t y : Int), B = [(p, .dk [(.inr "cells", .lst (cs.map .int)), (.inr "at", .int t), (.inr "left", .int y)])] ∧ cs ≠ [] ∧ cs.length ≤ 1000 ∧ 0 ≤ t ∧ t ≤ (N : Int) := by
  obtain ⟨cs, t, y, h1, h2, h3, h4, h5⟩ := h
  cases M with
  | nil => cases h1
  | cons x M =>
    cases h1
    exact ⟨_, M, rfl, List.mem_cons_self, cs, t, y, rfl, h2, h3, h4, h5⟩
theorem sd_tail {p : Addr} {N c : Nat} {B : Mem0} {E M' : Mem} (h : ∃ (cs : List Int) (t y : Int), B = [(p, .dk [(.inr "cells", .lst (cs.map .int)), (.inr "at", .int t), (.inr "left", .int y)])] ∧ cs ≠ [] ∧ cs.length ≤ 1000 ∧ 0 ≤ t ∧ t ≤ (N : Int)) (d : Dq 0 p c (bs B ++ E) M') :
    ∃ B', M' = bs B' ++ E ∧ (∃ (cs : List Int) (t y : Int), B' = [(p, .dk [(.inr "cells", .lst (cs.map .int)), (.inr "at", .int t), (.inr "left", .int y)])] ∧ cs ≠ [] ∧ cs.length ≤ 1000 ∧ 0 ≤ t ∧ t ≤ ((N + c : Nat) : Int)) ∧ p ∈ B'.map (·.1) := by
  have hs := (sd_open (M := E) h).dq d
  obtain ⟨cs0, t0, y0, rfl, _⟩ := h
  obtain ⟨cs1, t1, y1, cs2, t2, y2, hm, rfl, _⟩ := d
  obtain ⟨cs, t, y, h1, h2, h3, h4, h5⟩ := hs
  have e : (p, stD cs2 t2 y2) = (p, stD cs t y) := Option.some.inj h1
  have e2 : stD cs2 t2 y2 = stD cs t y := (Prod.mk.inj e).2
  refine ⟨[(p, .dk [(.inr "cells", .lst (cs.map .int)), (.inr "at", .int t), (.inr "left", .int y)])], ?_, ⟨cs, t, y, rfl, h2, h3, h4, h5⟩, List.mem_cons_self⟩
  show (p, stD cs2 t2 y2) :: E = (p, stD cs t y) :: E
  rw [e2]
section
variable {P : Program} {w : World} {K : PySem.W.Frag} {mg : Str → Option Value} {base : Heap} {k : Nat} {f C C2 : Addr}
/-- a promise over a stream, told over its box -/
theorem gd_box3 {n : Nat} {x : Str} {s s' : ASp} (G : Gd P w K mg base n x [] fun ds _ => s ds)
    (h : ∀ ds M R, s' ds M R → ∃ (i : Nat) (p : Addr) (N : Nat), M[i]? = some (p, st3 p N) ∧ ∀ M1, SD M1 0 p N → s ds M1 fun d M' => ∃ c, Dq 0 p c M1 M' ∧ R d (M.set i (p, st3 p (N + c)))) : Gd P w K mg base n x [] fun ds _ => s' ds := by
  obtain ⟨f, F, hm, hk⟩ := G.ex
  refine ⟨f, F.weak fun vs zs H Q ⟨Hi, M, ds, es, R, r1, r2, ok, hs, q⟩ => ?_, hm, hk⟩
  obtain ⟨i, p, N, hi, hr⟩ := h ds M R hs
  obtain ⟨B, h1, h2, ok'⟩ := ok.opn hi
  refine ⟨Hi, bs B ++ M.eraseIdx i, ds, es, _, r1, r2, ok', hr _ (sd_open h1), fun d M' v Hi' H' hd s' ok2 r => ?_⟩
  obtain ⟨c, hdq, hR⟩ := hd
  obtain ⟨B', rfl, h3, h4⟩ := sd_tail h1 hdq
  exact q d _ v Hi' H' hR s' (ok2.clsAt hi h3 h4) r
def aNx3 : ASp := fun ds M R => ∃ (p : Addr) (i N : Nat) (n : Int), ds = [.ptr p, .int n] ∧ M[i]? = some (p, st3 p N) ∧ N ≤ 1000000 ∧ 0 < n ∧ n ≤ 1000000000 ∧ ∀ v, 0 ≤ v → v < n → R (.int v) (M.set i (p, st3 p (N + 1)))
def aRs3 : ASp := fun ds M R => ∃ (p : Addr) (i N : Nat) (lo : Int), ds = [.ptr p, .int lo] ∧ M[i]? = some (p, st3 p N) ∧ N ≤ 900000 ∧ 0 ≤ lo ∧ lo ≤ 1 ∧ ∀ s, Sq3 lo s → R (stV s) (M.set i (p, st3 p (N + 9)))
abbrev GNx3 (P : Program) (w : World) (K : PySem.W.Frag) (mg : Str → Option Value) (base : Heap) : Prop := Gd P w K mg base 1 "_law_next" [] fun ds _ => aNx3 ds
theorem big8 {n : Int} (h0 : 0 < n) (h1 : n ≤ 1000000000) : n.natAbs < 2 ^ 8000 := by
  have : n.natAbs < 2 ^ 30 := by omega
  exact Nat.lt_of_lt_of_le this (Nat.pow_le_pow_right (by decide) (by decide))
theorem nx3 (G : GNx P w K mg base) : GNx3 P w K mg base := gd_box3 G fun ds M R ⟨p, i, N, n, e, hi, hN, h0, h1, hp⟩ => ⟨i, p, N, hi, fun M1 hs => ⟨p, 0, N, n, e, hs, hN, h0, big8 h0 h1, fun v M' v0 v1 d => ⟨1, d, hp v v0 v1⟩⟩⟩
/-- streams with their counts, in front of others -/
def qM (q : List (Addr × Nat)) (M : Mem) : Mem := q.map (fun x => (x.1, st3 x.1 x.2)) ++ M
theorem ok_sts {K : PySem.W.Frag} {Hi H : Hp} {M : Mem} {N : Nat} : ∀ {ps : List Addr} {Ds A : Mem}, Sts Ds ps N → Ds.length = ps.length → Ok K Hi (A ++ (Ds ++ M)) H → Ok K Hi (A ++ qM (ps.map fun p => (p, N)) M) H
  | [], Ds, A, _, hl, ok => by
    have : Ds = [] := List.length_eq_zero_iff.mp hl
    subst this
    exact ok
  | p :: ps, Ds, A, hs, hl, ok => by
    cases Ds with
    | nil => cases hl
    | cons x Ds =>
      have hx : SD [x] 0 p N := by
        obtain ⟨cs, t, y, h1, h2⟩ := hs 0 p rfl
        exact ⟨cs, t, y, h1, h2⟩
      obtain ⟨B, M2, e, hp, hB⟩ := sd_close hx
      obtain ⟨cs, t, y, rfl, h2⟩ := hB
      have ex : x = (p, .b (.dk [(.inr "cells", .lst (cs.map .int)), (.inr "at", .int t), (.inr "left", .int y)])) := (List.cons.inj e).1
      subst ex
      have ok1 := ok.perm (M' := bs [(p, Cell0.dk [(.inr "cells", .lst (cs.map .int)), (.inr "at", .int t), (.inr "left", .int y)])] ++ (A ++ (Ds ++ M))) (List.perm_middle (l₁ := A)).symm
      have ok2 := ok1.cls (φ := fun B => ∃ (cs : List Int) (t y : Int), B = [(p, Cell0.dk [(.inr "cells", .lst (cs.map .int)), (.inr "at", .int t), (.inr "left", .int y)])] ∧ cs ≠ [] ∧ cs.length ≤ 1000 ∧ 0 ≤ t ∧ t ≤ (N : Int)) ⟨cs, t, y, rfl, h2⟩ hp
      have pm : ((A ++ [(p, st3 p N)]) ++ (Ds ++ M)).Perm ((p, st3 p N) :: (A ++ (Ds ++ M))) := by
        rw [List.append_assoc]
        exact List.perm_middle
      have ok3 : Ok K Hi ((A ++ [(p, st3 p N)]) ++ (Ds ++ M)) H := ok2.perm pm
      have ok4 := ok_sts (ps := ps) (A := A ++ [(p, st3 p N)]) (fun j p' hj => hs (j + 1) p' hj) (Nat.succ.inj hl) ok3
      rw [List.append_assoc] at ok4
      exact ok4
def aSt3 : ASp := fun ds M R => ∃ ns : List Int, ds = [.lst (ns.map .int)] ∧ ns.length ≤ 63 ∧ ∀ ps : List Addr, ps ≠ [] → ps.length ≤ 6 → R (.lst (ps.map .ptr)) (qM (ps.map fun p => (p, 600)) M)
abbrev GSt3 (P : Program) (w : World) (K : PySem.W.Frag) (mg : Str → Option Value) (base : Heap) : Prop := Gd P w K mg base 1 "_law_streams" [] fun ds _ => aSt3 ds
theorem gst3 (G : GSts P w K mg base) : GSt3 P w K mg base := by
  obtain ⟨f, F, hm, hk⟩ := G.ex
  refine ⟨f, F.weak fun vs zs H Q ⟨Hi, M, ds, es, R, r1, r2, ok, ⟨ns, e, hl, hp⟩, q⟩ => ?_, hm, hk⟩
  refine ⟨Hi, M, ds, es, fun d M' => ∃ (ps : List Addr) (Ds : Mem), d = .lst (ps.map .ptr) ∧ M' = Ds ++ M ∧ ps ≠ [] ∧ ps.length ≤ 6 ∧ Ds.length = ps.length ∧ Sts Ds ps 600, r1, r2, ok, ⟨ns, e, hl, fun ps Ds h1 h2 h3 h4 => ⟨ps, Ds, rfl, rfl, h1, h2, h3, h4⟩⟩, fun d M' v Hi' H' hd s' ok2 r => ?_⟩
  obtain ⟨ps, Ds, rfl, rfl, h1, h2, h3, h4⟩ := hd
  exact q _ _ v Hi' H' (hp ps h1 h2) s' (ok_sts (A := []) h4 h3 ok2) r
/-- a stream is brought to the front -/
theorem q_front {q : List (Addr × Nat)} {M : Mem} {i : Nat} {x : Addr × Nat} (h : q[i]? = some x) : ((x.1, st3 x.1 x.2) :: qM (q.eraseIdx i) M).Perm (qM q M) := by
  have h1 := perm_at h
  have h2 := (h1.map (fun x : Addr × Nat => ((x.1, st3 x.1 x.2) : Addr × Cell))).append_right M
  exact h2.symm
end
end K13
namespace K13
open PySem L2 Ab Sm
section
variable {P : Program} {w : World} {K : PySem.W.Frag} {mg : Str → Option Value} {base : Heap} {k : Nat} {f C C2 : Addr}
/-! ### the draws of stage 2 -/
theorem b__law_next (B : Bt mg) : BodyOk P w K mg base k f n__law_next "_law_next" (defScope s__law_next) (defBody s__law_next) aNxt := by
  rintro cdv A outer s0 H E hr ds M R ⟨a, i, N, n, rfl, ⟨cs, t, y, hm, hne, hl, ht0, htN⟩, hN, hn, hn2, hp⟩
  have hil := (List.getElem?_eq_some_iff.mp hm).1
  have hlen : 0 < cs.length := List.length_pos_iff.mpr hne
  refine as_cons (as_dput hr.u1 (v_ 0) s_ (av_add (av_dget hr.u1 (v_ 0) s_ hm (d := .int t) rfl) i_) hm (szl (Nat.le_of_ble_eq_true rfl)) ?_)
  have hm2 : (M.set i (a, stD cs (t + 1) y))[i]? = some (a, .dk [(.inr "cells", .lst (cs.map .int)), (.inr "at", .int (t + 1)), (.inr "left", .int y)]) := List.getElem?_set_self hil
  show aSs _ _ _ (M.set i (a, stD cs (t + 1) y)) _
  refine as_cons (as_ifp (tp_cmp (av_dget hr.u1 (v_ 0) s_ hm2 (d := .int y) rfl) i_ cp_gt) (fun hx => ?_) (fun hx => as_nil ?_))
  · refine as_cons (as_setv 2 q__law_next.nd (av_mod (av_dget hr.u1 (v_ 0) s_ hm2 (d := .int y) rfl) (v_ 1) hn) ?_)
    refine as_cons (as_dput hr.u1 (v_ 0) s_ (av_fdivU (av_dget hr.u1 (v_ 0) s_ hm2 (d := .int y) rfl) (v_ 1) (cdw hn hn2)) hm2 (szl (Nat.le_of_ble_eq_true rfl)) ?_)
    rw [List.set_set]
    refine as_one (as_retv (v_ 2) (.ok ?_))
    exact hp _ _ (Int.emod_nonneg _ (by omega)) (Int.emod_lt_of_pos _ hn) ⟨cs, t, y, cs, t + 1, y / n, hm, rfl, fun h => h, fun h => h, fun _ => by omega, by omega⟩
  · refine as_cons (as_par 3 4 q__law_next.nd rfl (by decide) (aA.val (avs_cons (av_dget hr.u1 (v_ 0) s_ hm2 (d := .int (t + 1)) rfl) (avs_cons (av_dget hr.u1 (v_ 0) s_ hm2 (d := .lst (cs.map .int)) rfl) avs_nil)) ⟨_, _, rfl, ?_⟩))
    have j0 : 0 ≤ (t + 1) % (cs.length : Int) := Int.emod_nonneg _ (by omega)
    have j1 : (t + 1) % (cs.length : Int) < (cs.length : Int) := Int.emod_lt_of_pos _ (by omega)
    have o1 : (7901 : Int) * (t + 1) * (t + 1) ≤ 7901 * 1000001 * 1000001 := by
      have h1 : (7901 : Int) * (t + 1) ≤ 7901 * 1000001 := by omega
      exact Int.mul_le_mul h1 (by omega) (by omega) (by decide)
    have o0 : 0 ≤ (7901 : Int) * (t + 1) * (t + 1) := Int.mul_nonneg (by omega) (by omega)
    refine as_cons (as_setv 2 q__law_next.nd (av_add (av_add (av_add (av_mod (av_ix (v_ 4) (av_mod (v_ 3) (av_lenN B.len (v_ 4) (by first | exact .iT _ | exact .iL _ | exact .mT _ _ | exact .mL _ _ | exact .cm 0 rfl | exact .cm 1 rfl | exact .cm 2 rfl | exact .c 0 rfl | exact .c 1 rfl | exact .t _ | exact .l _ | exact .cm _ (by assumption))) (by first | omega | assumption)) (by first | exact .iT (by omega) (by omega) | exact .iL (by omega) (by omega) | exact .ci 0 rfl (by omega) (by omega) | exact .ci 1 rfl (by omega) (by omega) | exact .t rfl | exact .l rfl | exact .c 0 rfl rfl | exact .c 1 rfl rfl | assumption | exact .ci _ (by assumption) (by omega) (by omega))) i_ (by first | omega | assumption)) (av_mulU (av_mulU i_ (v_ 3) (by first | exact .inl (.inl ⟨by omega, by omega⟩) | exact .inl (.inr ⟨by omega, by omega⟩) | assumption)) (v_ 3) (by first | exact .inl (.inl ⟨by omega, by omega⟩) | exact .inl (.inr ⟨by omega, by omega⟩) | assumption))) (av_mulU i_ (v_ 3) (by first | exact .inl (.inl ⟨by omega, by omega⟩) | exact .inl (.inr ⟨by omega, by omega⟩) | assumption))) i_) ?_)
    generalize at0 cs ((t + 1) % (cs.length : Int)) = z
    have z0 := Int.emod_nonneg z (show (2147483629 : Int) ≠ 0 by decide)
    have z1 := Int.emod_lt_of_pos z (show (0 : Int) < 2147483629 by decide)
    have hpw : CPow (z % 2147483629 + (7901 : Int) * (t + 1) * (t + 1) + 104711 * (t + 1) + 13) 5 := ⟨by decide, by decide, by omega⟩
    refine as_one (as_retv (av_mod (av_fdivU (av_mod (av_mulU (av_mod (av_pow (v_ 2) i_ (by first | exact ⟨by omega, by omega, by decide⟩ | assumption)) i_ (by first | omega | assumption)) i_ (by first | exact .inl (.inl ⟨by omega, by omega⟩) | exact .inl (.inr ⟨by omega, by omega⟩) | assumption)) i_ (by first | omega | assumption)) i_ (by first | exact .inl ⟨by omega, by omega⟩ | assumption)) (v_ 1) (by first | omega | assumption)) ?_)
    exact .ok (hp _ _ (Int.emod_nonneg _ (by omega)) (Int.emod_lt_of_pos _ hn) ⟨cs, t, y, cs, t + 1, y, hm, rfl, fun h => h, fun h => h, fun _ => by omega, by omega⟩)
/-! ### _law_row -/
theorem b__law_row (B : Bt mg) (D : GNx P w K mg base) : BodyOk P w K mg base 1 f n__law_row "_law_row" (defScope s__law_row) (defBody s__law_row) aRst := by
  rintro cdv A outer s0 H E hr ds M R ⟨p, i, N, lo, rfl, hs, hN, h0, h1, hp⟩
  have hu := hr.u64
  refine as_cons (as_set 2 q__law_row.nd (ae_bin (i_.val (ae_next D hr (by decide) (v_ 0) i_ hs (by omega) (by decide) (by decide) fun wd M1 w0 w1 d1 => bv_add ?_))))
  have hs1 := hs.dq d1
  have hw2 : (1 + wd).natAbs < 2 ^ 8000 := Nat.lt_of_lt_of_le (show (1 + wd).natAbs < 2 ^ 3 by omega) (Nat.pow_le_pow_right (by decide) (by decide))
  refine as_cons (as_lcJ 3 [("_law_k", 4)] rfl q__law_row.nd (blkOk_by (N := n__law_row) (sc := defScope s__law_row) (by decide +kernel)) (aj_range1 B.range (ae_next D hr (by decide) (v_ 0) i_ hs1 (by omega) (by decide) (by decide) fun c M2 c0 c1 d2 => ⟨_, rfl, by omega, by omega, ?_⟩)))
  have hs2 := hs1.dq d2
  refine ⟨by omega, fun t acc M' => ∃ xs : List Int, acc = xs.map .int ∧ xs.length = t ∧ (∀ v ∈ xs, 0 ≤ v ∧ v ≤ 3) ∧ Dq i p t M2 M', ⟨[], rfl, rfl, (fun _ h => nomatch h), hs2.refl⟩, ?_, ?_⟩
  · rintro t acc M' D' ht hl ⟨xs, rfl, hxl, hx, dt⟩ s H C' cl fp
    have hst := hs2.dq dt
    refine agw_name 4 q__law_row.nd fun s H C' cl fp => ats_nil ⟨fun _ s H C' cl fp => ?_, ntf⟩
    refine ae_next D hr (by decide) (v_ 0) (v_ 2) hst.cons (by omega) (by omega) hw2 fun v M3 v0 v1 d3 => ?_
    obtain ⟨M4, rfl, d4⟩ := d3.cons
    refine ⟨M4, rfl, xs ++ [v], by rw [List.map_append]; rfl, by rw [List.length_append, hxl]; rfl, fun u hu => ?_, dt.trans d4⟩
    rcases List.mem_append.mp hu with z | z
    · exact hx u z
    · rw [List.mem_singleton.mp z]
      omega
  rintro q acc M3 ⟨xs, rfl, hxl, hx, d3⟩
  have hs3 := hs2.dq d3
  refine as_cons (as_lcJ 5 [("_law_k", 4)] rfl q__law_row.nd (blkOk_by (N := n__law_row) (sc := defScope s__law_row) (by decide +kernel)) (aj_range1 B.range (ae_bin (i_.val (ae_next D hr (by decide) (v_ 0) i_ hs3.cons (by omega) (by decide) (by decide) fun e M4 e0 e1 d4 => bv_add ⟨_, rfl, by omega, by omega, ?_⟩)))))
  obtain ⟨M5, rfl, d5⟩ := d4.cons
  have hs5 := hs3.dq d5
  refine ⟨by omega, fun t acc M' => ∃ (ys : List Int) (M6 : Mem), acc = ys.map .int ∧ M' = (q, .lst (xs.map .int)) :: M6 ∧ ys.length = t ∧ (∀ v ∈ ys, 0 ≤ v ∧ v ≤ 3) ∧ Dq i p t M5 M6, ⟨[], M5, rfl, rfl, rfl, (fun _ h => nomatch h), hs5.refl⟩, ?_, ?_⟩
  · rintro t acc M' D' ht hl ⟨ys, M6, rfl, rfl, hyl, hy, dt⟩ s H C' cl fp
    have hst := hs5.dq dt
    refine agw_name 4 q__law_row.nd fun s H C' cl fp => ats_nil ⟨fun _ s H C' cl fp => ?_, ntf⟩
    refine ae_next D hr (by decide) (v_ 0) (v_ 2) hst.cons.cons (by omega) (by omega) hw2 fun v M7 v0 v1 d7 => ?_
    obtain ⟨M8, rfl, d8⟩ := d7.cons
    obtain ⟨M9, rfl, d9⟩ := d8.cons
    refine ⟨_, rfl, ys ++ [v], M9, by rw [List.map_append]; rfl, rfl, by rw [List.length_append, hyl]; rfl, fun u hu => ?_, dt.trans d9⟩
    rcases List.mem_append.mp hu with z | z
    · exact hy u z
    · rw [List.mem_singleton.mp z]
      omega
  rintro q2 acc M' ⟨ys, M6, rfl, rfl, hyl, hy, d6⟩
  have dd : Dq i p 9 M M6 := (((((d1.trans d2).trans d3).trans d5).trans d6)).mono (by omega)
  have y13 : 1 ≤ ys.length ∧ ys.length ≤ 3 := by omega
  have y6 : ys.length ∣ 6 := by
    rcases (show ys.length = 1 ∨ ys.length = 2 ∨ ys.length = 3 by omega) with e | e | e <;> rw [e] <;> decide
  have fin : ∀ (s : Stm), Sq3 lo s → aSs (bcx P w K mg base n__law_row "_law_row" (defScope s__law_row) f cdv A outer s0 H E) [(defBody s__law_row).getD 4 (.Pass ⟨0, 0, 0, 0⟩)] [some (.ptr p), some (.int lo), none, some (.ptr q), none, some (.ptr q2)] ((q2, .lst (s.2.map .int)) :: (q, .lst (s.1.map .int)) :: M6) (kOf R) := fun s hq => by
    exact as_one (as_ret (aE.val (av_tup (avs_cons (av_tuple B.tuple (v_ 3) (.l (.lst 1 rfl))) (avs_cons (av_tuple B.tuple (v_ 5) (.l (.lst 0 rfl))) avs_nil)) szb) (.drop (.drop (.ok (hp s M6 hq dd))))))
  have yne : ys ≠ [] := fun z' => by
    rw [z'] at y13
    simp at y13
  have sy : ∀ v ∈ ys, sm v := fun v hv => by have := hy v hv; unfold sm; omega
  have sx : ∀ v ∈ xs, sm v := fun v hv => by have := hx v hv; unfold sm; omega
  refine as_cons (as_ifp (tp_cmp (v_ 3) (av_lst avs_nil szb) (cp_neL0 (by first | exact .self _ | exact .lst 0 rfl | exact .lst 1 rfl | exact .lst 2 rfl | exact .lst 3 rfl) hr.u64)) (fun cnd => ?_) (fun cnd => ?_))
  · have hx1 : 0 < xs.length := List.length_pos_iff.mpr cnd
    refine as_one (as_asg (aE.val (av_max2 B.max rfl (av_ix (v_ 3) i_ (by first | exact .iT (by omega) (by omega) | exact .iL (by omega) (by omega) | exact .ci 0 rfl (by omega) (by omega) | exact .ci 1 rfl (by omega) (by omega) | exact .t rfl | exact .l rfl | exact .c 0 rfl rfl | exact .c 1 rfl rfl | assumption | exact .ci _ (by assumption) (by omega) (by omega))) (v_ 1)) (ag_sub (n := 1) (jj := 0) (v_ 3) i_ rfl ?_ ?_)))
    · rw [List.length_map]
      unfold ixN
      rw [if_pos (by decide), if_pos (by omega)]
      rfl
    · show aSs _ _ _ ((q2, .lst (ys.map Val.int)) :: (q, .lst ((xs.map Val.int).set 0 _)) :: M6) _
      rw [map_set0]
      have hm0 : at0 xs 0 ∈ xs := by show xs.getD 0 0 ∈ xs; rw [gd_eq hx1]; exact List.getElem_mem _
      have hm := max_sm3 h0 h1 (hx _ hm0).1 (hx _ hm0).2
      refine as_le (by repeat' first | exact le_nil | refine le_skip ?_ | refine le_keep rfl ?_) (fin (xs.set 0 _, ys) ⟨⟨by rw [List.length_set]; omega, y6, yne, fun v hv => ?_, sy, ?_⟩, fun v hv => ?_, fun v hv => (hy v hv).2, by rw [List.length_set]; omega⟩)
      · rcases set0_mem hv with rfl | hv
        · exact hm.1.1
        · exact sx v hv
      · rw [item_lt (by rw [List.length_set]; exact hx1), gd_eq (by rw [List.length_set]; exact hx1), List.getElem_set_self]
        exact hm.2
      · rcases set0_mem hv with rfl | hv
        · exact hm.1.2
        · exact (hx v hv).2
  · have hx0 : xs = [] := by simpa using cnd
    subst hx0
    have hy1 : 0 < ys.length := by omega
    refine as_one (as_asg (aE.val (av_max2 B.max rfl (av_ix (v_ 5) i_ (by first | exact .iT (by omega) (by omega) | exact .iL (by omega) (by omega) | exact .ci 0 rfl (by omega) (by omega) | exact .ci 1 rfl (by omega) (by omega) | exact .t rfl | exact .l rfl | exact .c 0 rfl rfl | exact .c 1 rfl rfl | assumption | exact .ci _ (by assumption) (by omega) (by omega))) (v_ 1)) (ag_sub (n := 0) (jj := 0) (v_ 5) i_ rfl ?_ ?_)))
    · rw [List.length_map]
      unfold ixN
      rw [if_pos (by decide), if_pos (by omega)]
      rfl
    · show aSs _ _ _ ((q2, .lst ((ys.map Val.int).set 0 _)) :: (q, .lst (([] : List Int).map .int)) :: M6) _
      rw [map_set0]
      have hm0 : at0 ys 0 ∈ ys := by show ys.getD 0 0 ∈ ys; rw [gd_eq hy1]; exact List.getElem_mem _
      have hm := max_sm3 h0 h1 (hy _ hm0).1 (hy _ hm0).2
      refine as_le (by repeat' first | exact le_nil | refine le_skip ?_ | refine le_keep rfl ?_) (fin ([], ys.set 0 _) ⟨⟨Nat.zero_le _, by rw [List.length_set]; exact y6, fun z' => yne (by simpa using z'), (fun _ h => nomatch h), fun v hv => ?_, ?_⟩, (fun _ h => nomatch h), fun v hv => ?_, Nat.zero_le _⟩)
      · rcases set0_mem hv with rfl | hv
        · exact hm.1.1
        · exact sy v hv
      · show lo ≤ item ([], ys.set 0 _) 0
        rw [item_ge (by exact Nat.le_refl _)]
        show lo ≤ lp (ys.set 0 _) 0
        rw [lp_lt (by rw [List.length_set]; exact hy1), gd_eq (by rw [List.length_set]; exact hy1), List.getElem_set_self]
        exact hm.2
      · rcases set0_mem hv with rfl | hv
        · exact hm.1.2
        · exact (hy v hv).2
abbrev GRow (P : Program) (w : World) (K : PySem.W.Frag) (mg : Str → Option Value) (base : Heap) : Prop := Gd P w K mg base 2 "_law_row" [] fun ds _ => aRst ds
abbrev GRow3 (P : Program) (w : World) (K : PySem.W.Frag) (mg : Str → Option Value) (base : Heap) : Prop := Gd P w K mg base 2 "_law_row" [] fun ds _ => aRs3 ds
theorem row3 (G : GRow P w K mg base) : GRow3 P w K mg base := gd_box3 G fun ds M R ⟨p, i, N, lo, e, hi, hN, h0, h1, hp⟩ => ⟨i, p, N, hi, fun M1 hs => ⟨p, 0, N, lo, e, hs, hN, h0, h1, fun v M' v0 d => ⟨9, d, hp v v0⟩⟩⟩
/-! ### _law_streams -/
theorem cut_len3 {g : List Int} : (cutI g none (some 3)).length = min 3 g.length := by
  unfold cutI
  rw [show (some (3 : Int)) = some ((3 : Nat) : Int) from rfl, HT.sIx_nat, HT.sIx_none, List.length_take]
  simp
theorem b__law_streams (B : Bt mg) : BodyOk P w K mg base k f n__law_streams "_law_streams" (defScope s__law_streams) (defBody s__law_streams) aSts := by
  rintro cdv A outer s0 H E hr ds M R ⟨ns, rfl, hl, hp⟩
  obtain ⟨cs, hcs, hcne, hcl⟩ : ∃ cs : List Int, cs = (if ns = [] then [0] else ns) ∧ cs ≠ [] ∧ cs.length ≤ 63 := by
    refine ⟨_, rfl, ?_, ?_⟩
    · split
      · simp
      · assumption
    · split
      · simp
      · exact hl
  refine as_cons (as_set 1 q__law_streams.nd (ae_ifp (P := fun d M' => d = iL cs ∧ M' = M) (tp_cmp (v_ 0) (av_lst avs_nil szb) (cp_neL0 (by first | exact .self _ | exact .lst 0 rfl | exact .lst 1 rfl | exact .lst 2 rfl | exact .lst 3 rfl) hr.u64)) (fun c => aE.val (av_list B.list (v_ 0) (by first | exact .t | exact .l (by first | exact .self _ | exact .lst 0 rfl | exact .lst 1 rfl | exact .lst 2 rfl | exact .lst 3 rfl))) ⟨?_, rfl⟩) (fun c => aE.val (av_lst (avs_cons i_ avs_nil) szb) ⟨?_, rfl⟩) |>.mono ?_))
  · rw [hcs, if_neg c]
    rfl
  · rw [hcs, if_pos (by simpa using c)]
    rfl
  rintro d M' ⟨rfl, rfl⟩
  refine as_cons (as_set 2 q__law_streams.nd (ae_lstC (aa_nil ⟨szb, fun q => ?_⟩)))
  refine as_cons (as_forW PassesOwn.never rfl (aj_ai (R := fun M1 => M1 = (q, .lst []) :: M') (ai_enumL (xs := (cutI cs none (some 3)).map .int) B.enumerate (aE.val (av_sliceL (v_ 1) ao_none (ao_some i_) (by first | exact .self _ | exact .lst 0 rfl | exact .lst 1 rfl | exact .lst 2 rfl | exact .lst 3 rfl)) ⟨?_, rfl⟩)) fun M1 e => ?_))
  · rw [cut_map]
  subst e
  have h6 := cut_len3 (g := cs)
  have hc1 : 0 < cs.length := List.length_pos_iff.mpr hcne
  refine ⟨fun j Γ M1 => ∃ (ps : List Addr) (Ds : Mem), M1 = (q, .lst (ps.map .ptr)) :: (Ds ++ M') ∧ ps.length = j ∧ Ds.length = j ∧ Sts Ds ps 600 ∧ Γ = [none, some (iL cs), some (.ptr q), none, none], ⟨_, _, ⟨[], [], rfl, rfl, rfl, (fun j p h => by simp at h), rfl⟩, (by repeat' first | exact le_nil | refine le_skip ?_ | refine le_keep rfl ?_), (by repeat' first | exact List.Sublist.refl _ | exact List.sublist_append_right _ _ | apply List.Sublist.cons₂ | apply List.Sublist.cons)⟩, ?_, ?_⟩
  · rintro j Γ M1 hj ⟨ps, Ds, rfl, hpl, hdl, hst, rfl⟩
    have hj' : j < (cutI cs none (some 3)).length := by simpa using hj
    show aG _ _ (Val.tup [Val.int (j : Int), ((cutI cs none (some 3)).map Val.int).getD j .non]) _ _ _
    rw [getD_int hj']
    generalize (cutI cs none (some 3))[j] = it at *
    refine ag_tup rfl (ags_cons (ag_name 3 q__law_streams.nd (ags_cons (ag_name 4 q__law_streams.nd (ags_nil ?_)))))
    refine as_one (as_expr (ae_append (n0 := 0) (v_ 2) rfl (ae_perm (ae_dict3 fun p => ap_cons s_ (d := iL (cs.drop j ++ cs.take j)) ?_ (ap_cons s_ (av_mulU i_ (v_ 3) (by first | exact .inl (.inl ⟨by omega, by omega⟩) | exact .inl (.inr ⟨by omega, by omega⟩) | assumption)) (ap_cons s_ (av_ifI (tp_cmp (v_ 4) (av_powC (v := 1000000000000000000) i_ i_ ⟨by decide, by decide, by decide⟩ (by decide)) cp_ge) (fun _ => (v_ 4)) (fun _ => i_)) (ap_nil ⟨_, rfl, Nat.le_of_ble_eq_true rfl, ?_⟩)))))))
    · have h : ∀ {X : Cx} {Γ : Gam} {M : Mem} {e : Expr}, aV X e Γ M (.lst (cutA (cs.map Val.int) (some (j : Int)) none ++ cutA (cs.map Val.int) none (some (j : Int)))) → aV X e Γ M (iL (cs.drop j ++ cs.take j)) := fun h => by
        rw [cut_map, cut_map, cut_loN (by omega), cut_hi (by omega) (by omega), Int.toNat_natCast, ← List.map_append] at h
        exact h
      refine h (av_catL (av_sliceL (v_ 1) (ao_some (v_ 3)) ao_none (by first | exact .self _ | exact .lst 0 rfl | exact .lst 1 rfl | exact .lst 2 rfl | exact .lst 3 rfl)) (av_sliceL (v_ 1) ao_none (ao_some (v_ 3)) (by first | exact .self _ | exact .lst 0 rfl | exact .lst 1 rfl | exact .lst 2 rfl | exact .lst 3 rfl)) (.self _) (.self _) (Ab.sz ?_))
      rw [cut_map, cut_map, List.length_map, List.length_map]
      have := cut_len (g := cs) (lo := some (j : Int)) (hi := none)
      have := cut_len (g := cs) (lo := none) (hi := some (j : Int))
      omega
    · refine ⟨(q, .lst (ps.map .ptr)) :: ((Ds ++ [(p, stD (cs.drop j ++ cs.take j) (83 * (j : Int)) (if (10 : Int) ^ (18 : Int).toNat ≤ it then it else 0))]) ++ M'), ?_, 0, _, rfl, szl (by rw [List.length_map]; omega), ?_⟩
      · rw [List.append_assoc]
        exact ((List.perm_middle.cons _).trans (List.Perm.swap _ _ _))
      · generalize (if (10 : Int) ^ (18 : Int).toNat ≤ it then it else 0) = lf
        show Wk _ _ ((q, Cell.lst (ps.map .ptr ++ [.ptr p])) :: ((Ds ++ [(p, stD (cs.drop j ++ cs.take j) (83 * (j : Int)) lf)]) ++ M'))
        rw [show ps.map Val.ptr ++ [.ptr p] = (ps ++ [p]).map Val.ptr by rw [List.map_append]; rfl]
        refine ⟨_, _, ⟨ps ++ [p], Ds ++ [(p, stD (cs.drop j ++ cs.take j) (83 * (j : Int)) lf)], rfl, by rw [List.length_append, hpl]; rfl, by rw [List.length_append, hdl]; rfl, fun j' p' h => ?_, rfl⟩, (by repeat' first | exact le_nil | refine le_skip ?_ | refine le_keep rfl ?_), (by repeat' first | exact List.Sublist.refl _ | exact List.sublist_append_right _ _ | apply List.Sublist.cons₂ | apply List.Sublist.cons)⟩
        rcases Nat.lt_or_ge j' ps.length with z | z
        · rw [List.getElem?_append_left z] at h
          obtain ⟨c1, t1, y1, g1, g2⟩ := hst j' p' h
          exact ⟨c1, t1, y1, by rw [List.getElem?_append_left (by omega)]; exact g1, g2⟩
        · have hlt := (List.getElem?_eq_some_iff.mp h).1
          rw [List.length_append] at hlt
          have e : j' = ps.length := by have : j' < ps.length + 1 := hlt; omega
          subst e
          rw [List.getElem?_append_right (Nat.le_refl _), Nat.sub_self] at h
          have e2 : p = p' := by simpa using h
          subst e2
          refine ⟨cs.drop j ++ cs.take j, 83 * (j : Int), _, by rw [List.getElem?_append_right (by omega), show ps.length - Ds.length = 0 by omega]; rfl, fun z => ?_, ?_, by omega, by omega⟩
          · have := congrArg List.length z
            simp at this
            omega
          · rw [List.length_append, List.length_drop, List.length_take]
            omega
  · rintro Γ M1 ⟨ps, Ds, rfl, hpl, hdl, hst, rfl⟩
    have hpl2 : ps.length = min 3 cs.length := by rw [hpl, List.length_map]; exact h6
    refine as_one (as_ret ((v_ 2).val (.frz (.ok (hp ps Ds (fun z => ?_) (by omega) (by omega) hst)))))
    rw [z] at hpl2
    simp at hpl2
    omega
/-! ### _law_plan -/
def aPlan (C : Addr) : ASp := fun ds M R => ∃ (p : Addr) (i N : Nat) (mo : Int), ds = [.ptr p, .int mo] ∧ M[i]? = some (p, st3 p N) ∧ N ≤ 800000 ∧ 2 ≤ mo ∧ mo ≤ 9 ∧ ∀ (a : Int) (s l : Stm), 2 ≤ a → a ≤ mo → Sq3 0 s → Sq3 1 l → R (.tup [.int a, stV s, stV l, scV C ⟨a, nf s, nf l⟩]) (M.set i (p, st3 p (N + 19)))
theorem Sq3.lim {lo : Int} {s : Stm} (h : Sq3 lo s) : Lim s := ⟨by have := h.l3; omega, Nat.le_of_dvd (by decide) h.sq.l2, h.sq.ne, fun v hv => ⟨(h.sq.a1 v hv).1, by have := h.a1 v hv; omega⟩, fun v hv => ⟨(h.sq.a2 v hv).1, by have := h.a2 v hv; omega⟩⟩
theorem b__law_plan (T : Rs K mg C) (I : Mks P w K mg base C) (g__law_next : GNx3 P w K mg base) (g__law_row : GRow3 P w K mg base) : BodyOk P w K mg base 5 f n__law_plan "_law_plan" (defScope s__law_plan) (defBody s__law_plan) (aPlan C) := by
  rintro cdv A outer s0 H E hr ds M R ⟨p, i, N, mo, rfl, hi, hN, m2, m9, hp⟩
  refine as_cons (as_set 2 q__law_plan.nd (ae_bin (aE.val i_ (ae_g g__law_next hr (by decide) (aa_cons (aE.val (v_ 0) (aa_cons (aE.val (av_sub (v_ 1) i_) (aa_nil (ak_nil ⟨rfl, p, i, _, _, rfl, (by first | exact hi | exact bx_get hi | exact bx_get (bx_get hi) | exact bx_get (bx_get (bx_get hi)) | exact bx_get (bx_get (bx_get (bx_get hi)))), (by omega), (by omega), (by omega), fun a a0 a1 => (bv_add ?_)⟩))))))))))
  refine as_cons (as_par 3 4 q__law_plan.nd rfl (by decide) (aa_cons (ae_g g__law_row hr (by decide) (aa_cons (aE.val (v_ 0) (aa_cons (aE.val i_ (aa_nil (ak_nil ⟨rfl, p, i, _, _, rfl, (by first | exact hi | exact bx_get hi | exact bx_get (bx_get hi) | exact bx_get (bx_get (bx_get hi)) | exact bx_get (bx_get (bx_get (bx_get hi)))), (by omega), (by decide), (by decide), fun s sh => (aa_cons (ae_g g__law_row hr (by decide) (aa_cons (aE.val (v_ 0) (aa_cons (aE.val i_ (aa_nil (ak_nil ⟨rfl, p, i, _, _, rfl, (by first | exact hi | exact bx_get hi | exact bx_get (bx_get hi) | exact bx_get (bx_get (bx_get hi)) | exact bx_get (bx_get (bx_get (bx_get hi)))), (by omega), (by decide), (by decide), fun l lh => (aa_nil ⟨_, _, rfl, ?_⟩)⟩))))))))⟩)))))))))
  simp only [List.set_set]
  have h0 : item l 0 ≠ 0 := by have := lh.sq.lo; omega
  refine as_one (as_ret (ae_tup (aa_cons (aE.val (v_ 2) (aa_cons (aE.val (v_ 3) (aa_cons (aE.val (v_ 4) (aa_cons (ae_sch T I hr (by decide) (aE.val (v_ 2) (aE.val (v_ 3) (aE.val (v_ 4) ⟨_, _, _, rfl, rfl, rfl, by omega, by omega, sh.lim, lh.lim, h0, aa_nil ⟨szb, ?_⟩⟩)))) ))))))))) 
  exact .ok (hp (2 + a) s l (by omega) (by omega) sh lh)
abbrev GPlan (P : Program) (w : World) (K : PySem.W.Frag) (mg : Str → Option Value) (base : Heap) (C : Addr) : Prop := Gd P w K mg base 6 "_law_plan" [] fun ds _ => aPlan C ds
end
end K13
/-! S28: the labels of a branch, listed -/
namespace Sm
abbrev Tri := Nat × Nat × Int
/-- the nodes of a branch in order: height, index, number of labels -/
def brL (k : Nat) (l : Nat → Int) : Nat → Nat → List Tri
  | 0, m => [(0, m, l 0)]
  | h + 1, m => (h + 1, m, l (h + 1)) :: (List.range k).flatMap fun c => brL k l h (m * k + c)
/-- the labels of one node -/
def labL (t : Tri) : List Tri := (List.range t.2.2.toNat).map fun (r : Nat) => (t.1, t.2.1, (r : Int) + 1)
def insL (xs : List Tri) : List Tri := xs.flatMap labL
section
variable {k : Nat} {s l : Nat → Int}
/-- x is the label number i (from 0 on) of the branch (h, v) -/
structure At (k : Nat) (s l : Nat → Int) (h v : Nat) (i : Int) (x : Tri) : Prop where
  ex : ∃ sp, x.1 ≤ h ∧ sp < k ^ (h - x.1) ∧ x.2.1 = v * k ^ (h - x.1) + sp ∧ 1 ≤ x.2.2 ∧ x.2.2 ≤ l x.1 ∧ ∀ V, 0 < V → stt k s l x.1 (V * k ^ (h - x.1) + sp) + x.2.2 = stt k s l h V + 1 + i
def Lst (k : Nat) (s l : Nat → Int) (h v : Nat) (o : Int) (L : List Tri) : Prop := ∀ (i : Nat) (x : Tri), L[i]? = some x → At k s l h v (o + (i : Int)) x
theorem Lst.nil {h v : Nat} {o : Int} : Lst k s l h v o [] := fun i x hx => by simp at hx
theorem Lst.app {h v : Nat} {o : Int} {A B : List Tri} (a : Lst k s l h v o A) (b : Lst k s l h v (o + (A.length : Int)) B) : Lst k s l h v o (A ++ B) := fun i x hx => by
  by_cases hi : i < A.length
  · rw [List.getElem?_append_left hi] at hx
    exact a i x hx
  · rw [List.getElem?_append_right (by omega)] at hx
    have := b _ x hx
    rw [show o + (i : Int) = o + (A.length : Int) + ((i - A.length : Nat) : Int) by omega]
    exact this
theorem labL_len (t : Tri) (ht : 0 ≤ t.2.2) : ((labL t).length : Int) = t.2.2 := by
  unfold labL
  rw [List.length_map, List.length_range]
  omega
theorem insL_app (A B : List Tri) : insL (A ++ B) = insL A ++ insL B := by
  unfold insL
  rw [List.flatMap_append]
theorem own_lst (hl : ∀ j, 0 ≤ l j) {h v : Nat} : Lst k s l h v 0 (labL (h, v, l h)) := fun i x hx => by
  unfold labL at hx
  rw [List.getElem?_map] at hx
  obtain ⟨r, hr, rfl⟩ := Option.map_eq_some_iff.mp hx
  obtain ⟨hi, rfl⟩ := List.getElem?_eq_some_iff.mp hr
  have hi : i < (l h).toNat := by simpa using hi
  refine ⟨0, Nat.le_refl _, ?_, ?_, ?_, ?_, fun V hV => ?_⟩
  · show 0 < k ^ (h - h)
    rw [Nat.sub_self]
    exact Nat.one_pos
  · show v = v * k ^ (h - h) + 0
    rw [Nat.sub_self, Nat.pow_zero, Nat.mul_one, Nat.add_zero]
  · show 1 ≤ (((List.range (l h).toNat)[i]'(by simpa using hi) : Nat) : Int) + 1
    omega
  · show (((List.range (l h).toNat)[i]'(by simpa using hi) : Nat) : Int) + 1 ≤ l h
    rw [List.getElem_range]
    omega
  · show stt k s l h (V * k ^ (h - h) + 0) + ((((List.range (l h).toNat)[i]'(by simpa using hi) : Nat) : Int) + 1) = _
    rw [List.getElem_range, Nat.sub_self, Nat.pow_zero, Nat.mul_one, Nat.add_zero]
    omega
/-- a child's labels within the node's -/
theorem Lst.child (hk : 2 ≤ k) {h v c : Nat} (hc : c < k) {L : List Tri} (a : Lst k s l h (v * k + c) 0 L) : Lst k s l (h + 1) v (l (h + 1) + (c : Int) * siz k l h) L := fun i x hx => by
  obtain ⟨sp, h1, h2, h3, h4, h5, h6⟩ := a i x hx
  have e : h + 1 - x.1 = (h - x.1) + 1 := by omega
  have ep : ∀ V : Nat, V * k ^ (h + 1 - x.1) + (c * k ^ (h - x.1) + sp) = (V * k + c) * k ^ (h - x.1) + sp := fun V => by
    rw [e, Nat.pow_succ, Nat.add_mul, Nat.mul_assoc, Nat.mul_comm k, Nat.add_assoc]
  refine ⟨c * k ^ (h - x.1) + sp, by omega, ?_, ?_, h4, h5, fun V hV => ?_⟩
  · rw [e, Nat.pow_succ, Nat.mul_comm _ k]
    have : (c + 1) * k ^ (h - x.1) ≤ k * k ^ (h - x.1) := Nat.mul_le_mul_right _ hc
    rw [Nat.add_mul, Nat.one_mul] at this
    omega
  · rw [h3, ep]
  · have hV' : 0 < V * k + c := by
      have : 1 * 1 ≤ V * k := Nat.mul_le_mul hV (by omega)
      omega
    rw [ep, h6 _ hV', stt_dig hk h hV hc]
    omega
/-- the labels of a branch -/
theorem brL_lst (hk : 2 ≤ k) (hl : ∀ j, 0 ≤ l j) : ∀ (h v : Nat), Lst k s l h v 0 (insL (brL k l h v)) ∧ ((insL (brL k l h v)).length : Int) = siz k l h
  | 0, v => by
    have e : insL (brL k l 0 v) = labL (0, v, l 0) := by
      show labL (0, v, l 0) ++ [] = _
      rw [List.append_nil]
    rw [e]
    exact ⟨own_lst hl, labL_len _ (hl 0)⟩
  | h + 1, v => by
    have part : ∀ c, c ≤ k → Lst k s l (h + 1) v (l (h + 1)) (insL ((List.range c).flatMap fun c => brL k l h (v * k + c))) ∧ ((insL ((List.range c).flatMap fun c => brL k l h (v * k + c))).length : Int) = (c : Int) * siz k l h := fun c => by
      induction c with
      | zero =>
        intro _
        refine ⟨Lst.nil, ?_⟩
        show ((0 : Nat) : Int) = ((0 : Nat) : Int) * _
        omega
      | succ c ih =>
        intro hc
        obtain ⟨i1, i2⟩ := ih (by omega)
        obtain ⟨c1, c2⟩ := brL_lst hk hl h (v * k + c)
        rw [List.range_succ, List.flatMap_append, List.flatMap_singleton, insL_app]
        refine ⟨i1.app ?_, ?_⟩
        · rw [i2]
          exact c1.child hk (by omega)
        · rw [List.length_append, Int.natCast_add, i2, c2, Int.natCast_succ, Int.add_mul, Int.one_mul]
    obtain ⟨p1, p2⟩ := part k (Nat.le_refl _)
    have e : insL (brL k l (h + 1) v) = labL (h + 1, v, l (h + 1)) ++ insL ((List.range k).flatMap fun c => brL k l h (v * k + c)) := rfl
    have hlen := labL_len (h + 1, v, l (h + 1)) (hl (h + 1))
    rw [e]
    refine ⟨(own_lst hl).app ?_, ?_⟩
    · rw [hlen, Int.zero_add]
      exact p1
    · rw [List.length_append, Int.natCast_add, hlen, p2]
      rfl
/-- a label of the branch (h, V) lies on the node that the list tells -/
theorem At.on {h : Nat} {i : Int} {x : Tri} (hk : 2 ≤ k) (a : At k s l h 0 i x) {V : Nat} (hV : 0 < V) : On k s l (stt k s l h V + 1 + i) x.1 (V * k ^ (h - x.1) + x.2.1) ∧ x.2.2 = stt k s l h V + 1 + i - stt k s l x.1 (V * k ^ (h - x.1) + x.2.1) := by
  obtain ⟨sp, h1, h2, h3, h4, h5, h6⟩ := a.ex
  have e : x.2.1 = sp := by rw [h3, Nat.zero_mul, Nat.zero_add]
  have h7 := h6 V hV
  rw [e]
  have hp : 0 < V * k ^ (h - x.1) + sp := by
    have : 0 < V * k ^ (h - x.1) := Nat.mul_pos hV (Nat.pow_pos (by omega))
    omega
  have := stt_pos (k := k) (s := s) (l := l) (h := x.1) hp
  exact ⟨⟨by omega, by omega⟩, by omega⟩
/-! ### outside of a branch -/
theorem within (hk : 2 ≤ k) (hl : ∀ j, 0 ≤ l j) : ∀ (d h V sp : Nat), 0 < V → sp < k ^ d → stt k s l (h + d) V ≤ stt k s l h (V * k ^ d + sp) ∧ pl k s l h (V * k ^ d + sp) ≤ stt k s l (h + d) V + siz k l (h + d)
  | 0, h, V, sp, hV, hsp => by
    have : sp = 0 := by
      rw [Nat.pow_zero] at hsp
      omega
    subst this
    rw [Nat.pow_zero, Nat.mul_one, Nat.add_zero, Nat.add_zero]
    have h1 := stt_pos (k := k) (s := s) (l := l) (h := h) hV
    have h2 : l h ≤ siz k l h := by
      cases h with
      | zero => exact Int.le_refl _
      | succ h =>
        have := siz_nn (k := k) hl h
        have : 0 ≤ (k : Int) * siz k l h := Int.mul_nonneg (by omega) this
        show l (h + 1) ≤ l (h + 1) + k * siz k l h
        omega
    exact ⟨Int.le_refl _, by omega⟩
  | d + 1, h, V, sp, hV, hsp => by
    have hp : 0 < k ^ d := Nat.pow_pos (by omega)
    have hc : sp / k ^ d < k := by
      rw [Nat.div_lt_iff_lt_mul hp, Nat.mul_comm, ← Nat.pow_succ]
      exact hsp
    have hr : sp % k ^ d < k ^ d := Nat.mod_lt _ hp
    have hdm : k ^ d * (sp / k ^ d) + sp % k ^ d = sp := Nat.div_add_mod sp (k ^ d)
    generalize sp / k ^ d = c at *
    generalize sp % k ^ d = r at *
    have hV' : 0 < V * k + c := by
      have : 1 * 1 ≤ V * k := Nat.mul_le_mul hV (by omega)
      omega
    obtain ⟨i1, i2⟩ := within hk hl d h (V * k + c) r hV' hr
    have e : V * k ^ (d + 1) + sp = (V * k + c) * k ^ d + r := by
      rw [← hdm, Nat.pow_succ, Nat.add_mul, Nat.mul_assoc, Nat.mul_comm k, Nat.mul_comm c, Nat.add_assoc]
    have h1 := stt_dig (s := s) (l := l) hk (h + d) hV hc
    have hz := siz_nn (k := k) hl (h + d)
    have hln := hl (h + d + 1)
    have hcz : 0 ≤ (c : Int) * siz k l (h + d) := Int.mul_nonneg (by omega) hz
    have hcz2 : ((c : Int) + 1) * siz k l (h + d) ≤ (k : Int) * siz k l (h + d) := Int.mul_le_mul_of_nonneg_right (by omega) hz
    rw [Int.add_mul, Int.one_mul] at hcz2
    have hs : siz k l (h + (d + 1)) = l (h + d + 1) + k * siz k l (h + d) := rfl
    rw [e, hs]
    rw [show h + (d + 1) = h + d + 1 by omega]
    exact ⟨by omega, by omega⟩
/-- a label that does not belong to the branch (H, V) lies neither on its root nor below -/
theorem out_br (hk : 2 ≤ k) (hl : ∀ j, 0 ≤ l j) {n : Int} {h b H V : Nat} (hV : 0 < V) (o : On k s l n h b) (hn : n ≤ stt k s l H V ∨ stt k s l H V + siz k l H < n) (hh : h ≤ H) : b / k ^ (H - h) ≠ V := fun e => by
  have hp : 0 < k ^ (H - h) := Nat.pow_pos (by omega)
  have hdm : k ^ (H - h) * (b / k ^ (H - h)) + b % k ^ (H - h) = b := Nat.div_add_mod b _
  rw [e] at hdm
  obtain ⟨w1, w2⟩ := within (s := s) hk hl (H - h) h V (b % k ^ (H - h)) hV (Nat.mod_lt _ hp)
  rw [Nat.mul_comm V, hdm, show h + (H - h) = H by omega] at w1 w2
  have := o.lo
  have := o.hi
  omega
end
end Sm
/-! Ab96: a comprehension with one test, pure items -/
namespace Ab
open PySem PySem.Spec PyProof.Rows L2
section
variable {X : Cx} {Γ : Gam} {M : Mem} {P : Val → Mem → Prop} {pos : Pos}
theorem cmp_eqB {b c : Bool} : Cmp X .Eq M (.bl b) (.bl c) (decide (b = c)) := ⟨_, op_eq, fun Hi H v w ok rv rw_ Q q => by
  cases rv
  cases rw_
  refine ⟨rfl, ?_⟩
  have e : decide (V.bl b = V.bl c) = decide (b = c) := by simp
  rw [e]
  exact q _ _ _ Hi H ⟨rfl, rfl⟩ (Same.refl _) ok (.bl _)⟩
theorem cmp_neB {b c : Bool} : Cmp X .NotEq M (.bl b) (.bl c) (!decide (b = c)) := ⟨_, op_ne, fun Hi H v w ok rv rw_ Q q => by
  cases rv
  cases rw_
  refine ⟨rfl, ?_⟩
  have e : decide (V.bl b = V.bl c) = decide (b = c) := by simp
  rw [e]
  exact q _ _ _ Hi H ⟨rfl, rfl⟩ (Same.refl _) ok (.bl _)⟩
end
end Ab
namespace K13
open PySem L2 Ab GenW Sm
section
variable {P : Program} {w : World} {K : PySem.W.Frag} {mg : Str → Option Value} {base : Heap} {k : Nat} {f C CN CS CB : Addr}
/-! ### _law_branch, _law_inside -/
def trV (t : Tri) : Val := .tup [.int (t.1 : Int), .int (t.2.1 : Int), .int t.2.2]
theorem brL_len {k : Nat} {l : Nat → Int} (hk : k ≤ 9) : ∀ h m, (brL k l h m).length ≤ 10 ^ h
  | 0, m => Nat.le_refl 1
  | h + 1, m => by
    have part : ∀ c, ((List.range c).flatMap fun c => brL k l h (m * k + c)).length ≤ c * 10 ^ h := fun c => by
      induction c with
      | zero => exact Nat.zero_le _
      | succ c ih =>
        rw [List.range_succ, List.flatMap_append, List.flatMap_singleton, List.length_append, Nat.add_mul, Nat.one_mul]
        have := brL_len (l := l) hk h (m * k + c)
        omega
    have h1 := part k
    have h2 : k * 10 ^ h ≤ 9 * 10 ^ h := Nat.mul_le_mul_right _ hk
    have h3 : 1 ≤ 10 ^ h := Nat.one_le_pow _ _ (by decide)
    show ((List.range k).flatMap fun c => brL k l h (m * k + c)).length + 1 ≤ 10 ^ (h + 1)
    rw [Nat.pow_succ]
    omega
def aBr (h : Nat) : ASp := fun ds M R => ∃ (kn m : Nat) (l : Stm), ds = [.int (kn : Int), stV l, .int (h : Int), .int (m : Int)] ∧ 2 ≤ kn ∧ kn ≤ 9 ∧ l.2 ≠ [] ∧ h ≤ 4 ∧ R (.lst ((brL kn (item l) h m).map trV)) M
theorem b__law_branch (B : Bt mg) {h n : Nat} (en : n = 1 + h) (g__law_item : GItL P w K mg base) (GB : ∀ h', h = h' + 1 → Gd P w K mg base (2 + h') "_law_branch" [] fun ds _ => aBr h' ds) : BodyOk P w K mg base n f n__law_branch "_law_branch" (defScope s__law_branch) (defBody s__law_branch) (aBr h) := by
  subst en
  rintro cdv A outer s0 H E hr ds M R ⟨kn, m, l, rfl, k2, k9, hl, h3, hp⟩
  have hr1 := hr.mono (j := 1) (by omega)
  refine as_cons (as_setv 4 q__law_branch.nd (av_lst (avs_cons (ae_tup (aA.val (avs_cons (v_ 2) (avs_cons (v_ 3) (avs_cons (ae_g g__law_item hr1 (by decide) (aa_cons ((v_ 1).val (aa_cons ((v_ 2).val (aa_nil (ak_nil ⟨rfl, l, (h : Int), rfl, hl, by omega, rfl, rfl⟩))))))) avs_nil))) ⟨szb, rfl, rfl⟩)) avs_nil) szb) ?_)
  rw [Int.toNat_natCast]
  cases h with
  | zero =>
    refine as_cons (as_forW PassesOwn.never rfl (aj_range1 B.range (ae_ifp (tp_cmp (v_ 2) i_ cp_gt) (fun c => absurd c (by simp)) (fun c => i_.val ⟨_, rfl, by omega, by omega, ?_⟩))))
    refine ⟨fun t Γ M' => M' = M ∧ Γ = [none, none, none, none, some (.lst ((brL kn (item l) 0 m).map trV)), none], ⟨_, _, ⟨rfl, rfl⟩, (by repeat' first | exact le_nil | refine le_skip ?_ | refine le_keep rfl ?_), (by repeat' first | exact List.Sublist.refl _ | exact List.sublist_append_right _ _ | apply List.Sublist.cons₂ | apply List.Sublist.cons)⟩, ?_, ?_⟩
    · rintro t Γ M' ht
      exact absurd ht (by simp)
    · rintro Γ M' ⟨rfl, rfl⟩
      exact as_one (as_retv (v_ 4) (.ok hp))
  | succ h' =>
    refine as_cons (as_forW PassesOwn.never rfl (aj_range1 B.range (ae_ifp (tp_cmp (v_ 2) i_ cp_gt) (fun c => aE.val (v_ 0) ⟨_, rfl, by omega, by omega, ?_⟩) (fun c => absurd (show (0 : Int) < ((h' + 1 : Nat) : Int) by omega) c))))
    rw [Int.toNat_natCast]
    refine ⟨fun t Γ M' => M' = M ∧ Γ = [some (.int (kn : Int)), some (stV l), some (.int ((h' + 1 : Nat) : Int)), some (.int (m : Int)), some (.lst ((((h' + 1, m, item l (h' + 1)) : Tri) :: (List.range t).flatMap fun c => brL kn (item l) h' (m * kn + c)).map trV)), none], ⟨_, _, ⟨rfl, rfl⟩, (by repeat' first | exact le_nil | refine le_skip ?_ | refine le_keep rfl ?_), (by repeat' first | exact List.Sublist.refl _ | exact List.sublist_append_right _ _ | apply List.Sublist.cons₂ | apply List.Sublist.cons)⟩, ?_, ?_⟩
    · rintro t Γ M' ht ⟨rfl, rfl⟩
      have hr2 := hr.mono (j := 2 + h') (by omega)
      have p10 : 10 ^ h' ≤ 10 ^ 3 := Nat.pow_le_pow_right (by decide) (by omega)
      have l1 : ∀ c, ((List.range c).flatMap fun c => brL kn (item l) h' (m * kn + c)).length ≤ c * 10 ^ h' := fun c => by
        induction c with
        | zero => exact Nat.zero_le _
        | succ c ih =>
          rw [List.range_succ, List.flatMap_append, List.flatMap_singleton, List.length_append, Nat.add_mul, Nat.one_mul]
          have := brL_len (l := item l) k9 h' (m * kn + c)
          omega
      have l2 := l1 t
      have l3 := brL_len (l := item l) k9 h' (m * kn + t)
      have t9 : t * 10 ^ h' ≤ 9 * 10 ^ 3 := Nat.mul_le_mul (by omega) p10
      refine ag_name 5 q__law_branch.nd ?_
      refine as_one (as_set 4 q__law_branch.nd (ae_frz (ae_bin (aE.val (v_ 4) (ae_g (GB h' rfl) hr2 (Nat.le_refl _) (aa_cons ((v_ 0).val (aa_cons ((v_ 1).val (aa_cons (aE.val (av_sub (v_ 2) i_) (aa_cons (aE.val (av_add (av_mulU (v_ 3) (v_ 0) (by first | exact .inl (.inl ⟨by omega, by omega⟩) | exact .inl (.inr ⟨by omega, by omega⟩) | assumption)) (v_ 5)) (aa_nil (ak_nil ⟨rfl, kn, m * kn + t, l, ?_, k2, k9, hl, by omega, bv_catL (.self _) (.self _) (sz (by rw [List.length_map, List.length_map, List.length_cons]; omega)) fun p => ⟨p, _, _, rfl, rfl, ?_⟩⟩)))))))))))))))
      · rw [show ((h' + 1 : Nat) : Int) - 1 = (h' : Int) by omega, Int.natCast_add, Int.natCast_mul, Int.zero_add]
      · rw [← List.map_append, List.cons_append, show (List.range t).flatMap (fun c => brL kn (item l) h' (m * kn + c)) ++ brL kn (item l) h' (m * kn + t) = (List.range (t + 1)).flatMap fun c => brL kn (item l) h' (m * kn + c) by rw [List.range_succ, List.flatMap_append, List.flatMap_singleton]]
        exact ⟨_, _, ⟨rfl, rfl⟩, (by repeat' first | exact le_nil | refine le_skip ?_ | refine le_keep rfl ?_), (by repeat' first | exact List.Sublist.refl _ | exact List.sublist_append_right _ _ | apply List.Sublist.cons₂ | apply List.Sublist.cons)⟩
    · rintro Γ M' ⟨rfl, rfl⟩
      exact as_one (as_retv (v_ 4) (.ok hp))
end
end K13
namespace K13
open PySem L2 Ab GenW Sm
section
variable {P : Program} {w : World} {K : PySem.W.Frag} {mg : Str → Option Value} {base : Heap} {k : Nat} {f C CN CS CB : Addr}
/-! ### _law_great -/
def aGrt : ASp := fun ds M R => ∃ (p : Addr) (i N : Nat) (mo : Int), ds = [.ptr p, .int mo] ∧ M[i]? = some (p, st3 p N) ∧ N ≤ 900000 ∧ 9 ≤ mo ∧ mo ≤ 98 ∧ ∀ (v N' : Nat), 1 ≤ v → v < 2 ^ 320 → N' ≤ N + 12 → R (.int (v : Int)) (M.set i (p, st3 p N'))
theorem b__law_great (B : Bt mg) (g__law_next : GNx3 P w K mg base) : BodyOk P w K mg base 2 f n__law_great "_law_great" (defScope s__law_great) (defBody s__law_great) aGrt := by
  rintro cdv A outer s0 H E hr ds M R ⟨p, i, N, mo, rfl, hi, hN, m9, m98, hp⟩
  have step : ∀ (x : Cell) (N : Nat), (M.set i (p, x)).set i (p, st3 p N) = M.set i (p, st3 p N) := fun x N => by rw [List.set_set]
  have p9 : ∀ {X : Cx} {Γ : Gam} {M : Mem} {a b : Expr} {pos : Pos}, aV X a Γ M (.int 10) → aV X b Γ M (.int 9) → aV X (.BinOp a .Pow b pos) Γ M (.int 1000000000) := fun ha hb => av_powC ha hb ⟨by decide, by decide, by decide⟩ (by decide)
  refine as_cons (as_set 2 q__law_great.nd (ae_bin (i_.val (ae_g g__law_next hr (by decide) (aa_cons ((v_ 0).val (aa_cons ((p9 i_ i_).val (aa_nil (ak_nil ⟨rfl, p, i, N, 1000000000, rfl, hi, by omega, by decide, by decide, fun x x0 x1 => bv_add ?_⟩))))))))) )
  obtain ⟨v0, hv0, b0, b1⟩ : ∃ v : Nat, 1 + x = (v : Int) ∧ 1 ≤ v ∧ v ≤ 1000000000 := ⟨(1 + x).toNat, by omega, by omega, by omega⟩
  rw [hv0]
  have hdiv : mo / 9 ≤ 10 ∧ 1 ≤ mo / 9 := by omega
  refine as_cons (as_forW PassesOwn.never rfl (aj_range1 B.range (ae_g g__law_next hr (by decide) (aa_cons ((v_ 0).val (aa_cons ((av_fdivU (v_ 1) i_ (by first | exact .inl ⟨by omega, by omega⟩ | assumption)).val (aa_nil (ak_nil ⟨rfl, p, i, N + 1, mo / 9, rfl, bx_get hi, by omega, by omega, by omega, fun c c0 c1 => ⟨_, rfl, by omega, by omega, ?_⟩⟩)))))))))
  rw [step]
  refine ⟨fun t Γ M' => ∃ v : Nat, 1 ≤ v ∧ v ≤ 2 ^ (31 * (t + 1)) ∧ M' = M.set i (p, st3 p (N + 1 + 1 + t)) ∧ Γ = [some (.ptr p), some (.int mo), some (.int (v : Int)), none], ⟨_, _, ⟨v0, b0, Nat.le_trans b1 (by decide), rfl, rfl⟩, (by repeat' first | exact le_nil | refine le_skip ?_ | refine le_keep rfl ?_), (by repeat' first | exact List.Sublist.refl _ | exact List.sublist_append_right _ _ | apply List.Sublist.cons₂ | apply List.Sublist.cons)⟩, ?_, ?_⟩
  · rintro t Γ M' ht ⟨v, v1, vb, rfl, rfl⟩
    have ht : t < 10 := by omega
    refine ag_name 3 q__law_great.nd ?_
    refine as_one (as_set 2 q__law_great.nd (ae_bin ((av_mulU (v_ 2) (p9 i_ i_) (.inl (.inr ⟨by omega, by omega⟩))).val (ae_g g__law_next hr (by decide) (aa_cons ((v_ 0).val (aa_cons ((p9 i_ i_).val (aa_nil (ak_nil ⟨rfl, p, i, _, 1000000000, rfl, bx_get hi, by omega, by decide, by decide, fun y y0 y1 => bv_add ?_⟩))))))))))
    rw [step]
    have e : (v : Int) * 1000000000 + y = ((v * 1000000000 + y.toNat : Nat) : Int) := by
      rw [Int.natCast_add, Int.natCast_mul, Int.toNat_of_nonneg y0]
      rfl
    have y2 : y.toNat ≤ 1000000000 := by
      clear vb e
      omega
    rw [e]
    refine ⟨_, _, ⟨v * 1000000000 + y.toNat, Nat.le_trans v1 (Nat.le_trans (Nat.le_mul_of_pos_right v (by decide)) (Nat.le_add_right _ _)), ?_, rfl, rfl⟩, (by repeat' first | exact le_nil | refine le_skip ?_ | refine le_keep rfl ?_), (by repeat' first | exact List.Sublist.refl _ | exact List.sublist_append_right _ _ | apply List.Sublist.cons₂ | apply List.Sublist.cons)⟩
    have h1 : v * 1000000000 + y.toNat ≤ v * 2 ^ 31 := by
      refine Nat.le_trans (Nat.add_le_add_left (Nat.le_trans y2 (Nat.le_mul_of_pos_left 1000000000 v1)) _) ?_
      rw [← Nat.mul_add]
      exact Nat.mul_le_mul_left v (by decide)
    refine Nat.le_trans h1 ?_
    rw [show 31 * (t + 1 + 1) = 31 * (t + 1) + 31 by omega, Nat.pow_add]
    exact Nat.mul_le_mul_right _ vb
  · rintro Γ M' ⟨v, v1, vb, rfl, rfl⟩
    have ht : c.toNat ≤ 9 := by omega
    refine as_one (as_retv (v_ 2) (.ok (hp v _ v1 ?_ (by omega))))
    refine Nat.lt_of_le_of_lt vb (Nat.lt_of_le_of_lt (Nat.pow_le_pow_right (by decide) (show 31 * (c.toNat + 1) ≤ 310 by omega)) (Nat.pow_lt_pow_right (by decide) (by decide)))
abbrev GGrt (P : Program) (w : World) (K : PySem.W.Frag) (mg : Str → Option Value) (base : Heap) : Prop := Gd P w K mg base 3 "_law_great" [] fun ds _ => aGrt ds
/-! ### _law_is_node -/
def aIsn (C CS CB : Addr) : ASp := fun ds M R => ∃ (S : Sc) (h m : Nat), ds = [ndV C CS CB S h m, .int (h : Int), .int (m : Int)] ∧ h ≤ 3000 ∧ m < 2 ^ 1900 ∧ R (.bl true) M
theorem b__law_is_node (B : Bt mg) (mr : mg "repr" = none) (N : NdT K mg CN CS CB) (PH : NPr P w K mg base CS CB "height" 1 (aPhe C CS CB)) (Q : NRp P w K mg base C CS CB) : BodyOk P w K mg base 4 f n__law_is_node "_law_is_node" (defScope s__law_is_node) (defBody s__law_is_node) (aIsn C CS CB) := by
  rintro cdv A outer s0 H E hr ds M R ⟨S, h, m, rfl, h30, hm, hp⟩
  have hu := hr.u64
  have kS : PySem.W.kitOne K (.ref (ndX CS CB m)) (.ref CS) = some (decide (m = 0)) := by
    unfold ndX
    by_cases z : m = 0
    · rw [if_pos z, decide_eq_true z]
      exact N.s.is.c5
    · rw [if_neg z, decide_eq_false z]
      exact N.bS
  have kB : PySem.W.kitOne K (.ref (ndX CS CB m)) (.ref CB) = some (!decide (m = 0)) := by
    unfold ndX
    by_cases z : m = 0
    · rw [if_pos z, decide_eq_true z]
      exact N.sB
    · rw [if_neg z, decide_eq_false z]
      exact N.b.is.c5
  refine as_cons (as_par 3 4 q__law_is_node.nd rfl (by decide) (aa_cons (ae_isi B.isinstance (v_ 0) (ae_glob N.gS ⟨rfl, rfl⟩) (.own CS) (ty_nd N) kS (aa_cons (ae_isi B.isinstance (v_ 0) (ae_glob N.gB ⟨rfl, rfl⟩) (.own CB) (ty_nd N) kB (aa_nil ⟨_, _, rfl, ?_⟩)))))) 
  refine as_cons (as_if (at_w (aw_or (at_not (at_val (ae_isi B.isinstance (v_ 0) (ae_glob N.nc.gN ⟨rfl, rfl⟩) (.own CN) (ty_nd N) (N.kN m) ⟨true, rfl, nft, fun _ => aw_or (at_cmp (v_ 3) (v_ 4) (cmp_eqB.eq (b' := false) ?_) ⟨nft, fun _ => aw_or1 (at_cmp (v_ 3) (ae_cmp (v_ 2) i_ cmp_eqI ⟨rfl, rfl⟩) (cmp_neB.eq (b' := false) ?_) ⟨nft, fun _ => as_nil ?_⟩)⟩)⟩))))))
  · cases decide (m = 0) <;> rfl
  · have e : decide ((m : Int) = 0) = decide (m = 0) := by
      by_cases z : m = 0
      · rw [decide_eq_true z, decide_eq_true (by omega)]
      · rw [decide_eq_false z, decide_eq_false (by omega)]
    rw [e, decide_eq_true rfl]
    rfl
  refine as_cons (as_setv (d := .str (ndT h m)) 5 q__law_is_node.nd ?_ ?_)
  · by_cases z : m = 0
    · subst z
      exact ae_ifp (tp_cmp (v_ 2) i_ cp_eq) (fun _ => (sp_parts (v_ 1) (show30 (by omega))).val ⟨rfl, rfl⟩) (fun c => absurd rfl c)
    · have e : ndT h m = brT h m := if_neg z
      rw [e]
      exact ae_ifp (tp_cmp (v_ 2) i_ cp_eq) (fun c => absurd c (by omega)) (fun _ => (br_parts (v_ 1) (v_ 2) (show30 (by omega)) (showN hm)).val ⟨rfl, rfl⟩)
  have sh : shV (.lst [.int (h : Int), .int (m : Int)]) := ⟨show30 (by omega), showN hm, trivial⟩
  have wd : wdV (.lst [.int (h : Int), .int (m : Int)]) ≤ sizeLine := szb
  refine as_one (as_ret (ae_and (ae_cmp (av_repr (v := .lst [.int (h : Int), .int (m : Int)]) hr mr (av_lst (avs_cons (ae_npr N PH hr (by decide) (v_ 0) ⟨S, h, m, rfl, rfl, rfl⟩) (avs_cons (av_ndI N (v_ 0)) avs_nil)) szb) trivial sh wd (Nat.le_of_ble_eq_true rfl)) (av_repr (v := .lst [.int (h : Int), .int (m : Int)]) hr mr (av_lst (avs_cons (v_ 1) (avs_cons (v_ 2) avs_nil)) szb) trivial sh wd (Nat.le_of_ble_eq_true rfl)) (Ab.cmp_eqST rfl) ⟨true, rfl, fun _ => ?_, ntf⟩)))
  exact ae_one (ae_cmp (ae_nrepr N Q hr (by decide) mr (v_ 0) (by omega) hm ⟨rfl, rfl⟩) (v_ 5) (Ab.cmp_eqST rfl) (.ok hp))
abbrev GIsn (P : Program) (w : World) (K : PySem.W.Frag) (mg : Str → Option Value) (base : Heap) (C CS CB : Addr) : Prop := Gd P w K mg base 5 "_law_is_node" [] fun ds _ => aIsn C CS CB ds
/-! ### _law_up, _law_key -/
def aUp : ASp := fun ds M R => ∃ (kn m t : Nat), ds = [.int (kn : Int), .int (m : Int), .int (t : Int)] ∧ 2 ≤ kn ∧ kn ≤ 9 ∧ t ≤ 4000 ∧ R (.int ((m / kn ^ t : Nat) : Int)) M
theorem b__law_up (B : Bt mg) : BodyOk P w K mg base k f n__law_up "_law_up" (defScope s__law_up) (defBody s__law_up) aUp := by
  rintro cdv A outer s0 H E hr ds M R ⟨kn, m, t, rfl, k2, k9, ht, hp⟩
  have k8 : ((kn : Int)).natAbs < 2 ^ 8000 := Nat.lt_of_lt_of_le (show ((kn : Int)).natAbs < 2 ^ 4 by omega) (Nat.pow_le_pow_right (by decide) (by decide))
  refine as_cons (as_forW PassesOwn.never rfl (aj_range1 B.range ((v_ 2).val ⟨_, rfl, by omega, by omega, ?_⟩)))
  rw [Int.toNat_natCast]
  refine ⟨fun i Γ M' => M' = M ∧ Γ = [some (.int (kn : Int)), some (.int ((m / kn ^ i : Nat) : Int)), none, none], ⟨_, _, ⟨rfl, by rw [Nat.pow_zero, Nat.div_one]⟩, (by repeat' first | exact le_nil | refine le_skip ?_ | refine le_keep rfl ?_), (by repeat' first | exact List.Sublist.refl _ | exact List.sublist_append_right _ _ | apply List.Sublist.cons₂ | apply List.Sublist.cons)⟩, ?_, ?_⟩
  · rintro i Γ M' hi ⟨rfl, rfl⟩
    refine ag_name 3 q__law_up.nd ?_
    refine as_one (as_setv (d := .int ((m / kn ^ (i + 1) : Nat) : Int)) 1 q__law_up.nd ?_ ⟨_, _, ⟨rfl, rfl⟩, (by repeat' first | exact le_nil | refine le_skip ?_ | refine le_keep rfl ?_), (by repeat' first | exact List.Sublist.refl _ | exact List.sublist_append_right _ _ | apply List.Sublist.cons₂ | apply List.Sublist.cons)⟩)
    rw [Nat.pow_succ, ← Nat.div_div_eq_div_mul, Int.natCast_ediv _ kn]
    exact av_fdivU (v_ 1) (v_ 0) (cdw (by omega) k8)
  · rintro Γ M' ⟨rfl, rfl⟩
    exact as_one (as_retv (v_ 1) (.ok hp))
abbrev GUp (P : Program) (w : World) (K : PySem.W.Frag) (mg : Str → Option Value) (base : Heap) : Prop := Gd P w K mg base 1 "_law_up" [] fun ds _ => aUp ds
/-! ### _law_name -/
end
end K13
namespace K13
open PySem L2 Ab GenW Sm
section
variable {P : Program} {w : World} {K : PySem.W.Frag} {mg : Str → Option Value} {base : Heap} {k : Nat} {f C CN CS CB : Addr}
theorem insL_take {L : List Tri} {i : Nat} (hi : i < L.length) : insL (L.take (i + 1)) = insL (L.take i) ++ labL L[i] := by
  rw [List.take_succ_eq_append_getElem hi, insL_app]
  show _ ++ (labL L[i] ++ []) = _
  rw [List.append_nil]
theorem insL_le (L : List Tri) (i : Nat) : (insL (L.take i)).length ≤ (insL L).length := by
  have h := congrArg List.length (insL_app (L.take i) (L.drop i))
  rw [List.take_append_drop, List.length_append] at h
  omega
def aInd : ASp := fun ds M R => ∃ (kn h : Nat) (l : Stm), ds = [.int (kn : Int), stV l, .int (h : Int)] ∧ 2 ≤ kn ∧ kn ≤ 9 ∧ l.2 ≠ [] ∧ h ≤ 4 ∧ (∀ i, 0 ≤ item l i ∧ item l i ≤ 3) ∧ 0 < item l 0 ∧ R (.lst ((insL (brL kn (item l) h 0)).map trV)) M
theorem siz_50 {kn h : Nat} {l : Nat → Int} (k2 : 2 ≤ kn) (k9 : kn ≤ 9) (hl : ∀ i, 0 ≤ l i ∧ l i ≤ 3) (h0 : 0 < l 0) (hh : h ≤ 4) : siz kn l h ≤ 50000 := by
  have h1 := siz_top k2 k9 (fun j => (hl j).1) h0 (fun j => (hl j).2) h
  have h2 : (9 : Nat) ^ h ≤ 9 ^ 4 := Nat.pow_le_pow_right (by decide) hh
  have h3 : ((9 ^ h : Nat) : Int) ≤ ((9 ^ 4 : Nat) : Int) := Int.ofNat_le.mpr h2
  have h4 : ((9 ^ 4 : Nat) : Int) = 6561 := by decide
  omega
theorem brL_lv {kn : Nat} {l : Nat → Int} (hl : ∀ i, 0 ≤ l i ∧ l i ≤ 3) : ∀ h m, ∀ t ∈ brL kn l h m, 0 ≤ t.2.2 ∧ t.2.2 ≤ 3
  | 0, m, t, ht => by
    rw [List.mem_singleton.mp ht]
    exact hl 0
  | h + 1, m, t, ht => by
    rcases List.mem_cons.mp ht with z | z
    · rw [z]
      exact hl (h + 1)
    · obtain ⟨c, _, hc⟩ := List.mem_flatMap.mp z
      exact brL_lv hl h _ t hc
theorem b__law_inside (B : Bt mg) (GB : ∀ h : Nat, Gd P w K mg base (2 + h) "_law_branch" [] fun ds _ => aBr h ds) : BodyOk P w K mg base 6 f n__law_inside "_law_inside" (defScope s__law_inside) (defBody s__law_inside) aInd := by
  rintro cdv A outer s0 H E hr ds M R ⟨kn, h, l, rfl, k2, k9, hne, hh, hl, h0, hp⟩
  have hlen := (brL_lst (s := fun _ => 0) k2 (fun j => (hl j).1) h 0).2
  have hs := siz_50 k2 k9 hl h0 hh
  have hlv := brL_lv (kn := kn) hl h 0
  refine as_cons (as_setv (d := .lst ((insL ((brL kn (item l) h 0).take 0)).map trV)) 3 q__law_inside.nd (av_lst avs_nil szb) ?_)
  refine as_cons (as_forW PassesOwn.never rfl (aj_ai (R := fun M1 => M1 = M) (ai_lst (xs := (brL kn (item l) h 0).map trV) (ae_g (GB h) hr (by omega) (aa_cons ((v_ 0).val (aa_cons ((v_ 1).val (aa_cons ((v_ 2).val (aa_cons (i_.val (aa_nil (ak_nil ⟨rfl, kn, 0, l, rfl, k2, k9, hne, hh, rfl, rfl⟩)))))))))))) fun M1 e => ?_))
  subst e
  generalize hL : brL kn (item l) h 0 = L at *
  refine ⟨fun i Γ M' => M' = M1 ∧ Γ = [some (.int (kn : Int)), some (stV l), some (.int (h : Int)), some (.lst ((insL (L.take i)).map trV)), none, none, none, none], ⟨_, _, ⟨rfl, rfl⟩, (by repeat' first | exact le_nil | refine le_skip ?_ | refine le_keep rfl ?_), (by repeat' first | exact List.Sublist.refl _ | exact List.sublist_append_right _ _ | apply List.Sublist.cons₂ | apply List.Sublist.cons)⟩, ?_, ?_⟩
  · rintro i Γ M' hi ⟨rfl, rfl⟩
    have hi : i < L.length := by simpa using hi
    dsimp only
    rw [show (L.map trV).getD i .non = trV L[i] by rw [List.getD_eq_getElem?_getD, List.getElem?_map, List.getElem?_eq_getElem hi]; rfl]
    have e1 := insL_take hi
    have e2 := insL_le L (i + 1)
    obtain ⟨t0, t3⟩ := hlv L[i] (List.getElem_mem hi)
    generalize L[i] = t at *
    obtain ⟨own, m, many⟩ := t
    dsimp only at t0 t3
    refine ag_tup rfl (ags_cons (ag_name 4 q__law_inside.nd (ags_cons (ag_name 5 q__law_inside.nd (ags_cons (ag_name 6 q__law_inside.nd (ags_nil ?_)))))))
    refine as_le (Γ' := [some (.int (kn : Int)), some (stV l), some (.int (h : Int)), some (.lst ((insL (L.take i)).map trV)), some (.int (own : Int)), some (.int (m : Int)), some (.int many), none]) (by repeat' first | exact le_nil | refine le_skip ?_ | refine le_keep rfl ?_) ?_
    have hlb : (labL (own, m, many)).length = many.toNat := by
      unfold labL
      rw [List.length_map, List.length_range]
    have el : (List.range many.toNat).map (fun (j : Nat) => Val.tup [.int (own : Int), .int (m : Int), .int (1 + (j : Int))]) = (labL (own, m, many)).map trV := by
      unfold labL
      rw [List.map_map]
      refine List.map_congr_left fun j _ => ?_
      show _ = Val.tup [.int (own : Int), .int (m : Int), .int ((j : Int) + 1)]
      rw [Int.add_comm]
    refine as_one (as_set 3 q__law_inside.nd (ae_frz (ae_bin (aE.val (v_ 3) (ae_lcP [("_law_rest", 7)] (fun (j : Nat) => .tup [.int (own : Int), .int (m : Int), .int (1 + (j : Int))]) rfl q__law_inside.nd (blkOk_by (N := n__law_inside) (sc := defScope s__law_inside) (by decide +kernel)) (ai_range2 (n := many.toNat) (lo := 1) B.range (aA.val (avs_cons i_ (avs_cons (av_add (v_ 6) i_) avs_nil)) ⟨_, rfl, by omega, ⟨by omega, by omega, by omega, by omega⟩, rfl⟩)) ?_ (by omega) (bv_catL (.self _) (.self _) (sz ?_) fun p => ⟨p, _, _, rfl, rfl, ?_⟩))))))
    · intro j acc D hj s1 H1 C1 cl fp
      refine agw_name 7 q__law_inside.nd fun s1 H1 C1 cl fp => ?_
      exact (av_tup (avs_cons (v_ 4) (avs_cons (v_ 5) (avs_cons (v_ 7) avs_nil))) szb).val ⟨rfl, rfl⟩
    · rw [e1, List.length_append] at e2
      rw [el, List.length_map, List.length_map]
      omega
    · rw [el, ← List.map_append, ← e1]
      exact ⟨_, _, ⟨rfl, rfl⟩, (by repeat' first | exact le_nil | refine le_skip ?_ | refine le_keep rfl ?_), (by repeat' first | exact List.Sublist.refl _ | exact List.sublist_append_right _ _ | apply List.Sublist.cons₂ | apply List.Sublist.cons)⟩
  · rintro Γ M' ⟨rfl, rfl⟩
    rw [List.length_map, List.take_length]
    exact as_one (as_retv (v_ 3) (.ok hp))
abbrev GInd (P : Program) (w : World) (K : PySem.W.Frag) (mg : Str → Option Value) (base : Heap) : Prop := Gd P w K mg base 7 "_law_inside" [] fun ds _ => aInd ds
end
end K13
/-! labels by number; another arity; greater schedules -/
namespace Sm
/-! ### another arity -/
end Sm
/-! S15: the reading: a value as a sum of values of the pruned sequence; the nested equation of the constant schedule -/
namespace Sm
section
variable {k : Nat} {s l : Nat → Int}
theorem Cnt.sub {h : Nat} {n v u : Int} (a : Cnt k s l h n v) (b : Cnt k s l h n u) : v = u := cnt_uniq a.1 b.1 fun i => (a.2 i).trans (b.2 i).symm
theorem pl10 : pl k s l 1 0 = s 0 + s 1 := by
  rw [pl_zero, fp, if_neg (by omega)]
  rfl
theorem pl00 : pl k s l 0 0 = s 0 := by
  rw [pl_zero, fp, if_pos rfl, Int.zero_add]
/-! ### the constant schedule -/
/-- one label on each branch node, g on each spine node but the first -/
structure Kst (g : Int) (s l : Nat → Int) : Prop where
  g0 : 0 ≤ g
  s0 : s 0 = 1
  s1 : ∀ j, s (j + 1) = g
  l1 : ∀ j, l j = 1
theorem Kst.sn {g : Int} (h : Kst g s l) (j : Nat) : 0 ≤ s j := by
  cases j with
  | zero => rw [h.s0]; decide
  | succ j => rw [h.s1]; exact h.g0
theorem Kst.ln {g : Int} (h : Kst g s l) (j : Nat) : 0 ≤ l j := by rw [h.l1]; decide
theorem Kst.far {g : Int} (h : Kst g s l) (hk : 2 ≤ k) {b : Nat} (hb : 0 < b) : (b : Int) + g + 1 ≤ pl k s l 0 b := by
  obtain ⟨d, rfl⟩ : ∃ d, b = 1 + d := ⟨b - 1, by omega⟩
  have e := pl_far hk h.sn h.ln (by rw [h.l1]; decide) 0 1 d
  rw [pl_first hk, h.l1] at e
  have e2 : pl k s l (0 + 1) 0 = s 0 + s 1 := pl10
  rw [e2, h.s0, h.s1] at e
  omega
theorem Kst.le {g : Int} (h : Kst g s l) (hk : 2 ≤ k) {m v : Int} (hm : g + 1 ≤ m) (hv : Cnt k s l 0 m v) : 1 ≤ v ∧ v ≤ m - g := by
  have g0 := h.g0
  have v1 : 1 ≤ v := by
    have := (hv.2 0).mpr (by rw [pl00, h.s0]; omega)
    omega
  refine ⟨v1, ?_⟩
  rcases (show v = 1 ∨ 2 ≤ v by omega) with e | e
  · omega
  · have h1 := (hv.2 (v.toNat - 1)).mp (by omega)
    have h2 := h.far hk (b := v.toNat - 1) (by omega)
    omega
end
end Sm
/-! S16: every number has a value -/
namespace Sm
end Sm
/-! the past of a reading; the equation just before it holds -/
namespace Sm
end Sm
/-! the sum of the first places; sums of values -/
namespace Sm
/-- the sum of u / P for u below v, twice -/
def gs (P v : Nat) : Int := smN (fun u => ((u / P : Nat) : Int)) v
section
variable {k : Nat} {s l : Nat → Int}
/-- the sum of the first v places -/
def SP (k : Nat) (s l : Nat → Int) (v : Nat) : Int := smN (fun b => pl k s l 0 b) v
/-- by heights -/
def spT (k : Nat) (s l : Nat → Int) (v j : Nat) : Int := s (j + 1) * max ((v : Int) - ((k ^ j : Nat) : Int)) 0 + l (j + 1) * gs (k ^ (j + 1)) v
end
end Sm
/-! the sum of the first places, height by height, as the code adds it up -/
namespace Sm
end Sm
/-! bounds of places of leaves and of their sums; the first that fits -/
namespace Sm
section
variable {k : Nat} {s l : Nat → Int}
theorem pl0_le (hk : 2 ≤ k) {m : Int} (s1 : ∀ j, s j ≤ m) (l0 : ∀ j, 0 ≤ l j) (l1 : ∀ j, l j ≤ m) (m0 : 0 ≤ m) (b : Nat) : pl k s l 0 b ≤ m * (1 + 3 * (b : Int)) := by
  rw [pl_leaf hk]
  have h1 : psum k s b 1 ≤ (b : Int) * m := by
    unfold psum
    refine smN_const_le fun j _ => ?_
    split
    · exact s1 _
    · exact m0
  have h2 : lsum k l b 1 ≤ m * (b : Int) := by
    unfold lsum
    have e : smN (fun j => ((b / k ^ (j + 1) : Nat) : Int) * l (1 + j)) b ≤ smN (fun j => m * ((b / k ^ (j + 1) : Nat) : Int)) b := smN_le fun j _ => by
      rw [Int.mul_comm]
      exact Int.mul_le_mul_of_nonneg_right (l1 _) (Int.natCast_nonneg _)
    rw [smN_mul] at e
    exact Int.le_trans e (Int.mul_le_mul_of_nonneg_left (quot_sum hk b b) m0)
  have h3 : (b : Int) * l 0 ≤ (b : Int) * m := Int.mul_le_mul_of_nonneg_left (l1 0) (Int.natCast_nonneg _)
  have h4 := s1 0
  have e1 : m * (1 + 3 * (b : Int)) = m + 3 * (m * b) := by rw [Int.mul_add, Int.mul_one, Int.mul_left_comm]
  have e2 : (b : Int) * m = m * b := Int.mul_comm _ _
  rw [e1]
  rw [e2] at h1 h3
  omega
end
end Sm
/-! S29: bounds of labels; the ends of paths -/
namespace Sm
section
variable {k : Nat} {s l : Nat → Int}
theorem dval_lt {k : Nat} : ∀ (ds : List Nat) (n : Nat), (∀ d ∈ ds, d < k) → dval k n ds < (n + 1) * k ^ ds.length
  | [], n, _ => by
    rw [List.length_nil, Nat.pow_zero, Nat.mul_one]
    exact Nat.lt_succ_self n
  | d :: ds, n, h => by
    have h1 := dval_lt ds (n * k + d) (fun x hx => h x (List.mem_cons_of_mem _ hx))
    have hd := h d List.mem_cons_self
    have h2 : (n * k + d + 1) * k ^ ds.length ≤ (n + 1) * k * k ^ ds.length := Nat.mul_le_mul_right _ (by rw [Nat.add_mul, Nat.one_mul]; omega)
    rw [List.length_cons, Nat.pow_succ, Nat.mul_comm (k ^ ds.length) k, ← Nat.mul_assoc]
    exact Nat.lt_of_lt_of_le h1 h2
/-- a label that lies in a branch of height H: its path's last steps are the place within -/
theorem path_tail (hk : 2 ≤ k) {n : Int} {st : Nat} {ds : List Nat} {r : Int} (p : PathOf k s l n st ds r) {H o V sp : Nat} (hV : 0 < V) (ho : o ≤ H) (hsp : sp < k ^ (H - o)) (e1 : st - ds.length = o) (e2 : dval k 0 ds = V * k ^ (H - o) + sp) : H ≤ st ∧ ds.drop (st - H) = pdg k (H - o) sp := by
  have hl := p.len
  have h1 := dval_lt ds 0 p.lt
  rw [Nat.zero_add, Nat.one_mul, e2] at h1
  have h2 : 1 * k ^ (H - o) ≤ V * k ^ (H - o) := Nat.mul_le_mul_right _ hV
  have h3 : k ^ (H - o) < k ^ ds.length := by omega
  have h4 : H - o < ds.length := (Nat.pow_lt_pow_iff_right (a := k) (by omega)).mp h3
  refine ⟨by omega, ?_⟩
  have h5 := drop_dig ds 0 (H - o) p.lt (by omega)
  rw [show st - H = ds.length - (H - o) by omega, h5, e2, pdg_add (by omega)]
theorem stt_bd (hk : 2 ≤ k) (hs : ∀ j, 0 ≤ s j) (hl : ∀ j, 0 ≤ l j) {m : Int} (s1 : ∀ j, s j ≤ m) (l1 : ∀ j, l j ≤ m) (m0 : 0 ≤ m) (h b : Nat) : stt k s l h b ≤ m * (1 + 3 * (lf k h b : Int)) := by
  have h1 := pl_le_lf hk hs hl h b
  have h2 := pl0_le hk s1 hl l1 m0 (lf k h b)
  have h3 := pl_stt (k := k) (s := s) (l := l) h b
  have h4 : 0 ≤ lab s l h b := by unfold lab; split; exact hs h; exact hl h
  omega
theorem lab_nn (hs : ∀ j, 0 ≤ s j) (hl : ∀ j, 0 ≤ l j) (h b : Nat) : 0 ≤ lab s l h b := by unfold lab; split; exact hs h; exact hl h
theorem stt_nn (hk : 2 ≤ k) (hs : ∀ j, 0 ≤ s j) (hl : ∀ j, 0 ≤ l j) (h0 : 0 < l 0) {h b : Nat} : 0 ≤ stt k s l h b := by
  by_cases z : h = 0 ∧ b = 0
  · rw [z.1, z.2, stt_00]
    exact Int.le_refl _
  · have h1 := lf_prev hk hs hl h0 z
    have h2 := pl_mono hk hs hl h0 0 (Nat.zero_le (lf k h b - 1))
    have h3 := pl_stt (k := k) (s := s) (l := l) 0 0
    rw [stt_00] at h3
    have h4 := lab_nn hs hl 0 0
    omega
end
end Sm
/-! Ab97: xs[a:e], the upper bound changing cells -/
namespace Ab
open PySem PySem.Spec PyProof.Rows L2
end Ab
/-! Ab98: range(a, b, c) with a step of at least 1, walked and listed -/
namespace Ab
open PySem PySem.Spec PyProof.Rows L2
/-- how many numbers range(i, j, c) has -/
def rgN (i j c : Int) : Nat := if i < j then ((j - i - 1) / c + 1).toNat else 0
theorem rgN_size {i j c : Int} (c1 : 1 ≤ c) : Builtin.Range.rangeSize i j c = (rgN i j c : Int) := by
  unfold Builtin.Range.rangeSize rgN
  rw [if_pos (by omega)]
  split
  · have : 0 ≤ (j - i - 1) / c := Int.ediv_nonneg (by omega) (by omega)
    omega
  · rfl
theorem rgN_le {i j c : Int} (c1 : 1 ≤ c) : (rgN i j c : Int) ≤ max 0 (j - i) := by
  unfold rgN
  split
  · have h0 : 0 ≤ (j - i - 1) / c := Int.ediv_nonneg (by omega) (by omega)
    have h1 : (j - i - 1) / c ≤ j - i - 1 := Int.ediv_le_self _ (by omega)
    omega
  · omega
/-- the numbers of the range lie below the bound -/
theorem rgN_lt {i j c : Int} {t : Nat} (c1 : 1 ≤ c) (h : t < rgN i j c) : i + (t : Int) * c < j := by
  unfold rgN at h
  split at h
  · have h0 : 0 ≤ (j - i - 1) / c := Int.ediv_nonneg (by omega) (by omega)
    have h1 : (t : Int) ≤ (j - i - 1) / c := by omega
    have h2 : (t : Int) * c ≤ (j - i - 1) / c * c := Int.mul_le_mul_of_nonneg_right h1 (by omega)
    have h3 := Int.ediv_mul_le (j - i - 1) (show c ≠ 0 by omega)
    omega
  · omega
def RgB (i j c : Int) : Prop := -(2 ^ 61) ≤ i ∧ i < 2 ^ 61 ∧ -(2 ^ 61) ≤ j ∧ j < 2 ^ 61 ∧ 1 ≤ c ∧ c < 1073741824
theorem RgB.small {i j c : Int} (h : RgB i j c) : Builtin.Range.small i j c = true := by
  obtain ⟨h1, h2, h3, h4, h5, h6⟩ := h
  have h7 := rgN_le (i := i) (j := j) h5
  unfold Builtin.Range.small
  rw [rgN_size h5]
  simp only [Builtin.Range.rangeFitsLong, Bool.and_eq_true, Bool.or_eq_true, decide_eq_true_eq, beq_iff_eq, show c > 0 by omega, if_true]
  omega
theorem RgB.rgc {i j c : Int} (h : RgB i j c) : RgC i j c (rgN i j c) := by
  have h' := h
  obtain ⟨h1, h2, h3, h4, h5, h6⟩ := h'
  exact ⟨by omega, by omega, h.small, rgN_size h5⟩
section
variable {X : Cx} {Γ : Gam} {M : Mem} {a b c : Expr} {pos p1 p2 : Pos}
theorem aj_range3 {tg : Expr} {P : Nat → (Nat → Val) → Mem → Prop} (hm : X.mg "range" = none) (ha : aA X [a, b, c] Γ M fun ds M' => ∃ lo hi st : Int, ds = [.int lo, .int hi, .int st] ∧ RgB lo hi st ∧ P (rgN lo hi st) (fun i => .int (lo + (i : Nat) * st)) M') (hg : Gl X "range" := by rfl)
    (hs : starEach [a, b, c] X.env = (false, eval a X.env) :: starEach [b, c] X.env := by rfl) (hpl : (backTo pos (starEach [b, c] X.env)).any (·.1) = false := by rfl) : aJ X tg (.Call (.Name "range" p1) [a, b, c] [] pos) Γ M P := fun Hi H σ ok en R' q => by
  refine ⟨_, pi_range3 hg hm pa_wa hs hpl, ?_⟩
  refine ha Hi H σ ok en _ fun ds M1 v Hi1 H1 h1 s1 ok1 r1 => ?_
  obtain ⟨lo, hi, st, rfl, hb, hp⟩ := h1
  cases r1 with
  | cons r1 r2 =>
    cases r2 with
    | cons r2 r3 =>
      cases r3 with
      | cons r3 r4 =>
        cases r4
        cases r1
        cases r2
        cases r3
        refine ⟨lo, hi, st, _, rfl, hb.rgc, q _ _ _ M1 Hi1 H1 hp s1 ok1 ?_⟩
        refine walk_rangeC.mono (fun _ _ => trivial) fun i H' v H'' hi hG hy Hi' M' s2 ok2 => ?_
        obtain ⟨rfl, rfl⟩ := hy
        exact ⟨Hi', Same.refl _, ok2, .int _⟩
/-! ### list(range(a, b, c)) -/
def PRg3 (X : Cx) (e : Expr) (t : L2.St → Hp → (Int → Int → Int → Hp → Prop) → Prop) : Prop :=
  ∀ (pins : List (Addr × Obj)) (s : Shared) (σ : L2.St) (H : Hp) (Q : Int → Int → Int → Hp → Prop), Inv X pins σ H s → t σ H Q →
    wpAny (model X.prog X.w) X.A (eval e X.env) (fun x s' => ∃ r a b c t u v H', x = .ref r ∧ IsRange s'.heap r a b c t u v ∧ Inv X pins σ H' s' ∧ Q a b c H') X.xe s
def tRg3 (ta : TA) : L2.St → Hp → (Int → Int → Int → Hp → Prop) → Prop := fun σ H Q => ta σ H fun vs H1 => ∃ i j k : Int, vs = [.int i, .int j, .int k] ∧ RgB i j k ∧ Q i j k H1
theorem prg_3 {ta : TA} {p pos : Pos} (hg : Gl X "range") (hm : X.mg "range" = none) (ha : PA X [a, b, c] ta)
    (hs : starEach [a, b, c] X.env = (false, eval a X.env) :: starEach [b, c] X.env := by rfl) (hpl : (backTo pos (starEach [b, c] X.env)).any (·.1) = false := by rfl) : PRg3 X (.Call (.Name "range" p) [a, b, c] [] pos) (tRg3 ta) := by
  intro pins s σ H Q I h
  refine Call_ (ld_blt I hg hm boot_range (PyProof.Rows.callWith_type1 (thn (ha.run pos pins s σ H _ I h) fun us s1 ⟨vs, H1, I1, r1, q1⟩ => ?_) hs hpl))
  obtain ⟨i, j, k, rfl, hb, q⟩ := q1
  cases r1 with
  | cons r rr =>
    cases rr with
    | cons r' rr =>
      cases rr with
      | cons r'' rr =>
        cases rr
        obtain ⟨t, rfl⟩ := r
        obtain ⟨t', rfl⟩ := r'
        obtain ⟨t'', rfl⟩ := r''
        have c0 := hb.2.2.2.2
        exact call_range_3 (by omega) ⟨_, i, j, k, _, _, _, H1, rfl, IsRange.new _ _ _ _ _ _ _, I1.kept (t' := s1.toks) fun b o e => Heap.get?_push_of_some _ e, q⟩ (.inl (PyProof.noPylong_small (by omega)))
def rgV3 (i c : Int) (n : Nat) : List V := (List.range n).map fun t => V.int (i + (t : Nat) * c)
theorem vals_rg3 {i c : Int} {n : Nat} {acc : Array Value} (h : ItemsOf (fun t v => ∃ u, v = .int (i + t * c) u) acc n) : Vals (rgV3 i c n) acc.toList := by
  have e : acc.toList.length = n := by rw [Array.length_toList]; exact h.1
  unfold rgV3
  rw [← e]
  refine vals_of_get acc.toList _ fun j u hj => ?_
  obtain ⟨t, rfl⟩ := h.2 j u (by rw [← hj, Array.getElem?_toList])
  exact ⟨t, rfl⟩
def tLstRg3 (te : L2.St → Hp → (Int → Int → Int → Hp → Prop) → Prop) : TE := fun σ H Q => te σ H fun a b c H1 => RgB a b c ∧ rgN a b c ≤ 2 ^ 24 ∧ ∀ q, H1 q = none → Q (.ref q) (upd H1 q (.lst (rgV3 a c (rgN a b c))))
theorem pe_listRg3 {e : Expr} {te : L2.St → Hp → (Int → Int → Int → Hp → Prop) → Prop} {p pos : Pos} (hc : X.calm = true) (hg : Gl X "list") (hm : X.mg "list" = none) (he : PRg3 X e te) (na : starEach [e] X.env = (false, eval e X.env) :: starEach [] X.env := by rfl) : PE X (.Call (.Name "list" p) [e] [] pos) (tLstRg3 te) := by
  refine ⟨fun pins s σ H Q I h => ?_⟩
  refine Call_ (ld_blt I hg hm boot_list (PyProof.Rows.callWith_type1 (args_cons (thn (he pins s σ H _ I h) fun x s1 ⟨r, a, b, c, t, u, v, H1, ex, hr, I1, ok, hn, q⟩ => args_nil ?_) na) na))
  subst ex
  refine call_list_range (n := rgN a b c) (I1.ok.hd hc) hr ok.small (rgN_size ok.2.2.2.2.1) hn fun h' tk acc c' hk e' hi => ?_
  refine ⟨.ref s1.heap.objs.size, upd H1 s1.heap.objs.size (.lst (rgV3 a c (rgN a b c))), I1.laid hk (Nat.le_refl _) (show ObjOk X.prog X.w _ _ _ (.lst (rgV3 a c (rgN a b c))) from ⟨?_, acc.toList, c', vals_rg3 hi, ?_⟩), rfl, q _ (I1.hok.fresh (Nat.le_refl _))⟩
  · unfold rgV3
    rw [List.length_map, List.length_range, sizeLine_eq]; omega
  · rw [Array.toArray_toList]; exact e'
theorem av_listRg3 {lo hi st : Int} {pr p3 : Pos} (m1 : X.mg "list" = none) (m2 : X.mg "range" = none) (hc : X.calm = true) (ha : aV X a Γ M (.int lo)) (hb : aV X b Γ M (.int hi)) (hd : aV X c Γ M (.int st)) (hr : RgB lo hi st) (hn : rgN lo hi st ≤ 2 ^ 24) (hg1 : Gl X "list" := by rfl) (hg2 : Gl X "range" := by rfl)
    (hs : starEach [a, b, c] X.env = (false, eval a X.env) :: starEach [b, c] X.env := by rfl) (hs2 : starEach [b, c] X.env = (false, eval b X.env) :: starEach [c] X.env := by rfl) (hs3 : starEach [c] X.env = (false, eval c X.env) :: starEach [] X.env := by rfl) (hpl : (backTo p3 (starEach [b, c] X.env)).any (·.1) = false := by rfl)
    (nb : starEach [.Call (.Name "range" pr) [a, b, c] [] p3] X.env = (false, eval (.Call (.Name "range" pr) [a, b, c] [] p3) X.env) :: starEach [] X.env := by rfl) : aV X (.Call (.Name "list" p1) [.Call (.Name "range" pr) [a, b, c] [] p3] [] pos) Γ M (.lst ((List.range (rgN lo hi st)).map fun t => .int (lo + (t : Nat) * st))) := fun Hi H σ ok en Q q => by
  refine ⟨_, pe_listRg3 hc hg1 m1 (prg_3 hg2 m2 pa_wa hs hpl) nb, ?_⟩
  have hA : aA X [a, b, c] Γ M fun ds M' => ds = [.int lo, .int hi, .int st] ∧ M' = M := aa_cons (ha.val (aa_cons (hb.val (aa_cons (hd.val (aa_nil ⟨rfl, rfl⟩)) hs3)) hs2)) hs
  refine hA Hi H σ ok en _ fun ds M1 vs Hi1 H1 h1' s1 ok1 r1 => ?_
  obtain ⟨rfl, rfl⟩ := h1'
  cases r1 with
  | cons r1 r2 =>
    cases r2 with
    | cons r2 r3 =>
      cases r3 with
      | cons r3 r4 =>
        cases r4
        cases r1
        cases r2
        cases r3
        refine ⟨lo, hi, st, rfl, hr, hr, hn, fun l hl => ?_⟩
        have s2 := same_upd (o := .lst (rgV3 lo st (rgN lo hi st))) (ok1.none hl)
        refine q _ _ _ _ _ ⟨rfl, rfl⟩ (s1.trans s2) (ok1.imm hl) (.lst (SqL.of upd_same) ?_)
        unfold rgV3
        have : ∀ (H0 : Hp) (l : List Nat), RepA X.K H0 (l.map fun i => Val.int (lo + (i : Nat) * st)) (l.map fun i => V.int (lo + (i : Nat) * st)) := fun H0 l => by
          induction l with
          | nil => exact .nil
          | cons z l ih =>
            rw [List.map_cons, List.map_cons]
            exact .cons (.int _) ih
        exact this _ _
end
end Ab
namespace K13
open PySem L2 Ab GenW Sm
section
variable {P : Program} {w : World} {K : PySem.W.Frag} {mg : Str → Option Value} {base : Heap} {k : Nat} {f C CN CS CB : Addr}
/-! ### Node.at as it is called -/
structure NAt (P : Program) (w : World) (K : PySem.W.Frag) (mg : Str → Option Value) (base : Heap) (C CN CS CB : Addr) : Prop where
  ex : ∃ p g, ClX.CRead K CN (.type "type") ∧ ClX.CMet K CN (.type "type") "at" p g ∧ FX P w K mg base 7 g fun ds _ => aAt C CN CS CB ds
section
variable {X : Cx} {Γ : Gam} {M : Mem} {R : Val → Mem → Prop} {e e1 : Expr} {p1 apos pos : Pos} {q : Nat} {S : Sc} {n : Int} {pl : Sem Bool}
theorem ae_nat (N : NdT X.K X.mg CN CS CB) (I : NAt X.prog X.w X.K X.mg X.base C CN CS CB) (hr : Rm q X.A) (hq : 7 ≤ q) (he : aV X e Γ M (scV C S)) (he1 : aV X e1 Γ M (.int n)) (hS : GoodS S) (n1 : 1 ≤ n) (n2 : n < 2 ^ 2000) (h : ∀ a b, OnS S n a b → a ≤ 2010 → R (ndV C CS CB S a b) M)
    (hg : Gl X "Node" := by rfl) (hst : starEach [e, e1] X.env = (false, eval e X.env) :: starEach [e1] X.env := by rfl) (hst2 : starEach [e1] X.env = (false, eval e1 X.env) :: starEach [] X.env := by rfl)
    (ht : eval (.Call (.Attribute (.Name "Node" p1) "at" apos) [e, e1] [] pos) X.env = (do
      let ov ← eval (.Name "Node" p1) X.env
      standAt apos.atName
      let (f, first) ← holding [ov] (getMethod ov "at" pl)
      callWith pos f first (backTo pos (starEach [e, e1] X.env)) (backToKw pos (keywordEach [] X.env))) := by rfl) : aE X (.Call (.Attribute (.Name "Node" p1) "at" apos) [e, e1] [] pos) Γ M R := by
  obtain ⟨p, g, r, cm, F⟩ := I.ex
  exact ae_cmeth r cm F hr hq (ae_glob N.nc.gN ⟨rfl, rfl⟩ hg) (aa_cons (he.val (aa_cons (he1.val (aa_nil (ak_nil ⟨rfl, S, n, rfl, hS, n1, n2, h⟩))) hst2)) hst) rfl rfl hst (by rw [hst, hst2]; rfl) ht
end
/-! ### _law_is_outside -/
def aOut (C : Addr) : ASp := fun ds M R => ∃ (S : Sc) (H V : Nat) (n : Int), ds = [scV C S, .int S.a, .int n, .int (H : Int), .int (V : Int)] ∧ GoodS S ∧ 0 < V ∧ 1 ≤ n ∧ n < 2 ^ 2000 ∧ H ≤ 4 ∧ (n ≤ ltS S H V ∨ ltS S H V + szS S H < n) ∧ R (.bl true) M
theorem b__law_is_outside (N : NdT K mg CN CS CB) (NA : NAt P w K mg base C CN CS CB) (GU : GUp P w K mg base) (PHE : NPr P w K mg base CS CB "height" 1 (aPhe C CS CB)) : BodyOk P w K mg base 8 f n__law_is_outside "_law_is_outside" (defScope s__law_is_outside) (defBody s__law_is_outside) (aOut C) := by
  rintro cdv A outer s0 HH E hr ds M R ⟨S, H, V, n, rfl, hS, hV, n1, n2, hH, hn, hp⟩
  have a2 := hS.a2
  have a9 := hS.a9
  have k2 := hS.k2
  have k9 := hS.k9
  have ea : S.a = (S.a.toNat : Int) := by omega
  refine as_cons (as_set 5 q__law_is_outside.nd (ae_nat N NA hr (by decide) (v_ 0) (v_ 2) hS n1 n2 fun h b on hb => ?_))
  by_cases hh : h ≤ H
  · refine as_one (as_ret (ae_or (ae_cmpM (ae_npr N PHE hr (by decide) (v_ 5) ⟨S, h, b, rfl, (v_ 3).val ⟨false, cmp_gt.eq (decide_eq_false (by omega)), ?_⟩⟩))))
    refine ⟨false, rfl, nft, fun _ => ae_one (ae_cmpM (ae_g GU hr (by decide) (aa_cons ((v_ 1).val (aa_cons ((av_ndI N (v_ 5)).val (aa_cons (ae_bin ((v_ 3).val (ae_npr N PHE hr (by decide) (v_ 5) ⟨S, h, b, rfl, bv_sub (aa_nil (ak_nil ⟨rfl, S.a.toNat, b, H - h, by rw [← ea, show ((H - h : Nat) : Int) = (H : Int) - (h : Int) by omega], k2, k9, by omega, (v_ 4).val ⟨true, cmp_neI.eq ?_, .ok hp⟩⟩))⟩))))))))))⟩
    have := out_br (s := item S.sp) hS.k2 (fun j => (hS.ll.item j).1) hV on hn hh
    have hne : ((b / S.a.toNat ^ (H - h) : Nat) : Int) ≠ (V : Int) := fun e => this (Int.ofNat.inj e)
    rw [decide_eq_false hne]
    rfl
  · refine as_one (as_ret (ae_or (ae_cmpM (ae_npr N PHE hr (by decide) (v_ 5) ⟨S, h, b, rfl, (v_ 3).val ⟨true, cmp_gt.eq (decide_eq_true (by omega)), ?_⟩⟩))))
    exact ⟨true, rfl, fun _ => .ok hp, ntf⟩
abbrev GOut (P : Program) (w : World) (K : PySem.W.Frag) (mg : Str → Option Value) (base : Heap) (C : Addr) : Prop := Gd P w K mg base 9 "_law_is_outside" [] fun ds _ => aOut C ds
/-! ### _law_right -/
theorem lt_bd {S : Sc} (hS : GoodS S) (h3 : ∀ i, item S.sp i ≤ 3) (l3 : ∀ i, item S.lv i ≤ 3) {H V : Nat} (hH : H ≤ 4) (hV : 0 < V) (hV3 : V < 2 ^ 320) : 0 ≤ ltS S H V ∧ ltS S H V + 100000 < 2 ^ 2000 := by
  refine ⟨stt_nn hS.k2 hS.s0 hS.l0 hS.lp, ?_⟩
  have h1 : ltS S H V ≤ 3 * (1 + 3 * (lf S.a.toNat H V : Int)) := stt_bd hS.k2 hS.s0 hS.l0 h3 l3 (by decide) H V
  have e : lf S.a.toNat H V = V * S.a.toNat ^ H := if_neg (by omega)
  have h2 : S.a.toNat ^ H ≤ 9 ^ 4 := Nat.le_trans (Nat.pow_le_pow_left hS.k9 H) (Nat.pow_le_pow_right (by decide) hH)
  have h3 : V * S.a.toNat ^ H ≤ 2 ^ 320 * 9 ^ 4 := Nat.mul_le_mul (Nat.le_of_lt hV3) h2
  rw [← e] at h3
  generalize lf S.a.toNat H V = x at *
  have h4 : 9 * (2 ^ 320 * 9 ^ 4) + 200000 < 2 ^ 2000 := by decide +kernel
  have h5 : ((2 : Int) ^ 2000) = ((2 ^ 2000 : Nat) : Int) := by rw [Int.natCast_pow]; rfl
  rw [h5]
  generalize (2 : Nat) ^ 2000 = q at *
  generalize (2 : Nat) ^ 320 * 9 ^ 4 = r at *
  omega
def aRgt (C : Addr) : ASp := fun ds M R => ∃ (S : Sc) (H V : Nat), ds = [scV C S, .int S.a, .lst ((insL (brL S.a.toNat (item S.lv) H 0)).map trV), .int (H : Int), .int (V : Int)] ∧ GoodS S ∧ (∀ i, item S.sp i ≤ 3) ∧ (∀ i, item S.lv i ≤ 3) ∧ 0 < V ∧ V < 2 ^ 320 ∧ H ≤ 4 ∧ R (.bl true) M
theorem b__law_right (B : Bt mg) (N : NdT K mg CN CS CB) (I : NMk P w K mg base C CS CB) (NA : NAt P w K mg base C CN CS CB) (PFL : NPr P w K mg base CS CB "first_label" 6 (aPfl C CS CB)) (PEL : NPr P w K mg base CS CB "end_label" 8 (aPel C CS CB)) (GBZ : GBsz P w K mg base C) (GIN : GIsn P w K mg base C CS CB) (GLP : GLpa P w K mg base C) (GO : GOut P w K mg base C) : BodyOk P w K mg base 10 f n__law_right "_law_right" (defScope s__law_right) (defBody s__law_right) (aRgt C) := by
  rintro cdv A outer s0 HH E hr ds M R ⟨S, H, V, rfl, hS, hs3, hl3, hV, hV3, hH, hp⟩
  have a2 := hS.a2
  have a9 := hS.a9
  have k2 := hS.k2
  have k9 := hS.k9
  have ea : S.a = (S.a.toNat : Int) := by omega
  obtain ⟨hlst, hsz⟩ := brL_lst (s := item S.sp) k2 hS.l0 H 0
  have h50 := siz_50 k2 k9 (fun i => ⟨hS.l0 i, hl3 i⟩) hS.lp hH
  have hpos := szS_pos hS H
  have hsz : ((insL (brL S.a.toNat (item S.lv) H 0)).length : Int) = szS S H := hsz
  have h50 : szS S H ≤ 50000 := h50
  generalize insL (brL S.a.toNat (item S.lv) H 0) = L at *
  have hlen : (L.map trV).length = L.length := List.length_map _
  obtain ⟨hb0, hb1⟩ := lt_bd hS hs3 hl3 hH hV hV3
  have hV4 : V < 2 ^ 4000 := Nat.lt_of_lt_of_le hV3 (Nat.pow_le_pow_right (by decide) (by decide))
  have eel : elS S H V = ltS S H V + szS S H := if_neg (by omega)
  refine as_cons (as_set 5 q__law_right.nd (ae_branch N I hr (by decide) ((v_ 0).val ((v_ 3).val ((v_ 4).val ⟨S, H, V, rfl, rfl, rfl, by omega, hV, ?_⟩)))))
  refine as_cons (as_par 6 7 q__law_right.nd rfl (by decide) (aa_cons (ae_npr N PFL hr (by decide) (v_ 5) ⟨S, H, V, rfl, hS, by omega, hV4, aa_cons ((show aV _ _ _ _ (.int (1 + (L.length : Int) / 12)) from by rw [← hlen]; exact (av_add i_ (av_fdivU (av_lenN B.len (v_ 2) (by first | exact .iT _ | exact .iL _ | exact .mT _ _ | exact .mL _ _ | exact .cm 0 rfl | exact .cm 1 rfl | exact .cm 2 rfl | exact .c 0 rfl | exact .c 1 rfl | exact .t _ | exact .l _ | exact .cm _ (by assumption))) i_ (by first | exact .inl ⟨by omega, by omega⟩ | assumption)))).val (aa_nil ⟨_, _, rfl, ?_⟩))⟩)))
  refine as_cons (as_if (at_w (aw_or (at_cmpM (ae_bin (ae_bin (ae_npr N PEL hr (by decide) (v_ 5) ⟨S, H, V, rfl, hS, by omega, hV4, (v_ 6).val (bv_sub (i_.val (bv_add ((av_lenN B.len (v_ 2) (by first | exact .iT _ | exact .iL _ | exact .mT _ _ | exact .mL _ _ | exact .cm 0 rfl | exact .cm 1 rfl | exact .cm 2 rfl | exact .c 0 rfl | exact .c 1 rfl | exact .t _ | exact .l _ | exact .cm _ (by assumption))).val ⟨false, cmp_neI.eq ?_, nft, fun _ => ?_⟩))))⟩)))))))
  · rw [eel, hsz, decide_eq_true (by omega)]
    rfl
  refine aw_or1 (at_cmpM (ae_g GBZ hr (by decide) (aa_cons ((v_ 0).val (aa_cons ((v_ 3).val (aa_nil (ak_nil ⟨rfl, S, H, rfl, hS, by omega, (av_lenN B.len (v_ 2) (by first | exact .iT _ | exact .iL _ | exact .mT _ _ | exact .mL _ _ | exact .cm 0 rfl | exact .cm 1 rfl | exact .cm 2 rfl | exact .c 0 rfl | exact .c 1 rfl | exact .t _ | exact .l _ | exact .cm _ (by assumption))).val ⟨false, cmp_neI.eq ?_, nft, fun _ => as_nil ?_⟩⟩))))))))
  · rw [hsz, decide_eq_true rfl]
    rfl
  have hstep : RgB 0 (L.length : Int) (1 + (L.length : Int) / 12) := by
    refine ⟨by decide, by decide, by omega, by omega, by omega, by omega⟩
  have hrl : rgN 0 (L.length : Int) (1 + (L.length : Int) / 12) ≤ L.length := by
    have := rgN_le (i := 0) (j := (L.length : Int)) (c := 1 + (L.length : Int) / 12) (by omega)
    omega
  have hlt : ∀ t, t < rgN 0 (L.length : Int) (1 + (L.length : Int) / 12) → (0 : Int) + (t : Int) * (1 + (L.length : Int) / 12) < (L.length : Int) := fun t ht => rgN_lt (by omega) ht
  refine as_cons (as_forW PassesOwn.never rfl (aj_ai (R := fun M1 => M1 = M) (ai_lst (xs := (List.range (rgN 0 (L.length : Int) (1 + (L.length : Int) / 12))).map (fun t => Val.int (0 + (t : Nat) * (1 + (L.length : Int) / 12))) ++ cutA ((List.range (L.length : Int).toNat).map fun i => Val.int (i : Nat)) (some (-1)) none) ((av_catL (av_listRg3 B.list B.range rfl i_ (by rw [← hlen]; exact (av_lenN B.len (v_ 2) (by first | exact .iT _ | exact .iL _ | exact .mT _ _ | exact .mL _ _ | exact .cm 0 rfl | exact .cm 1 rfl | exact .cm 2 rfl | exact .c 0 rfl | exact .c 1 rfl | exact .t _ | exact .l _ | exact .cm _ (by assumption)))) (v_ 7) hstep (by omega)) (av_sliceL (av_listRg B.list B.range rfl (by rw [← hlen]; exact (av_lenN B.len (v_ 2) (by first | exact .iT _ | exact .iL _ | exact .mT _ _ | exact .mL _ _ | exact .cm 0 rfl | exact .cm 1 rfl | exact .cm 2 rfl | exact .c 0 rfl | exact .c 1 rfl | exact .t _ | exact .l _ | exact .cm _ (by assumption)))) (by omega) (by omega)) (ao_some (av_neg i_)) ao_none (.self _)) (.self _) (.self _) ?_).val ⟨rfl, rfl⟩)) fun M1 e => ?_))
  · have h1 : (cutA ((List.range (L.length : Int).toNat).map fun i => Val.int (i : Nat)) (some (-1)) none).length ≤ L.length := by
      unfold cutA
      rw [List.length_take, List.length_drop, List.length_map, List.length_range, Int.toNat_natCast]
      omega
    refine sz ?_
    rw [List.length_map, List.length_range]
    omega
  subst e
  have hys : ∀ y ∈ ((List.range (rgN 0 (L.length : Int) (1 + (L.length : Int) / 12))).map (fun t => Val.int (0 + (t : Nat) * (1 + (L.length : Int) / 12))) ++ cutA ((List.range (L.length : Int).toNat).map fun i => Val.int (i : Nat)) (some (-1)) none), ∃ t : Nat, y = .int (t : Int) ∧ t < L.length := fun y hy => by
    rcases List.mem_append.mp hy with z | z
    · obtain ⟨t, ht, rfl⟩ := List.mem_map.mp z
      have h1 := hlt t (List.mem_range.mp ht)
      have h2 : (0 : Int) ≤ (t : Int) * (1 + (L.length : Int) / 12) := Int.mul_nonneg (by omega) (by omega)
      exact ⟨(0 + (t : Int) * (1 + (L.length : Int) / 12)).toNat, by rw [Int.toNat_of_nonneg (by omega)], by omega⟩
    · have h1 := List.mem_of_mem_drop (List.mem_of_mem_take z)
      obtain ⟨i, hi, rfl⟩ := List.mem_map.mp h1
      have := List.mem_range.mp hi
      exact ⟨i, rfl, by omega⟩
  generalize (List.range (rgN 0 (L.length : Int) (1 + (L.length : Int) / 12))).map (fun t => Val.int (0 + (t : Nat) * (1 + (L.length : Int) / 12))) ++ cutA ((List.range (L.length : Int).toNat).map fun i => Val.int (i : Nat)) (some (-1)) none = ys at *
  refine ⟨fun i Γ M' => M' = M1 ∧ Γ = [some (scV C S), some (.int S.a), some (.lst (L.map trV)), some (.int (H : Int)), some (.int (V : Int)), some (ndV C CS CB S H V), some (.int (ltS S H V + 1)), none, none, none, none, none, none, none], ⟨_, _, ⟨rfl, rfl⟩, (by repeat' first | exact le_nil | refine le_skip ?_ | refine le_keep rfl ?_), (by repeat' first | exact List.Sublist.refl _ | exact List.sublist_append_right _ _ | apply List.Sublist.cons₂ | apply List.Sublist.cons)⟩, ?_, ?_⟩
  · rintro i Γ M' hi ⟨rfl, rfl⟩
    dsimp only
    obtain ⟨t, ey, ht⟩ := hys (ys.getD i .non) (by rw [List.getD_eq_getElem?_getD, List.getElem?_eq_getElem hi]; exact List.getElem_mem hi)
    rw [ey]
    have hx := hlst t L[t] (List.getElem?_eq_getElem ht)
    have hat : atI (L.map trV) (t : Int) = some (trV L[t]) := atI_nat (by rw [List.getElem?_map, List.getElem?_eq_getElem ht]; rfl)
    generalize L[t] = x at *
    obtain ⟨hon, hrest⟩ := hx.on k2 hV
    obtain ⟨sp, x1, x2, x3, x4, x5, x6⟩ := hx.ex
    obtain ⟨o, b, r⟩ := x
    dsimp only at hon hrest x1 x2 x3 x4 x5 x6
    rw [Nat.zero_mul, Nat.zero_add] at x3
    subst x3
    refine ag_name 8 q__law_right.nd ?_
    refine as_cons (as_asg (aE.val (av_ixL (v_ 2) (v_ 8) (.self _) hat) (ag_tup rfl (ags_cons (ag_name 9 q__law_right.nd (ags_cons (ag_name 10 q__law_right.nd (ags_cons (ag_name 11 q__law_right.nd (ags_nil ?_)))))))))) 
    refine as_cons (as_setv (d := .int ((V * S.a.toNat ^ 0 : Nat) : Int)) 12 q__law_right.nd ?_ ?_)
    · rw [Nat.pow_zero, Nat.mul_one]
      exact v_ 4
    have hk4 : S.a.toNat ^ (H - o) ≤ 9 ^ 4 := Nat.le_trans (Nat.pow_le_pow_left k9 _) (Nat.pow_le_pow_right (by decide) (by omega))
    refine as_cons (as_forW PassesOwn.never rfl (aj_range1 B.range ((av_sub (v_ 3) (v_ 9)).val ⟨_, rfl, by omega, by omega, ?_⟩)))
    rw [show ((H : Int) - (o : Int)).toNat = H - o by omega]
    refine ⟨fun j Γ M2 => M2 = M' ∧ Γ = [some (scV C S), some (.int S.a), some (.lst (L.map trV)), some (.int (H : Int)), some (.int (V : Int)), some (ndV C CS CB S H V), some (.int (ltS S H V + 1)), none, some (.int (t : Int)), some (.int (o : Int)), some (.int (b : Int)), some (.int r), some (.int ((V * S.a.toNat ^ j : Nat) : Int)), none], ⟨_, _, ⟨rfl, rfl⟩, (by repeat' first | exact le_nil | refine le_skip ?_ | refine le_keep rfl ?_), (by repeat' first | exact List.Sublist.refl _ | exact List.sublist_append_right _ _ | apply List.Sublist.cons₂ | apply List.Sublist.cons)⟩, ?_, ?_⟩
    · rintro j Γ M2 hj ⟨rfl, rfl⟩
      refine ag_name 13 q__law_right.nd ?_
      refine as_one (as_setv (d := .int ((V * S.a.toNat ^ (j + 1) : Nat) : Int)) 12 q__law_right.nd ?_ ⟨_, _, ⟨rfl, rfl⟩, (by repeat' first | exact le_nil | refine le_skip ?_ | refine le_keep rfl ?_), (by repeat' first | exact List.Sublist.refl _ | exact List.sublist_append_right _ _ | apply List.Sublist.cons₂ | apply List.Sublist.cons)⟩)
      rw [Nat.pow_succ, ← Nat.mul_assoc, Int.natCast_mul _ S.a.toNat, ← ea]
      exact av_mulU (v_ 12) (v_ 1) (.inl (.inr ⟨by omega, by omega⟩))
    rintro Γ M2 ⟨rfl, rfl⟩
    have hn1 : 1 ≤ ltS S H V + 1 + (t : Int) := by omega
    have hn2 : ltS S H V + 1 + (t : Int) < 2 ^ 2000 := by omega
    have hmb : V * S.a.toNat ^ (H - o) + b < 2 ^ 1900 := by
      have h1 : V * S.a.toNat ^ (H - o) ≤ 2 ^ 320 * 9 ^ 4 := Nat.mul_le_mul (Nat.le_of_lt hV3) hk4
      have h4 : 2 ^ 320 * 9 ^ 4 + 9 ^ 4 < 2 ^ 1900 := by decide +kernel
      generalize (2 : Nat) ^ 320 * 9 ^ 4 = q at *
      generalize (2 : Nat) ^ 1900 = q2 at *
      omega
    have hon : OnS S (ltS S H V + 1 + (t : Int)) o (V * S.a.toNat ^ (H - o) + b) := by
      have : (0 : Int) + (t : Int) = (t : Int) := Int.zero_add _
      rw [this] at hon
      exact hon
    have hrest : r = ltS S H V + 1 + (t : Int) - stt S.a.toNat (item S.sp) (item S.lv) o (V * S.a.toNat ^ (H - o) + b) := by
      have : (0 : Int) + (t : Int) = (t : Int) := Int.zero_add _
      rw [this] at hrest
      exact hrest
    refine as_cons (as_if (at_not (at_val (ae_g GIN hr (by decide) (aa_cons (ae_nat N NA hr (by decide) (v_ 0) (av_add (v_ 6) (v_ 8)) hS hn1 hn2 fun h' b' on' hb' => ?_))))))
    obtain ⟨rfl, rfl⟩ := On.uniq k2 hS.s0 hS.l0 hS.lp on' hon
    refine aa_cons ((v_ 9).val (aa_cons ((av_add (v_ 12) (v_ 10)).val (aa_nil (ak_nil ⟨rfl, S, h', V * S.a.toNat ^ (H - h') + b, by rw [Int.natCast_add], by omega, hmb, true, rfl, nft, fun _ => as_nil ?_⟩)))))
    refine as_one (as_if (at_cmpM (ae_ixV (ae_g GLP hr (by decide) (aa_cons ((v_ 0).val (aa_cons ((av_add (v_ 6) (v_ 8)).val (aa_nil (ak_nil ⟨rfl, S, _, rfl, hS, hn1, hn2, fun st x r' hst hpth => i_.val ⟨2, .int r', rfl, .t rfl, (v_ 11).val ⟨false, cmp_neI.eq ?_, nft, fun _ => as_nil ?_⟩⟩⟩))))))))))
    · obtain ⟨e1, e2⟩ := On.uniq k2 hS.s0 hS.l0 hS.lp hpth.on hon
      have e3 := hpth.rest
      rw [e1, e2] at e3
      rw [e3, hrest, decide_eq_true rfl]
      rfl
    · exact ⟨_, _, ⟨rfl, rfl⟩, (by repeat' first | exact le_nil | refine le_skip ?_ | refine le_keep rfl ?_), (by repeat' first | exact List.Sublist.refl _ | exact List.sublist_append_right _ _ | apply List.Sublist.cons₂ | apply List.Sublist.cons)⟩
  · rintro Γ M' ⟨rfl, rfl⟩
    by_cases hb : 1 < ltS S H V + 1
    · refine as_cons (as_if (at_w (aw_and (at_cmp (v_ 6) i_ (cmp_gt.eq (decide_eq_true hb)) ⟨fun _ => ?_, ntf⟩))))
      refine aw_and1 (at_not (at_val (ae_g GO hr (by decide) (aa_cons ((v_ 0).val (aa_cons ((v_ 1).val (aa_cons ((av_sub (v_ 6) i_).val (aa_cons ((v_ 3).val (aa_cons ((v_ 4).val (aa_nil (ak_nil ⟨rfl, S, H, V, _, rfl, hS, hV, by omega, by omega, hH, .inl (by omega), true, rfl, nft, fun _ => as_nil ?_⟩)))))))))))))))
      refine as_one (as_ret (ae_g GO hr (by decide) (aa_cons ((v_ 0).val (aa_cons ((v_ 1).val (aa_cons (ae_bin (ae_npr N PEL hr (by decide) (v_ 5) ⟨S, H, V, rfl, hS, by omega, hV4, i_.val (bv_add (aa_cons ((v_ 3).val (aa_cons ((v_ 4).val (aa_nil (ak_nil ⟨rfl, S, H, V, _, rfl, hS, hV, ?_, ?_, hH, .inr ?_, .ok hp⟩)))))))⟩)))))))))
      all_goals (rw [eel]; omega)
    · refine as_cons (as_if (at_w (aw_and (at_cmp (v_ 6) i_ (cmp_gt.eq (decide_eq_false hb)) ⟨nft, fun _ => ⟨nft, fun _ => as_nil ?_⟩⟩))))
      refine as_one (as_ret (ae_g GO hr (by decide) (aa_cons ((v_ 0).val (aa_cons ((v_ 1).val (aa_cons (ae_bin (ae_npr N PEL hr (by decide) (v_ 5) ⟨S, H, V, rfl, hS, by omega, hV4, i_.val (bv_add (aa_cons ((v_ 3).val (aa_cons ((v_ 4).val (aa_nil (ak_nil ⟨rfl, S, H, V, _, rfl, hS, hV, ?_, ?_, hH, .inr ?_, .ok hp⟩)))))))⟩)))))))))
      all_goals (rw [eel]; omega)
abbrev GRgt (P : Program) (w : World) (K : PySem.W.Frag) (mg : Str → Option Value) (base : Heap) (C : Addr) : Prop := Gd P w K mg base 11 "_law_right" [] fun ds _ => aRgt C ds
end
end K13
namespace K13
open PySem L2 Ab GenW Sm
section
variable {P : Program} {w : World} {K : PySem.W.Frag} {mg : Str → Option Value} {base : Heap} {k : Nat} {f C CN CS CB : Addr}
/-! ### _law_paths_right -/
theorem cut_from (xs : List Val) (i : Nat) : cutA xs (some (i : Int)) none = xs.drop i := by
  unfold cutA
  rw [HT.sIx_nat, HT.sIx_none]
  by_cases h : i ≤ xs.length
  · rw [Nat.min_eq_left h, List.take_of_length_le (by rw [List.length_drop]; omega)]
  · rw [Nat.min_eq_right (by omega), List.drop_of_length_le (Nat.le_refl _), List.drop_of_length_le (by omega), List.take_nil]
/-- the last steps of the path of a label of the branch (H, V) -/
theorem tail_of {S : Sc} (hS : GoodS S) {H V st : Nat} {t : Nat} {L : List Tri} {ds : List Nat} {r : Int} (hL : Lst S.a.toNat (item S.sp) (item S.lv) H 0 0 L) (ht : t < L.length) (hV : 0 < V) (p : PathS S (ltS S H V + 1 + (t : Int)) st ds r) : H ≤ st ∧ ds.drop (st - H) = pdg S.a.toNat (H - L[t].1) L[t].2.1 ∧ r = L[t].2.2 := by
  have k2 := hS.k2
  have hx := hL t L[t] (List.getElem?_eq_getElem ht)
  generalize L[t] = x at *
  obtain ⟨hon, hrest⟩ := hx.on k2 hV
  obtain ⟨sp, x1, x2, x3, x4, x5, x6⟩ := hx.ex
  rw [Nat.zero_mul, Nat.zero_add] at x3
  rw [x3] at hon hrest ⊢
  have e0 : (0 : Int) + (t : Int) = (t : Int) := Int.zero_add _
  rw [e0] at hon hrest
  obtain ⟨e1, e2⟩ := On.uniq k2 hS.s0 hS.l0 hS.lp p.on hon
  obtain ⟨h1, h2⟩ := path_tail k2 p hV x1 x2 e1 e2
  have e3 := p.rest
  rw [e1, e2] at e3
  exact ⟨h1, h2, e3.trans hrest.symm⟩
def aPrt (C CS CB : Addr) : ASp := fun ds M R => ∃ (S : Sc) (H V V' : Nat), ds = [scV C S, .int (szS S H), .int (H : Int), ndV C CS CB S H V, ndV C CS CB S H V'] ∧ GoodS S ∧ (∀ i, item S.sp i ≤ 3) ∧ (∀ i, item S.lv i ≤ 3) ∧ 0 < V ∧ V < 2 ^ 320 ∧ 0 < V' ∧ V' < 2 ^ 320 ∧ H ≤ 4 ∧ R (.bl true) M
theorem b__law_paths_right (B : Bt mg) (N : NdT K mg CN CS CB) (PFL : NPr P w K mg base CS CB "first_label" 6 (aPfl C CS CB)) (GLP : GLpa P w K mg base C) : BodyOk P w K mg base 7 f n__law_paths_right "_law_paths_right" (defScope s__law_paths_right) (defBody s__law_paths_right) (aPrt C CS CB) := by
  rintro cdv A outer s0 HH E hr ds M R ⟨S, H, V, V', rfl, hS, hs3, hl3, hV, hV3, hV', hV3', hH, hp⟩
  have k2 := hS.k2
  have k9 := hS.k9
  obtain ⟨hlst, hsz⟩ := brL_lst (s := item S.sp) k2 hS.l0 H 0
  have h50 : szS S H ≤ 50000 := siz_50 k2 k9 (fun i => ⟨hS.l0 i, hl3 i⟩) hS.lp hH
  have hpos := szS_pos hS H
  have hsz : ((insL (brL S.a.toNat (item S.lv) H 0)).length : Int) = szS S H := hsz
  generalize insL (brL S.a.toNat (item S.lv) H 0) = L at *
  obtain ⟨hb0, hb1⟩ := lt_bd hS hs3 hl3 hH hV hV3
  obtain ⟨hb0', hb1'⟩ := lt_bd hS hs3 hl3 hH hV' hV3'
  have up : ∀ {x : Nat}, x < 2 ^ 320 → x < 2 ^ 4000 := fun {x} hx => Nat.lt_of_lt_of_le hx (Nat.pow_le_pow_right (by decide) (by decide))
  refine as_cons (as_par 5 6 q__law_paths_right.nd rfl (by decide) (aa_cons (ae_npr N PFL hr (by decide) (v_ 3) ⟨S, H, V, rfl, hS, by omega, up hV3, aa_cons (ae_npr N PFL hr (by decide) (v_ 4) ⟨S, H, V', rfl, hS, by omega, up hV3', aa_nil ⟨_, _, rfl, ?_⟩⟩)⟩)))
  refine as_cons (as_forW PassesOwn.never rfl (aj_range3 B.range (aA.val (avs_cons i_ (avs_cons (v_ 1) (avs_cons (av_add i_ (av_fdivU (v_ 1) i_ (by first | exact .inl ⟨by omega, by omega⟩ | assumption))) avs_nil))) ⟨_, _, _, rfl, ⟨by decide, by decide, by omega, by omega, by omega, by omega⟩, ?_⟩)))
  refine ⟨fun i Γ M' => M' = M ∧ Γ = [some (scV C S), none, some (.int (H : Int)), none, none, some (.int (ltS S H V + 1)), some (.int (ltS S H V' + 1)), none, none, none, none], ⟨_, _, ⟨rfl, rfl⟩, (by repeat' first | exact le_nil | refine le_skip ?_ | refine le_keep rfl ?_), (by repeat' first | exact List.Sublist.refl _ | exact List.sublist_append_right _ _ | apply List.Sublist.cons₂ | apply List.Sublist.cons)⟩, ?_, ?_⟩
  · rintro i Γ M' hi ⟨rfl, rfl⟩
    have h1 := rgN_lt (show 1 ≤ 1 + szS S H / 12 by omega) hi
    have h2 : (0 : Int) ≤ (i : Int) * (1 + szS S H / 12) := Int.mul_nonneg (by omega) (by omega)
    obtain ⟨t, et, ht⟩ : ∃ t : Nat, (0 : Int) + (i : Int) * (1 + szS S H / 12) = (t : Int) ∧ t < L.length := ⟨(0 + (i : Int) * (1 + szS S H / 12)).toNat, by omega, by omega⟩
    dsimp only
    rw [et]
    refine ag_name 7 q__law_paths_right.nd ?_
    refine as_cons (as_par 8 9 q__law_paths_right.nd rfl (by decide) (aa_cons (ae_g GLP hr (by decide) (aa_cons ((v_ 0).val (aa_cons ((av_add (v_ 5) (v_ 7)).val (aa_nil (ak_nil ⟨rfl, S, _, rfl, hS, by omega, by omega, fun st x r hst hx => aa_cons (ae_g GLP hr (by decide) (aa_cons ((v_ 0).val (aa_cons ((av_add (v_ 6) (v_ 7)).val (aa_nil (ak_nil ⟨rfl, S, _, rfl, hS, by omega, by omega, fun st' x' r' hst' hx' => aa_nil ⟨_, _, rfl, ?_⟩⟩)))))))⟩)))))))) )
    obtain ⟨g1, g2, g3⟩ := tail_of hS hlst ht hV hx
    obtain ⟨g1', g2', g3'⟩ := tail_of hS hlst ht hV' hx'
    have cutD : ∀ (x : List Nat) (st : Nat), H ≤ st → cutA ((x.map Int.ofNat).map .int) (some ((st : Int) - (H : Int))) none = ((x.drop (st - H)).map Int.ofNat).map .int := fun x st h => by
      rw [show (st : Int) - (H : Int) = ((st - H : Nat) : Int) by omega, cut_from, List.map_drop, List.map_drop]
    refine as_cons (as_setv (d := dgT (x.drop (st - H))) 10 q__law_paths_right.nd ?_ ?_)
    · show aV _ _ _ _ (.tup _)
      rw [← cutD x st g1]
      exact av_sliceT (av_ixT (v_ 8) i_ rfl) (ao_some (av_sub (av_ixT (v_ 8) i_ rfl) (v_ 2))) ao_none
    refine as_one (as_if (at_w (aw_or (at_cmp (v_ 10) (d2 := dgT (x'.drop (st' - H))) ?_ (cmp_neV (v := dgT (x.drop (st - H))) (w := dgT (x'.drop (st' - H))) (.self _) (.self _) ?_ (dt_ints _) ?_ hr.u64) ⟨nft, fun _ => aw_or1 (at_cmp (av_ixT (v_ 8) i_ rfl) (av_ixT (v_ 9) i_ rfl) (cmp_neI.eq ?_) ⟨nft, fun _ => as_nil ⟨_, _, ⟨rfl, rfl⟩, (by repeat' first | exact le_nil | refine le_skip ?_ | refine le_keep rfl ?_), (by repeat' first | exact List.Sublist.refl _ | exact List.sublist_append_right _ _ | apply List.Sublist.cons₂ | apply List.Sublist.cons)⟩⟩)⟩))))
    · show aV _ _ _ _ (.tup _)
      rw [← cutD x' st' g1']
      exact av_sliceT (av_ixT (v_ 9) i_ rfl) (ao_some (av_sub (av_ixT (v_ 9) i_ rfl) (v_ 2))) ao_none
    · rw [g2, g2']
    · show dpV (.tup _) ≤ 60
      unfold dpV
      rw [dp_ints]
      decide
    · rw [g3, g3', decide_eq_true rfl]
      rfl
  · rintro Γ M' ⟨rfl, rfl⟩
    exact as_one (as_ret (ae_bl (.ok hp)))
abbrev GPrt (P : Program) (w : World) (K : PySem.W.Frag) (mg : Str → Option Value) (base : Heap) (C CS CB : Addr) : Prop := Gd P w K mg base 8 "_law_paths_right" [] fun ds _ => aPrt C CS CB ds
end
end K13
namespace K13
open PySem L2 Ab GenW Sm
section
variable {P : Program} {w : World} {K : PySem.W.Frag} {mg : Str → Option Value} {base : Heap} {k : Nat} {f C CN CS CB : Addr}
def aLaw0 : ASp := fun ds M R => ∃ ns : List Int, ds = [.lst (ns.map .int)] ∧ ns.length ≤ 63 ∧ R (.bl true) M
theorem b_law (B : Bt mg) (N : NdT K mg CN CS CB) (I : NMk P w K mg base C CS CB) (g__law_streams : GSt3 P w K mg base) (g__law_next : GNx3 P w K mg base) (GP : GPlan P w K mg base C) (GG : GGrt P w K mg base) (GI : GInd P w K mg base) (GR : GRgt P w K mg base C) (GT : GPrt P w K mg base C CS CB) : BodyOk P w K mg base 12 f n_law "law" (defScope s_law) (defBody s_law) aLaw0 := by
  rintro cdv A outer s0 H E hr ds M R ⟨ns, rfl, hl, hp⟩
  refine as_cons (as_forW PassesOwn.never rfl (aj_lst (ae_g g__law_streams hr (by decide) (aa_cons ((v_ 0).val (aa_nil (ak_nil ⟨rfl, ns, rfl, hl, fun ps pne pl6 => ⟨_, rfl, ?_⟩⟩)))))))
  rw [List.length_map]
  refine ⟨fun j Γ M0 => ∃ q : List (Addr × Nat), (∀ p ∈ ps, ∃ N, (p, N) ∈ q) ∧ (∀ x ∈ q, x.2 ≤ 600 + 200 * j) ∧ M0 = qM q M ∧ Γ = [some (.lst (ns.map .int)), none, none, none, none, none, none, none, none, none], ⟨_, _, ⟨ps.map fun p => (p, 600), fun p hp => ⟨600, List.mem_map.mpr ⟨p, hp, rfl⟩⟩, fun x hx => ?_, rfl, rfl⟩, (by repeat' first | exact le_nil | refine le_skip ?_ | refine le_keep rfl ?_), (by repeat' first | exact List.Sublist.refl _ | exact List.sublist_append_right _ _ | apply List.Sublist.cons₂ | apply List.Sublist.cons)⟩, ?_, ?_⟩
  · obtain ⟨p, _, rfl⟩ := List.mem_map.mp hx
    exact Nat.le_refl _
  · rintro j Γ M0 hj ⟨q, hq1, hq2, rfl, rfl⟩
    show aG _ _ ((ps.map Val.ptr).getD j .non) _ _ _
    rw [show (ps.map Val.ptr).getD j .non = .ptr ps[j] by rw [List.getD_eq_getElem?_getD, List.getElem?_map, List.getElem?_eq_getElem hj]; rfl]
    obtain ⟨n0, hN⟩ := hq1 ps[j] (List.getElem_mem _)
    generalize hpp : ps[j] = p at *
    obtain ⟨i, hi⟩ := List.mem_iff_getElem?.mp hN
    have hN6 : n0 ≤ 2000 := by have := hq2 _ hN; omega
    have fin : ∀ (N' : Nat) (M1 : Mem), N' ≤ n0 + 200 → M1 = (p, st3 p N') :: qM (q.eraseIdx i) M → Wk (fun Γ M1 => ∃ q : List (Addr × Nat), (∀ p ∈ ps, ∃ N, (p, N) ∈ q) ∧ (∀ x ∈ q, x.2 ≤ 600 + 200 * (j + 1)) ∧ M1 = qM q M ∧ Γ = [some (.lst (ns.map .int)), none, none, none, none, none, none, none, none, none]) [some (.lst (ns.map .int)), none, none, none, none, none, none, none, none, none] M1 := by
      rintro N' _ hN' rfl
      refine ⟨_, _, ⟨(p, N') :: q.eraseIdx i, fun p' hp' => ?_, fun x hx => ?_, rfl, rfl⟩, (by repeat' first | exact le_nil | refine le_skip ?_ | refine le_keep rfl ?_), (by repeat' first | exact List.Sublist.refl _ | exact List.sublist_append_right _ _ | apply List.Sublist.cons₂ | apply List.Sublist.cons)⟩
      · obtain ⟨N', h'⟩ := hq1 p' hp'
        rcases List.mem_cons.mp ((perm_at hi).subset h') with e | e
        · cases e
          exact ⟨_, List.mem_cons_self⟩
        · exact ⟨N', List.mem_cons_of_mem _ e⟩
      · rcases List.mem_cons.mp hx with e | e
        · rw [e]
          have := hq2 _ hN
          show N' ≤ _
          have : n0 ≤ 600 + 200 * j := this
          omega
        · have := hq2 x (List.mem_of_mem_eraseIdx e)
          omega
    refine ag_name 1 q_law.nd ?_
    refine as_perm (q_front hi) ?_
    generalize hQ : qM (q.eraseIdx i) M = Q at *
    refine as_cons (as_asg (ae_g GP hr (by decide) (aa_cons ((v_ 1).val (aa_cons (i_.val (aa_nil (ak_nil ⟨rfl, p, 0, n0, 5, rfl, rfl, by omega, by decide, by decide, fun a s l a2 a9 hs hl => ag_tup rfl (ags_cons (ag_name 2 q_law.nd (ags_cons (ag_name 3 q_law.nd (ags_cons (ag_name 4 q_law.nd (ags_cons (ag_name 5 q_law.nd (ags_nil ?_)))))))))⟩))))))))
    have bS := sq3_bs (a := a) (by omega) (by omega) hs hl
    have hS := bS.g
    have hs3 : ∀ i, item (⟨a, nf s, nf l⟩ : Sc).sp i ≤ 3 := bS.b1
    have hl3 : ∀ i, item (⟨a, nf s, nf l⟩ : Sc).lv i ≤ 3 := bS.b2
    have hlne : l.2 ≠ [] := hl.sq.ne
    have eil : item l = item (⟨a, nf s, nf l⟩ : Sc).lv := funext fun i => ((nf_spec hlne).it i).symm
    have eA : (⟨a, nf s, nf l⟩ : Sc).a = a := rfl
    generalize (⟨a, nf s, nf l⟩ : Sc) = S at *
    subst eA
    have a2 := hS.a2
    have k2 := hS.k2
    have k9 := hS.k9
    have ea : S.a = (S.a.toNat : Int) := by omega
    show aSs _ _ [some (.lst (ns.map .int)), some (.ptr p), some (.int S.a), some (stV s), some (stV l), some (scV C S), none, none, none, none] ((p, st3 p (n0 + 19)) :: Q) _
    refine as_le (Γ' := [some (.lst (ns.map .int)), some (.ptr p), some (.int S.a), none, some (stV l), some (scV C S), none, none, none, none]) (by repeat' first | exact le_nil | refine le_skip ?_ | refine le_keep rfl ?_) ?_
    have hmost : ∀ {z : Int}, z = (if S.a = 2 then 5 else 3) → 1 ≤ z ∧ z ≤ 5 := fun {z} e => by rw [e]; split <;> omega
    refine as_cons (as_set 6 q_law.nd (ae_g g__law_next hr (by decide) (aa_cons ((v_ 1).val (aa_cons (aE.val (d := .int (if S.a = 2 then 5 else 3)) ?_ (aa_nil (ak_nil ⟨rfl, p, 0, n0 + 19, (if S.a = 2 then 5 else 3), rfl, rfl, by omega, (hmost rfl).1, by have := (hmost rfl).2; omega, fun hi0 h0 h1 => ?_⟩))))))))
    · by_cases z : S.a = 2
      · rw [if_pos z]
        exact ae_ifp (tp_cmp (v_ 2) i_ cp_eq) (fun _ => i_.val ⟨rfl, rfl⟩) (fun c => absurd z c)
      · rw [if_neg z]
        exact ae_ifp (tp_cmp (v_ 2) i_ cp_eq) (fun c => absurd c z) (fun _ => i_.val ⟨rfl, rfl⟩)
    have h5 := (hmost rfl).2
    obtain ⟨Hh, rfl⟩ : ∃ Hh : Nat, hi0 = (Hh : Int) := ⟨hi0.toNat, by omega⟩
    have hH : Hh ≤ 4 := by omega
    show aSs _ _ [some (.lst (ns.map .int)), some (.ptr p), some (.int S.a), none, some (stV l), some (scV C S), some (.int (Hh : Int)), none, none, none] ((p, st3 p (n0 + 20)) :: Q) _
    refine as_cons (as_set 7 q_law.nd (ae_g GI hr (by decide) (aa_cons ((v_ 2).val (aa_cons ((v_ 4).val (aa_cons ((v_ 6).val (aa_nil (ak_nil ⟨rfl, S.a.toNat, Hh, l, by rw [← ea], k2, k9, hlne, hH, fun i => by rw [eil]; exact ⟨hS.l0 i, hl3 i⟩, by rw [eil]; exact hS.lp, ?_⟩))))))))))
    rw [eil]
    obtain ⟨hlst, hsz⟩ := brL_lst (s := item S.sp) k2 hS.l0 Hh 0
    have hsz : szS S Hh = (((insL (brL S.a.toNat (item S.lv) Hh 0)).map trV).length : Int) := by rw [List.length_map]; exact hsz.symm
    refine as_le (Γ' := [some (.lst (ns.map .int)), some (.ptr p), some (.int S.a), none, none, some (scV C S), some (.int (Hh : Int)), some (.lst ((insL (brL S.a.toNat (item S.lv) Hh 0)).map trV)), none, none]) (by repeat' first | exact le_nil | refine le_skip ?_ | refine le_keep rfl ?_) ?_
    refine as_cons (as_par 8 9 q_law.nd rfl (by decide) (aa_cons (ae_bin (i_.val (ae_g g__law_next hr (by decide) (aa_cons ((v_ 1).val (aa_cons ((av_mulU i_ (v_ 2) (by first | exact .inl (.inl ⟨by omega, by omega⟩) | exact .inl (.inr ⟨by omega, by omega⟩) | assumption)).val (aa_nil (ak_nil ⟨rfl, p, 0, n0 + 20, 3 * S.a, rfl, rfl, by omega, by omega, by omega, fun x x0 x1 => bv_add (aa_cons (ae_g GG hr (by decide) (aa_cons ((v_ 1).val (aa_cons (i_.val (aa_nil (ak_nil ⟨rfl, p, 0, n0 + 21, 60, rfl, rfl, by omega, by decide, by decide, fun F N' f1 f2 hN' => aa_nil ⟨_, _, rfl, ?_⟩⟩))))))))⟩)))))))))) )
    obtain ⟨V, hV⟩ : ∃ V : Nat, 1 + x = (V : Int) := ⟨(1 + x).toNat, by omega⟩
    rw [hV]
    have hV0 : 0 < V := by omega
    have hV3 : V < 2 ^ 320 := Nat.lt_of_lt_of_le (show V < 2 ^ 6 by omega) (Nat.pow_le_pow_right (by decide) (by decide))
    show aSs _ _ _ ((p, st3 p N') :: Q) _
    have rgt : ∀ {Vx : Nat}, 0 < Vx → Vx < 2 ^ 320 → ∀ {M R}, R (.bl true) M → aRgt C [scV C S, .int S.a, .lst ((insL (brL S.a.toNat (item S.lv) Hh 0)).map trV), .int (Hh : Int), .int (Vx : Int)] M R := fun {Vx} h1 h2 {M R} h => ⟨S, Hh, Vx, rfl, hS, hs3, hl3, h1, h2, hH, h⟩
    refine as_cons (as_if (at_w (aw_or (at_not (at_val (ae_g GR hr (by decide) (aa_cons ((v_ 5).val (aa_cons ((v_ 2).val (aa_cons ((v_ 7).val (aa_cons ((v_ 6).val (aa_cons ((v_ 8).val (aa_nil (ak_nil ⟨rfl, rgt hV0 hV3 ⟨true, rfl, nft, fun _ => ?_⟩⟩)))))))))))))))) ))
    refine aw_or1 (at_not (at_val (ae_g GR hr (by decide) (aa_cons ((v_ 5).val (aa_cons ((v_ 2).val (aa_cons ((v_ 7).val (aa_cons ((v_ 6).val (aa_cons ((v_ 9).val (aa_nil (ak_nil ⟨rfl, rgt f1 f2 ⟨true, rfl, nft, fun _ => as_nil ?_⟩⟩)))))))))))))) )
    refine as_one (as_if (at_not (at_val (ae_g GT hr (by decide) (aa_cons ((v_ 5).val (aa_cons (aE.val (d := .int (szS S Hh)) ?_ (aa_cons ((v_ 6).val (aa_cons (ae_branch N I hr (by decide) ((v_ 5).val ((v_ 6).val ((v_ 8).val ⟨S, Hh, V, rfl, rfl, rfl, by omega, hV0, ?_⟩)))))))))))))))
    · rw [hsz]
      exact (av_lenN B.len (v_ 7) (by first | exact .iT _ | exact .iL _ | exact .mT _ _ | exact .mL _ _ | exact .cm 0 rfl | exact .cm 1 rfl | exact .cm 2 rfl | exact .c 0 rfl | exact .c 1 rfl | exact .t _ | exact .l _ | exact .cm _ (by assumption)))
    refine aa_cons (ae_branch N I hr (by decide) ((v_ 5).val ((v_ 6).val ((v_ 9).val ⟨S, Hh, F, rfl, rfl, rfl, by omega, f1, aa_nil (ak_nil ⟨rfl, S, Hh, V, F, rfl, hS, hs3, hl3, hV0, hV3, f1, f2, hH, true, rfl, nft, fun _ => as_nil ?_⟩)⟩))))
    obtain ⟨Γ1, M1, h1, l1, s1⟩ := fin N' _ (by omega) rfl
    exact ⟨Γ1, M1, h1, l1.trans (by repeat' first | exact le_nil | refine le_skip ?_ | refine le_keep rfl ?_), s1⟩
  · rintro Γ M0 ⟨q, _, _, rfl, rfl⟩
    exact as_one (as_ret (ae_bl (.drops (.ok hp))))
end
end K13
namespace K13
open PySem L2 Ab Sm
theorem gd_pos {P : Program} {w : World} {K : PySem.W.Frag} {mg : Str → Option Value} {base : Heap} {x x' qual : Str} {params : Arguments} {body : List Stmt} {sc : Scope} {kws : List (Str × V)} {N ps : List Str} {k : Nat} {s0 : ASp} {f : Addr} {fd : FuncData} (F : FunD K x qual params body sc [] kws f fd) (S : FnScope N ps sc)
    (h : ∀ (kV doc pm : Value) (an : Option Addr) (cdv ct : Value) (us : List Value), us.length = ps.length → bindArgs (PySem.W.fnOf x qual params body sc .none kV doc pm an cdv ct) ⟨us, []⟩ = pure (ps.zip us))
    (len : ∀ ds M R, s0 ds M R → ds.length = ps.length) (hb : BodyOk P w K mg base k f N qual sc body s0) (hm : mg x' = some (.ref f)) : Gd P w K mg base (k + 1) x' [] (fun ds _ => s0 ds) := ⟨⟨f, fnx_pos' F S h len hb, hm, F.kp⟩⟩
theorem allX {l : PySem.W.OpenLaw} {w : World} {K : PySem.W.Frag} {h : Heap} {mg : Str → Option Value} {fa : Addr} (X : K.In h) (G : h.Ns mainGlobals mg) (hfa : mg "law" = some (.ref fa))
    {tt0 : Tok}
    {tt1 : Tok}
    {tt2 : Tok}
    {tt3 : Tok}
    {C : Addr}
    {D0 : Addr} {w1 w2 : Value}
    {fx1 : Addr} {odx1 anx1 : Option Addr} {slx1 : Array (Option Value)} {ocx1 dcx1 pmx1 cdx1 ctx1 : Value}
    {T2 : Addr} {tc2 : Value} {td2 : Option Addr} {tsl2 : Array (Option Value)} {k02 : Nat}
    {fx2 : Addr} {odx2 anx2 : Option Addr} {slx2 : Array (Option Value)} {ocx2 kVx2 dcx2 pmx2 cdx2 ctx2 : Value}
    {fx3 : Addr} {odx3 anx3 : Option Addr} {slx3 : Array (Option Value)} {ocx3 kVx3 dcx3 pmx3 cdx3 ctx3 : Value}
    {fx4 : Addr} {odx4 anx4 : Option Addr} {slx4 : Array (Option Value)} {ocx4 kVx4 dcx4 pmx4 cdx4 ctx4 : Value}
    {fx5 : Addr} {odx5 anx5 : Option Addr} {slx5 : Array (Option Value)} {ocx5 kVx5 dcx5 pmx5 cdx5 ctx5 : Value}
    {fx6 : Addr} {odx6 anx6 : Option Addr} {slx6 : Array (Option Value)} {ocx6 kVx6 dcx6 pmx6 cdx6 ctx6 : Value}
    {fx7 : Addr} {odx7 anx7 : Option Addr} {slx7 : Array (Option Value)} {ocx7 kVx7 dcx7 pmx7 cdx7 ctx7 : Value}
    {pSx7 : Addr} {rSx7 : List Value}
    {fx8 : Addr} {odx8 anx8 : Option Addr} {slx8 : Array (Option Value)} {ocx8 kVx8 dcx8 pmx8 cdx8 ctx8 : Value}
    {fx9 : Addr} {odx9 anx9 : Option Addr} {slx9 : Array (Option Value)} {ocx9 kVx9 dcx9 pmx9 cdx9 ctx9 : Value}
    {fx10 : Addr} {odx10 anx10 : Option Addr} {slx10 : Array (Option Value)} {ocx10 kVx10 dcx10 pmx10 cdx10 ctx10 : Value}
    {fx11 : Addr} {odx11 anx11 : Option Addr} {slx11 : Array (Option Value)} {ocx11 kVx11 dcx11 pmx11 cdx11 ctx11 : Value}
    {fx12 : Addr} {odx12 anx12 : Option Addr} {slx12 : Array (Option Value)} {ocx12 kVx12 dcx12 pmx12 cdx12 ctx12 : Value}
    {pNx12 : Addr} {rNx12 : List Value}
    {fx13 : Addr} {odx13 anx13 : Option Addr} {slx13 : Array (Option Value)} {ocx13 kVx13 dcx13 pmx13 cdx13 ctx13 : Value}
    {pNx13 : Addr} {rNx13 : List Value}
    {fx14 : Addr} {odx14 anx14 : Option Addr} {slx14 : Array (Option Value)} {ocx14 kVx14 dcx14 pmx14 cdx14 ctx14 : Value}
    {pNx14 : Addr} {rNx14 : List Value}
    {CN : Addr} {tmN : Tok}
    {fx15 : Addr} {odx15 anx15 : Option Addr} {slx15 : Array (Option Value)} {ocx15 kVx15 dcx15 pmx15 cdx15 ctx15 : Value}
    {fx16 : Addr} {odx16 anx16 : Option Addr} {slx16 : Array (Option Value)} {ocx16 kVx16 dcx16 pmx16 cdx16 ctx16 : Value}
    {fx17 : Addr} {odx17 anx17 : Option Addr} {slx17 : Array (Option Value)} {ocx17 kVx17 dcx17 pmx17 cdx17 ctx17 : Value}
    {fx18 : Addr} {odx18 anx18 : Option Addr} {slx18 : Array (Option Value)} {ocx18 kVx18 dcx18 pmx18 cdx18 ctx18 : Value}
    {fx19 : Addr} {odx19 anx19 : Option Addr} {slx19 : Array (Option Value)} {ocx19 kVx19 dcx19 pmx19 cdx19 ctx19 : Value}
    {fx20 : Addr} {odx20 anx20 : Option Addr} {slx20 : Array (Option Value)} {ocx20 kVx20 dcx20 pmx20 cdx20 ctx20 : Value}
    {CSp : Addr}
    {CBr : Addr}
    {fx21 : Addr} {odx21 anx21 : Option Addr} {slx21 : Array (Option Value)} {ocx21 kVx21 dcx21 pmx21 cdx21 ctx21 : Value}
    {fx22 ccx22 cdax22 : Addr} {odx22 cldx22 cddx22 : Option Addr} {slx22 cslx22 ccsx22 : Array (Option Value)} {ocx22 dcx22 pmx22 ctx22 c0x22 cclx22 : Value} {vsx22 : Array Value} {flx22 : Str} {tfx22 : Tok}
    {cdtCSp : ClassData}
    {fx23 ccx23 cdax23 : Addr} {odx23 cldx23 cddx23 : Option Addr} {slx23 cslx23 ccsx23 : Array (Option Value)} {ocx23 dcx23 pmx23 ctx23 c0x23 cclx23 : Value} {vsx23 : Array Value} {flx23 : Str} {tfx23 : Tok}
    {cdtCBr : ClassData}
    {fx24 : Addr} {odx24 anx24 : Option Addr} {slx24 : Array (Option Value)} {ocx24 kVx24 dcx24 pmx24 cdx24 ctx24 : Value}
    {pSx24 : Addr} {rSx24 : List Value}
    {fx25 : Addr} {odx25 anx25 : Option Addr} {slx25 : Array (Option Value)} {ocx25 kVx25 dcx25 pmx25 cdx25 ctx25 : Value}
    {fx26 : Addr} {odx26 anx26 : Option Addr} {slx26 : Array (Option Value)} {ocx26 kVx26 dcx26 pmx26 cdx26 ctx26 : Value}
    {fx27 : Addr} {odx27 anx27 : Option Addr} {slx27 : Array (Option Value)} {ocx27 kVx27 dcx27 pmx27 cdx27 ctx27 : Value}
    {pNx27 : Addr} {rNx27 : List Value}
    {fx28 : Addr} {odx28 anx28 : Option Addr} {slx28 : Array (Option Value)} {ocx28 kVx28 dcx28 pmx28 cdx28 ctx28 : Value}
    {pNx28 : Addr} {rNx28 : List Value}
    {fx29 : Addr} {odx29 anx29 : Option Addr} {slx29 : Array (Option Value)} {ocx29 kVx29 dcx29 pmx29 cdx29 ctx29 : Value}
    {pNx29 : Addr} {rNx29 : List Value}
    {fx30 : Addr} {odx30 anx30 : Option Addr} {slx30 : Array (Option Value)} {ocx30 kVx30 dcx30 pmx30 cdx30 ctx30 : Value}
    {fx31 : Addr} {odx31 anx31 : Option Addr} {slx31 : Array (Option Value)} {ocx31 kVx31 dcx31 pmx31 cdx31 ctx31 : Value}
    {fx32 : Addr} {odx32 anx32 : Option Addr} {slx32 : Array (Option Value)} {ocx32 kVx32 dcx32 pmx32 cdx32 ctx32 : Value}
    {fx33 : Addr} {odx33 anx33 : Option Addr} {slx33 : Array (Option Value)} {ocx33 kVx33 dcx33 pmx33 cdx33 ctx33 : Value}
    {fx34 : Addr} {odx34 anx34 : Option Addr} {slx34 : Array (Option Value)} {ocx34 kVx34 dcx34 pmx34 cdx34 ctx34 : Value}
    {fx35 : Addr} {odx35 anx35 : Option Addr} {slx35 : Array (Option Value)} {ocx35 kVx35 dcx35 pmx35 cdx35 ctx35 : Value}
    {fx36 : Addr} {odx36 anx36 : Option Addr} {slx36 : Array (Option Value)} {ocx36 kVx36 dcx36 pmx36 cdx36 ctx36 : Value}
    {fx37 : Addr} {odx37 anx37 : Option Addr} {slx37 : Array (Option Value)} {ocx37 kVx37 dcx37 pmx37 cdx37 ctx37 : Value}
    {pSx37 : Addr} {rSx37 : List Value}
    {fx38 pCx38 : Addr} {rCx38 : List Value} {odx38 anx38 : Option Addr} {slx38 : Array (Option Value)} {ocx38 dcx38 pmx38 cdx38 ctx38 kVx38 : Value}
    {fx39 : Addr} {odx39 anx39 : Option Addr} {slx39 : Array (Option Value)} {ocx39 kVx39 dcx39 pmx39 cdx39 ctx39 : Value}
    {fx40 : Addr} {odx40 anx40 : Option Addr} {slx40 : Array (Option Value)} {ocx40 kVx40 dcx40 pmx40 cdx40 ctx40 : Value}
    {pNx40 : Addr} {rNx40 : List Value}
    {fx41 : Addr} {odx41 anx41 : Option Addr} {slx41 : Array (Option Value)} {ocx41 kVx41 dcx41 pmx41 cdx41 ctx41 : Value}
    {fx42 : Addr} {odx42 anx42 : Option Addr} {slx42 : Array (Option Value)} {ocx42 kVx42 dcx42 pmx42 cdx42 ctx42 : Value}
    {fx43 : Addr} {odx43 anx43 : Option Addr} {slx43 : Array (Option Value)} {ocx43 kVx43 dcx43 pmx43 cdx43 ctx43 : Value}
    {fx44 : Addr} {odx44 anx44 : Option Addr} {slx44 : Array (Option Value)} {ocx44 kVx44 dcx44 pmx44 cdx44 ctx44 : Value}
    {fx45 : Addr} {odx45 anx45 : Option Addr} {slx45 : Array (Option Value)} {ocx45 kVx45 dcx45 pmx45 cdx45 ctx45 : Value}
    {fx46 : Addr} {odx46 anx46 : Option Addr} {slx46 : Array (Option Value)} {ocx46 kVx46 dcx46 pmx46 cdx46 ctx46 : Value}
    {fx47 : Addr} {odx47 anx47 : Option Addr} {slx47 : Array (Option Value)} {ocx47 kVx47 dcx47 pmx47 cdx47 ctx47 : Value}
    {fx48 : Addr} {odx48 anx48 : Option Addr} {slx48 : Array (Option Value)} {ocx48 kVx48 dcx48 pmx48 cdx48 ctx48 : Value}
    {fx49 : Addr} {odx49 anx49 : Option Addr} {slx49 : Array (Option Value)} {ocx49 kVx49 dcx49 pmx49 cdx49 ctx49 : Value}
    {fx50 : Addr} {odx50 anx50 : Option Addr} {slx50 : Array (Option Value)} {ocx50 kVx50 dcx50 pmx50 cdx50 ctx50 : Value}
    {fx51 : Addr} {odx51 anx51 : Option Addr} {slx51 : Array (Option Value)} {ocx51 kVx51 dcx51 pmx51 cdx51 ctx51 : Value}
    {fx52 : Addr} {odx52 anx52 : Option Addr} {slx52 : Array (Option Value)} {ocx52 kVx52 dcx52 pmx52 cdx52 ctx52 : Value}
    {fx53 : Addr} {odx53 anx53 : Option Addr} {slx53 : Array (Option Value)} {ocx53 kVx53 dcx53 pmx53 cdx53 ctx53 : Value}
    {fx54 : Addr} {odx54 anx54 : Option Addr} {slx54 : Array (Option Value)} {ocx54 kVx54 dcx54 pmx54 cdx54 ctx54 : Value}
    (u0 : PySem.W.nsIn K mainGlobals "FRONT_LIMIT" = some (some (.int 12 tt0)))
    (u1 : PySem.W.nsIn K mainGlobals "LOOP_LIMIT" = some (some (.int 6 tt1)))
    (u2 : PySem.W.nsIn K mainGlobals "LABEL_LIMIT" = some (some (.int 1000000 tt2)))
    (u3 : PySem.W.nsIn K mainGlobals "ARITY_LIMIT" = some (some (.int 9 tt3)))
    (aC : PySem.W.nsIn K mainGlobals "Schedule" = some (some (.ref C)))
    (pgC : PySem.W.plainGet K C Str.empty = true)
    (hdC : PySem.W.hasDictIn K C = true)
    (poC : PySem.W.plainOver K C = true)
    (saC : PySem.W.findIn K (.ref C) "__setattr__" = some (some (.builtin "object.__setattr__")))
    (mkC : PySem.W.makesIn K C = true)
    (kcC : PySem.W.keepIn K (.ref C) = true)
    (nC0 : PySem.W.findIn K (.ref C) "own_arity" = some none)
    (nC1 : PySem.W.findIn K (.ref C) "own_spine" = some none)
    (nC2 : PySem.W.findIn K (.ref C) "own_levels" = some none)
    (e1C : PySem.W.findIn K (.ref C) "__class__" = some (some (.builtin "object.__class__")))
    (e2C : PySem.W.specialIn K (.builtin "object.__class__") "__get__" = some (some (.builtin "getset_descriptor.__get__")))
    (e3C : PySem.W.takesIn K (.builtin "object.__class__") = some true)
    (e4C : PySem.W.mroIn K C (.type "object") = some true)
    (e6C : PySem.W.findIn K (.ref C) "__ne__" = some (some (.builtin "object.__ne__")))
    (e7C : PySem.W.subIn K (.ref C) (.type "object") = some true)
    (ax1 : PySem.W.nsIn K mainGlobals "is_integer_schedules" = some (some (.ref fx1)))
    (lx1 : K.lookup fx1 = some ⟨ocx1, odx1, .func (PySem.W.fnOf "is_integer" "is_integer" (defArgs s_is_integer) (defBody s_is_integer) (defScope s_is_integer) .none (.ref D0) dcx1 pmx1 anx1 cdx1 ctx1), slx1⟩)
    (cx1 : PySem.W.codeIn K cdx1 "is_integer" = true)
    (kx1 : PySem.W.keepIn K (.ref fx1) = true)
    (d1 : PySem.W.nsIn K D0 "low" = some (some w1))
    (d2 : PySem.W.nsIn K D0 "high" = some (some w2))
    (ax2 : PySem.W.nsIn K mainGlobals "check_integer" = some (some (.ref fx2)))
    (lx2 : K.lookup fx2 = some ⟨ocx2, odx2, .func (PySem.W.fnOf "check_integer" "check_integer" (defArgs s_check_integer) (defBody s_check_integer) (defScope s_check_integer) (.ref T2) kVx2 dcx2 pmx2 anx2 cdx2 ctx2), slx2⟩)
    (cx2 : PySem.W.codeIn K cdx2 "check_integer" = true)
    (kx2 : PySem.W.keepIn K (.ref fx2) = true)
    (dx2 : K.lookup T2 = some ⟨tc2, td2, .seq #[.none] k02, tsl2⟩)
    (ax3 : PySem.W.nsIn K mainGlobals "are_items" = some (some (.ref fx3)))
    (lx3 : K.lookup fx3 = some ⟨ocx3, odx3, .func (PySem.W.fnOf "are_items" "are_items" (defArgs s_are_items) (defBody s_are_items) (defScope s_are_items) .none kVx3 dcx3 pmx3 anx3 cdx3 ctx3), slx3⟩)
    (cx3 : PySem.W.codeIn K cdx3 "are_items" = true)
    (kx3 : PySem.W.keepIn K (.ref fx3) = true)
    (ax4 : PySem.W.nsIn K mainGlobals "shortest_loop" = some (some (.ref fx4)))
    (lx4 : K.lookup fx4 = some ⟨ocx4, odx4, .func (PySem.W.fnOf "shortest_loop" "shortest_loop" (defArgs s_shortest_loop) (defBody s_shortest_loop) (defScope s_shortest_loop) .none kVx4 dcx4 pmx4 anx4 cdx4 ctx4), slx4⟩)
    (cx4 : PySem.W.codeIn K cdx4 "shortest_loop" = true)
    (kx4 : PySem.W.keepIn K (.ref fx4) = true)
    (ax5 : PySem.W.nsIn K mainGlobals "normal_form" = some (some (.ref fx5)))
    (lx5 : K.lookup fx5 = some ⟨ocx5, odx5, .func (PySem.W.fnOf "normal_form" "normal_form" (defArgs s_normal_form) (defBody s_normal_form) (defScope s_normal_form) .none kVx5 dcx5 pmx5 anx5 cdx5 ctx5), slx5⟩)
    (cx5 : PySem.W.codeIn K cdx5 "normal_form" = true)
    (kx5 : PySem.W.keepIn K (.ref fx5) = true)
    (ax6 : PySem.W.nsIn K mainGlobals "stream_item" = some (some (.ref fx6)))
    (lx6 : K.lookup fx6 = some ⟨ocx6, odx6, .func (PySem.W.fnOf "stream_item" "stream_item" (defArgs s_stream_item) (defBody s_stream_item) (defScope s_stream_item) .none kVx6 dcx6 pmx6 anx6 cdx6 ctx6), slx6⟩)
    (cx6 : PySem.W.codeIn K cdx6 "stream_item" = true)
    (kx6 : PySem.W.keepIn K (.ref fx6) = true)
    (rd : PySem.W.readsIn K C (.type "type") = true)
    (ga : PySem.W.specialIn K (.ref C) "__getattribute__" = some (some (.builtin "type.__getattribute__")))
    (ax7 : PySem.W.findCls K (.ref C) (.type "type") "is_stream" = some (.get (.builtin "staticmethod.__get__") (.ref pSx7) .none (.ref C)))
    (bx7 : PySem.W.recIn K pSx7 "staticmethod" = some (.ref fx7 :: rSx7))
    (lx7 : K.lookup fx7 = some ⟨ocx7, odx7, .func (PySem.W.fnOf "is_stream" "Schedule.is_stream" (defArgs c_Schedule_is_stream) (defBody c_Schedule_is_stream) (defScope c_Schedule_is_stream) .none kVx7 dcx7 pmx7 anx7 cdx7 ctx7), slx7⟩)
    (cx7 : PySem.W.codeIn K cdx7 "Schedule.is_stream" = true)
    (kx7 : PySem.W.keepIn K (.ref fx7) = true)
    (ax8 : PySem.W.findIn K (.ref C) "__init__" = some (some (.ref fx8)))
    (ix8 : PySem.W.isFn K (.ref fx8) = true)
    (lx8 : K.lookup fx8 = some ⟨ocx8, odx8, .func (PySem.W.fnOf "__init__" "Schedule.__init__" (defArgs c_Schedule___init__) (defBody c_Schedule___init__) (defScope c_Schedule___init__) .none kVx8 dcx8 pmx8 anx8 cdx8 ctx8), slx8⟩)
    (cx8 : PySem.W.codeIn K cdx8 "Schedule.__init__" = true)
    (kx8 : PySem.W.keepIn K (.ref fx8) = true)
    (ax9 : PySem.W.findIn K (.ref C) "spine_at" = some (some (.ref fx9)))
    (ix9 : PySem.W.isFn K (.ref fx9) = true)
    (lx9 : K.lookup fx9 = some ⟨ocx9, odx9, .func (PySem.W.fnOf "spine_at" "Schedule.spine_at" (defArgs c_Schedule_spine_at) (defBody c_Schedule_spine_at) (defScope c_Schedule_spine_at) .none kVx9 dcx9 pmx9 anx9 cdx9 ctx9), slx9⟩)
    (cx9 : PySem.W.codeIn K cdx9 "Schedule.spine_at" = true)
    (kx9 : PySem.W.keepIn K (.ref fx9) = true)
    (ax10 : PySem.W.findIn K (.ref C) "level_at" = some (some (.ref fx10)))
    (ix10 : PySem.W.isFn K (.ref fx10) = true)
    (lx10 : K.lookup fx10 = some ⟨ocx10, odx10, .func (PySem.W.fnOf "level_at" "Schedule.level_at" (defArgs c_Schedule_level_at) (defBody c_Schedule_level_at) (defScope c_Schedule_level_at) .none kVx10 dcx10 pmx10 anx10 cdx10 ctx10), slx10⟩)
    (cx10 : PySem.W.codeIn K cdx10 "Schedule.level_at" = true)
    (kx10 : PySem.W.keepIn K (.ref fx10) = true)
    (ax11 : PySem.W.findIn K (.ref C) "__eq__" = some (some (.ref fx11)))
    (ix11 : PySem.W.isFn K (.ref fx11) = true)
    (lx11 : K.lookup fx11 = some ⟨ocx11, odx11, .func (PySem.W.fnOf "__eq__" "Schedule.__eq__" (defArgs c_Schedule___eq__) (defBody c_Schedule___eq__) (defScope c_Schedule___eq__) .none kVx11 dcx11 pmx11 anx11 cdx11 ctx11), slx11⟩)
    (cx11 : PySem.W.codeIn K cdx11 "Schedule.__eq__" = true)
    (kx11 : PySem.W.keepIn K (.ref fx11) = true)
    (ax12 : PySem.W.findIn K (.ref C) "arity" = some (some (.ref pNx12)))
    (gx12 : PySem.W.specialIn K (.ref pNx12) "__get__" = some (some (.builtin "property.__get__")))
    (tx12 : PySem.W.takesIn K (.ref pNx12) = some true)
    (bx12 : PySem.W.recIn K pNx12 "property" = some (.ref fx12 :: rNx12))
    (lx12 : K.lookup fx12 = some ⟨ocx12, odx12, .func (PySem.W.fnOf "arity" "Schedule.arity" (defArgs c_Schedule_arity) (defBody c_Schedule_arity) (defScope c_Schedule_arity) .none kVx12 dcx12 pmx12 anx12 cdx12 ctx12), slx12⟩)
    (cx12 : PySem.W.codeIn K cdx12 "Schedule.arity" = true)
    (kx12 : PySem.W.keepIn K (.ref fx12) = true)
    (ax13 : PySem.W.findIn K (.ref C) "spine" = some (some (.ref pNx13)))
    (gx13 : PySem.W.specialIn K (.ref pNx13) "__get__" = some (some (.builtin "property.__get__")))
    (tx13 : PySem.W.takesIn K (.ref pNx13) = some true)
    (bx13 : PySem.W.recIn K pNx13 "property" = some (.ref fx13 :: rNx13))
    (lx13 : K.lookup fx13 = some ⟨ocx13, odx13, .func (PySem.W.fnOf "spine" "Schedule.spine" (defArgs c_Schedule_spine) (defBody c_Schedule_spine) (defScope c_Schedule_spine) .none kVx13 dcx13 pmx13 anx13 cdx13 ctx13), slx13⟩)
    (cx13 : PySem.W.codeIn K cdx13 "Schedule.spine" = true)
    (kx13 : PySem.W.keepIn K (.ref fx13) = true)
    (ax14 : PySem.W.findIn K (.ref C) "levels" = some (some (.ref pNx14)))
    (gx14 : PySem.W.specialIn K (.ref pNx14) "__get__" = some (some (.builtin "property.__get__")))
    (tx14 : PySem.W.takesIn K (.ref pNx14) = some true)
    (bx14 : PySem.W.recIn K pNx14 "property" = some (.ref fx14 :: rNx14))
    (lx14 : K.lookup fx14 = some ⟨ocx14, odx14, .func (PySem.W.fnOf "levels" "Schedule.levels" (defArgs c_Schedule_levels) (defBody c_Schedule_levels) (defScope c_Schedule_levels) .none kVx14 dcx14 pmx14 anx14 cdx14 ctx14), slx14⟩)
    (cx14 : PySem.W.codeIn K cdx14 "Schedule.levels" = true)
    (kx14 : PySem.W.keepIn K (.ref fx14) = true)
    (aCN : PySem.W.nsIn K mainGlobals "Node" = some (some (.ref CN)))
    (rCN : PySem.W.readsIn K CN (.type "type") = true)
    (gCN : PySem.W.specialIn K (.ref CN) "__getattribute__" = some (some (.builtin "type.__getattribute__")))
    (vCN : PySem.W.findCls K (.ref CN) (.type "type") "MAX_HEIGHT" = some (.val (.int 3000 tmN)))
    (ax15 : PySem.W.nsIn K mainGlobals "is_integer_nodes" = some (some (.ref fx15)))
    (lx15 : K.lookup fx15 = some ⟨ocx15, odx15, .func (PySem.W.fnOf "is_integer" "is_integer" (defArgs s_is_integer_nodes) (defBody s_is_integer_nodes) (defScope s_is_integer_nodes) .none kVx15 dcx15 pmx15 anx15 cdx15 ctx15), slx15⟩)
    (cx15 : PySem.W.codeIn K cdx15 "is_integer" = true)
    (kx15 : PySem.W.keepIn K (.ref fx15) = true)
    (ax16 : PySem.W.nsIn K mainGlobals "need_schedule" = some (some (.ref fx16)))
    (lx16 : K.lookup fx16 = some ⟨ocx16, odx16, .func (PySem.W.fnOf "need_schedule" "need_schedule" (defArgs s_need_schedule) (defBody s_need_schedule) (defScope s_need_schedule) .none kVx16 dcx16 pmx16 anx16 cdx16 ctx16), slx16⟩)
    (cx16 : PySem.W.codeIn K cdx16 "need_schedule" = true)
    (kx16 : PySem.W.keepIn K (.ref fx16) = true)
    (ax17 : PySem.W.nsIn K mainGlobals "sizes_up_to" = some (some (.ref fx17)))
    (lx17 : K.lookup fx17 = some ⟨ocx17, odx17, .func (PySem.W.fnOf "sizes_up_to" "sizes_up_to" (defArgs s_sizes_up_to) (defBody s_sizes_up_to) (defScope s_sizes_up_to) .none kVx17 dcx17 pmx17 anx17 cdx17 ctx17), slx17⟩)
    (cx17 : PySem.W.codeIn K cdx17 "sizes_up_to" = true)
    (kx17 : PySem.W.keepIn K (.ref fx17) = true)
    (ax18 : PySem.W.nsIn K mainGlobals "end_of_stage" = some (some (.ref fx18)))
    (lx18 : K.lookup fx18 = some ⟨ocx18, odx18, .func (PySem.W.fnOf "end_of_stage" "end_of_stage" (defArgs s_end_of_stage) (defBody s_end_of_stage) (defScope s_end_of_stage) .none kVx18 dcx18 pmx18 anx18 cdx18 ctx18), slx18⟩)
    (cx18 : PySem.W.codeIn K cdx18 "end_of_stage" = true)
    (kx18 : PySem.W.keepIn K (.ref fx18) = true)
    (ax19 : PySem.W.nsIn K mainGlobals "need_height" = some (some (.ref fx19)))
    (lx19 : K.lookup fx19 = some ⟨ocx19, odx19, .func (PySem.W.fnOf "need_height" "need_height" (defArgs s_need_height) (defBody s_need_height) (defScope s_need_height) .none kVx19 dcx19 pmx19 anx19 cdx19 ctx19), slx19⟩)
    (cx19 : PySem.W.codeIn K cdx19 "need_height" = true)
    (kx19 : PySem.W.keepIn K (.ref fx19) = true)
    (ax20 : PySem.W.nsIn K mainGlobals "branch_size" = some (some (.ref fx20)))
    (lx20 : K.lookup fx20 = some ⟨ocx20, odx20, .func (PySem.W.fnOf "branch_size" "branch_size" (defArgs s_branch_size) (defBody s_branch_size) (defScope s_branch_size) .none kVx20 dcx20 pmx20 anx20 cdx20 ctx20), slx20⟩)
    (cx20 : PySem.W.codeIn K cdx20 "branch_size" = true)
    (kx20 : PySem.W.keepIn K (.ref fx20) = true)
    (aCSp : PySem.W.nsIn K mainGlobals "SpineNode" = some (some (.ref CSp)))
    (pgCSp : PySem.W.plainGet K CSp Str.empty = true)
    (hdCSp : PySem.W.hasDictIn K CSp = true)
    (poCSp : PySem.W.plainOver K CSp = true)
    (saCSp : PySem.W.findIn K (.ref CSp) "__setattr__" = some (some (.builtin "object.__setattr__")))
    (mkCSp : PySem.W.makesIn K CSp = true)
    (kcCSp : PySem.W.keepIn K (.ref CSp) = true)
    (nCSp0 : PySem.W.findIn K (.ref CSp) "own_schedule" = some none)
    (nCSp1 : PySem.W.findIn K (.ref CSp) "own_height" = some none)
    (nCSp2 : PySem.W.findIn K (.ref CSp) "index" = some none)
    (e1CSp : PySem.W.findIn K (.ref CSp) "__class__" = some (some (.builtin "object.__class__")))
    (e2CSp : PySem.W.specialIn K (.builtin "object.__class__") "__get__" = some (some (.builtin "getset_descriptor.__get__")))
    (e3CSp : PySem.W.takesIn K (.builtin "object.__class__") = some true)
    (e4CSp : PySem.W.mroIn K CSp (.type "object") = some true)
    (e6CSp : PySem.W.findIn K (.ref CSp) "__ne__" = some (some (.builtin "object.__ne__")))
    (e7CSp : PySem.W.subIn K (.ref CSp) (.type "object") = some true)
    (tyCSp : PySem.W.typeIn K (.ref CSp) = some (.type "type"))
    (suCSp : PySem.W.subIn K (.ref CSp) (.ref CN) = some true)
    (ssCSp : PySem.W.subIn K (.ref CSp) (.ref CSp) = some true)
    (aCBr : PySem.W.nsIn K mainGlobals "BranchNode" = some (some (.ref CBr)))
    (pgCBr : PySem.W.plainGet K CBr Str.empty = true)
    (hdCBr : PySem.W.hasDictIn K CBr = true)
    (poCBr : PySem.W.plainOver K CBr = true)
    (saCBr : PySem.W.findIn K (.ref CBr) "__setattr__" = some (some (.builtin "object.__setattr__")))
    (mkCBr : PySem.W.makesIn K CBr = true)
    (kcCBr : PySem.W.keepIn K (.ref CBr) = true)
    (nCBr0 : PySem.W.findIn K (.ref CBr) "own_schedule" = some none)
    (nCBr1 : PySem.W.findIn K (.ref CBr) "own_height" = some none)
    (nCBr2 : PySem.W.findIn K (.ref CBr) "index" = some none)
    (e1CBr : PySem.W.findIn K (.ref CBr) "__class__" = some (some (.builtin "object.__class__")))
    (e2CBr : PySem.W.specialIn K (.builtin "object.__class__") "__get__" = some (some (.builtin "getset_descriptor.__get__")))
    (e3CBr : PySem.W.takesIn K (.builtin "object.__class__") = some true)
    (e4CBr : PySem.W.mroIn K CBr (.type "object") = some true)
    (e6CBr : PySem.W.findIn K (.ref CBr) "__ne__" = some (some (.builtin "object.__ne__")))
    (e7CBr : PySem.W.subIn K (.ref CBr) (.type "object") = some true)
    (tyCBr : PySem.W.typeIn K (.ref CBr) = some (.type "type"))
    (suCBr : PySem.W.subIn K (.ref CBr) (.ref CN) = some true)
    (ssCBr : PySem.W.subIn K (.ref CBr) (.ref CBr) = some true)
    (hdCN : PySem.W.hasDictIn K CN = true)
    (tyCN : PySem.W.typeIn K (.ref CN) = some (.type "type"))
    (ssCN : PySem.W.subIn K (.ref CN) (.ref CN) = some true)
    (sSB : PySem.W.subIn K (.ref CSp) (.ref CBr) = some false)
    (sBS : PySem.W.subIn K (.ref CBr) (.ref CSp) = some false)
    (ax21 : PySem.W.findIn K (.ref CN) "__init__" = some (some (.ref fx21)))
    (ix21 : PySem.W.isFn K (.ref fx21) = true)
    (lx21 : K.lookup fx21 = some ⟨ocx21, odx21, .func (PySem.W.fnOf "__init__" "Node.__init__" (defArgs c_Node___init__) (defBody c_Node___init__) (defScope c_Node___init__) .none kVx21 dcx21 pmx21 anx21 cdx21 ctx21), slx21⟩)
    (cx21 : PySem.W.codeIn K cdx21 "Node.__init__" = true)
    (kx21 : PySem.W.keepIn K (.ref fx21) = true)
    (ax22 : PySem.W.findIn K (.ref CSp) "__init__" = some (some (.ref fx22)))
    (ix22 : PySem.W.isFn K (.ref fx22) = true)
    (lx22 : K.lookup fx22 = some ⟨ocx22, odx22, .func (PySem.W.fnX "__init__" "SpineNode.__init__" (defArgs c_SpineNode___init__) (defBody c_SpineNode___init__) (defScope c_SpineNode___init__) [(("__class__" : Str), ccx22)] .none .none dcx22 pmx22 none (.ref cdax22) ctx22), slx22⟩)
    (cx22 : PySem.W.codeIn K (.ref cdax22) "SpineNode.__init__" = true)
    (kx22 : PySem.W.keepIn K (.ref fx22) = true)
    (ex22 : K.lookup ccx22 = some ⟨c0x22, cldx22, .cell (some (.ref CSp)), cslx22⟩)
    (dx22 : K.lookup cdax22 = some ⟨cclx22, cddx22, .fields vsx22, ccsx22⟩)
    (vx22 : vsx22[2]? = some (.str flx22 tfx22))
    (wx22 : ((l.prog.main.file : Str) == flx22) = true)
    (supt : (l.prog.main.scope.names.lookup ("super" : Str)).isSome = false)
    (supo : PySem.W.nsIn K cStatics "thirdparty.any" = some none)
    (cdCSp : PySem.W.clsIn K CSp = some cdtCSp)
    (sbCSp : PySem.W.mroIn K CSp (.ref CSp) = some true)
    (sux22__init__ : PySem.W.ks_superIn K CSp CSp "__init__" = some (some (.ref fx21)))
    (tyx22__init__ : PySem.W.typeIn K (.ref fx21) = some (.type "function"))
    (fix22__init__ : PySem.W.fnIn K fx21 = true)
    (ax23 : PySem.W.findIn K (.ref CBr) "__init__" = some (some (.ref fx23)))
    (ix23 : PySem.W.isFn K (.ref fx23) = true)
    (lx23 : K.lookup fx23 = some ⟨ocx23, odx23, .func (PySem.W.fnX "__init__" "BranchNode.__init__" (defArgs c_BranchNode___init__) (defBody c_BranchNode___init__) (defScope c_BranchNode___init__) [(("__class__" : Str), ccx23)] .none .none dcx23 pmx23 none (.ref cdax23) ctx23), slx23⟩)
    (cx23 : PySem.W.codeIn K (.ref cdax23) "BranchNode.__init__" = true)
    (kx23 : PySem.W.keepIn K (.ref fx23) = true)
    (ex23 : K.lookup ccx23 = some ⟨c0x23, cldx23, .cell (some (.ref CBr)), cslx23⟩)
    (dx23 : K.lookup cdax23 = some ⟨cclx23, cddx23, .fields vsx23, ccsx23⟩)
    (vx23 : vsx23[2]? = some (.str flx23 tfx23))
    (wx23 : ((l.prog.main.file : Str) == flx23) = true)
    (cdCBr : PySem.W.clsIn K CBr = some cdtCBr)
    (sbCBr : PySem.W.mroIn K CBr (.ref CBr) = some true)
    (sux23__init__ : PySem.W.ks_superIn K CBr CBr "__init__" = some (some (.ref fx21)))
    (tyx23__init__ : PySem.W.typeIn K (.ref fx21) = some (.type "function"))
    (fix23__init__ : PySem.W.fnIn K fx21 = true)
    (ax24 : PySem.W.findCls K (.ref CN) (.type "type") "named" = some (.get (.builtin "staticmethod.__get__") (.ref pSx24) .none (.ref CN)))
    (bx24 : PySem.W.recIn K pSx24 "staticmethod" = some (.ref fx24 :: rSx24))
    (lx24 : K.lookup fx24 = some ⟨ocx24, odx24, .func (PySem.W.fnOf "named" "Node.named" (defArgs c_Node_named) (defBody c_Node_named) (defScope c_Node_named) .none kVx24 dcx24 pmx24 anx24 cdx24 ctx24), slx24⟩)
    (cx24 : PySem.W.codeIn K cdx24 "Node.named" = true)
    (kx24 : PySem.W.keepIn K (.ref fx24) = true)
    (ax25 : PySem.W.nsIn K mainGlobals "digits_of" = some (some (.ref fx25)))
    (lx25 : K.lookup fx25 = some ⟨ocx25, odx25, .func (PySem.W.fnOf "digits_of" "digits_of" (defArgs s_digits_of) (defBody s_digits_of) (defScope s_digits_of) .none kVx25 dcx25 pmx25 anx25 cdx25 ctx25), slx25⟩)
    (cx25 : PySem.W.codeIn K cdx25 "digits_of" = true)
    (kx25 : PySem.W.keepIn K (.ref fx25) = true)
    (ax26 : PySem.W.nsIn K mainGlobals "labels_before" = some (some (.ref fx26)))
    (lx26 : K.lookup fx26 = some ⟨ocx26, odx26, .func (PySem.W.fnOf "labels_before" "labels_before" (defArgs s_labels_before) (defBody s_labels_before) (defScope s_labels_before) .none kVx26 dcx26 pmx26 anx26 cdx26 ctx26), slx26⟩)
    (cx26 : PySem.W.codeIn K cdx26 "labels_before" = true)
    (kx26 : PySem.W.keepIn K (.ref fx26) = true)
    (ax27 : PySem.W.findIn K (.ref CSp) "schedule" = some (some (.ref pNx27)))
    (gx27 : PySem.W.specialIn K (.ref pNx27) "__get__" = some (some (.builtin "property.__get__")))
    (tx27 : PySem.W.takesIn K (.ref pNx27) = some true)
    (bx27 : PySem.W.recIn K pNx27 "property" = some (.ref fx27 :: rNx27))
    (lx27 : K.lookup fx27 = some ⟨ocx27, odx27, .func (PySem.W.fnOf "schedule" "Node.schedule" (defArgs c_Node_schedule) (defBody c_Node_schedule) (defScope c_Node_schedule) .none kVx27 dcx27 pmx27 anx27 cdx27 ctx27), slx27⟩)
    (cx27 : PySem.W.codeIn K cdx27 "Node.schedule" = true)
    (kx27 : PySem.W.keepIn K (.ref fx27) = true)
    (ax27CBr : PySem.W.findIn K (.ref CBr) "schedule" = some (some (.ref pNx27)))
    (ax28 : PySem.W.findIn K (.ref CSp) "height" = some (some (.ref pNx28)))
    (gx28 : PySem.W.specialIn K (.ref pNx28) "__get__" = some (some (.builtin "property.__get__")))
    (tx28 : PySem.W.takesIn K (.ref pNx28) = some true)
    (bx28 : PySem.W.recIn K pNx28 "property" = some (.ref fx28 :: rNx28))
    (lx28 : K.lookup fx28 = some ⟨ocx28, odx28, .func (PySem.W.fnOf "height" "Node.height" (defArgs c_Node_height) (defBody c_Node_height) (defScope c_Node_height) .none kVx28 dcx28 pmx28 anx28 cdx28 ctx28), slx28⟩)
    (cx28 : PySem.W.codeIn K cdx28 "Node.height" = true)
    (kx28 : PySem.W.keepIn K (.ref fx28) = true)
    (ax28CBr : PySem.W.findIn K (.ref CBr) "height" = some (some (.ref pNx28)))
    (ax29 : PySem.W.findIn K (.ref CSp) "first_label" = some (some (.ref pNx29)))
    (gx29 : PySem.W.specialIn K (.ref pNx29) "__get__" = some (some (.builtin "property.__get__")))
    (tx29 : PySem.W.takesIn K (.ref pNx29) = some true)
    (bx29 : PySem.W.recIn K pNx29 "property" = some (.ref fx29 :: rNx29))
    (lx29 : K.lookup fx29 = some ⟨ocx29, odx29, .func (PySem.W.fnOf "first_label" "Node.first_label" (defArgs c_Node_first_label) (defBody c_Node_first_label) (defScope c_Node_first_label) .none kVx29 dcx29 pmx29 anx29 cdx29 ctx29), slx29⟩)
    (cx29 : PySem.W.codeIn K cdx29 "Node.first_label" = true)
    (kx29 : PySem.W.keepIn K (.ref fx29) = true)
    (ax29CBr : PySem.W.findIn K (.ref CBr) "first_label" = some (some (.ref pNx29)))
    (ax30 : PySem.W.findIn K (.ref CSp) "child" = some (some (.ref fx30)))
    (ix30 : PySem.W.isFn K (.ref fx30) = true)
    (lx30 : K.lookup fx30 = some ⟨ocx30, odx30, .func (PySem.W.fnOf "child" "Node.child" (defArgs c_Node_child) (defBody c_Node_child) (defScope c_Node_child) .none kVx30 dcx30 pmx30 anx30 cdx30 ctx30), slx30⟩)
    (cx30 : PySem.W.codeIn K cdx30 "Node.child" = true)
    (kx30 : PySem.W.keepIn K (.ref fx30) = true)
    (ax30CBr : PySem.W.findIn K (.ref CBr) "child" = some (some (.ref fx30)))
    (ax31 : PySem.W.findIn K (.ref CSp) "children" = some (some (.ref fx31)))
    (ix31 : PySem.W.isFn K (.ref fx31) = true)
    (lx31 : K.lookup fx31 = some ⟨ocx31, odx31, .func (PySem.W.fnOf "children" "Node.children" (defArgs c_Node_children) (defBody c_Node_children) (defScope c_Node_children) .none kVx31 dcx31 pmx31 anx31 cdx31 ctx31), slx31⟩)
    (cx31 : PySem.W.codeIn K cdx31 "Node.children" = true)
    (kx31 : PySem.W.keepIn K (.ref fx31) = true)
    (ax31CBr : PySem.W.findIn K (.ref CBr) "children" = some (some (.ref fx31)))
    (ax32 : PySem.W.findIn K (.ref CSp) "__eq__" = some (some (.ref fx32)))
    (ix32 : PySem.W.isFn K (.ref fx32) = true)
    (lx32 : K.lookup fx32 = some ⟨ocx32, odx32, .func (PySem.W.fnOf "__eq__" "Node.__eq__" (defArgs c_Node___eq__) (defBody c_Node___eq__) (defScope c_Node___eq__) .none kVx32 dcx32 pmx32 anx32 cdx32 ctx32), slx32⟩)
    (cx32 : PySem.W.codeIn K cdx32 "Node.__eq__" = true)
    (kx32 : PySem.W.keepIn K (.ref fx32) = true)
    (ax32CBr : PySem.W.findIn K (.ref CBr) "__eq__" = some (some (.ref fx32)))
    (ax33 : PySem.W.findIn K (.ref CSp) "__repr__" = some (some (.ref fx33)))
    (ix33 : PySem.W.isFn K (.ref fx33) = true)
    (lx33 : K.lookup fx33 = some ⟨ocx33, odx33, .func (PySem.W.fnOf "__repr__" "SpineNode.__repr__" (defArgs c_SpineNode___repr__) (defBody c_SpineNode___repr__) (defScope c_SpineNode___repr__) .none kVx33 dcx33 pmx33 anx33 cdx33 ctx33), slx33⟩)
    (cx33 : PySem.W.codeIn K cdx33 "SpineNode.__repr__" = true)
    (kx33 : PySem.W.keepIn K (.ref fx33) = true)
    (ax34 : PySem.W.findIn K (.ref CBr) "__repr__" = some (some (.ref fx34)))
    (ix34 : PySem.W.isFn K (.ref fx34) = true)
    (lx34 : K.lookup fx34 = some ⟨ocx34, odx34, .func (PySem.W.fnOf "__repr__" "BranchNode.__repr__" (defArgs c_BranchNode___repr__) (defBody c_BranchNode___repr__) (defScope c_BranchNode___repr__) .none kVx34 dcx34 pmx34 anx34 cdx34 ctx34), slx34⟩)
    (cx34 : PySem.W.codeIn K cdx34 "BranchNode.__repr__" = true)
    (kx34 : PySem.W.keepIn K (.ref fx34) = true)
    (ax35 : PySem.W.nsIn K mainGlobals "path_inside" = some (some (.ref fx35)))
    (lx35 : K.lookup fx35 = some ⟨ocx35, odx35, .func (PySem.W.fnOf "path_inside" "path_inside" (defArgs s_path_inside) (defBody s_path_inside) (defScope s_path_inside) .none kVx35 dcx35 pmx35 anx35 cdx35 ctx35), slx35⟩)
    (cx35 : PySem.W.codeIn K cdx35 "path_inside" = true)
    (kx35 : PySem.W.keepIn K (.ref fx35) = true)
    (ax36 : PySem.W.nsIn K mainGlobals "path_of" = some (some (.ref fx36)))
    (lx36 : K.lookup fx36 = some ⟨ocx36, odx36, .func (PySem.W.fnOf "path_of" "path_of" (defArgs s_path_of) (defBody s_path_of) (defScope s_path_of) .none kVx36 dcx36 pmx36 anx36 cdx36 ctx36), slx36⟩)
    (cx36 : PySem.W.codeIn K cdx36 "path_of" = true)
    (kx36 : PySem.W.keepIn K (.ref fx36) = true)
    (ax37 : PySem.W.findCls K (.ref CN) (.type "type") "led" = some (.get (.builtin "staticmethod.__get__") (.ref pSx37) .none (.ref CN)))
    (bx37 : PySem.W.recIn K pSx37 "staticmethod" = some (.ref fx37 :: rSx37))
    (lx37 : K.lookup fx37 = some ⟨ocx37, odx37, .func (PySem.W.fnOf "led" "Node.led" (defArgs c_Node_led) (defBody c_Node_led) (defScope c_Node_led) .none kVx37 dcx37 pmx37 anx37 cdx37 ctx37), slx37⟩)
    (cx37 : PySem.W.codeIn K cdx37 "Node.led" = true)
    (kx37 : PySem.W.keepIn K (.ref fx37) = true)
    (ax38 : PySem.W.findCls K (.ref CN) (.type "type") "at" = some (.get (.builtin "classmethod.__get__") (.ref pCx38) .none (.ref CN)))
    (bx38 : PySem.W.recIn K pCx38 "classmethod" = some (.ref fx38 :: rCx38))
    (lx38 : K.lookup fx38 = some ⟨ocx38, odx38, .func (PySem.W.fnOf "at" "Node.at" (defArgs c_Node_at) (defBody c_Node_at) (defScope c_Node_at) .none kVx38 dcx38 pmx38 anx38 cdx38 ctx38), slx38⟩)
    (cx38 : PySem.W.codeIn K cdx38 "Node.at" = true)
    (kx38 : PySem.W.keepIn K (.ref fx38) = true)
    (nx38 : PySem.W.fnIn K fx38 = true)
    (ax39 : PySem.W.nsIn K mainGlobals "label_path" = some (some (.ref fx39)))
    (lx39 : K.lookup fx39 = some ⟨ocx39, odx39, .func (PySem.W.fnOf "label_path" "label_path" (defArgs s_label_path) (defBody s_label_path) (defScope s_label_path) .none kVx39 dcx39 pmx39 anx39 cdx39 ctx39), slx39⟩)
    (cx39 : PySem.W.codeIn K cdx39 "label_path" = true)
    (kx39 : PySem.W.keepIn K (.ref fx39) = true)
    (ax40 : PySem.W.findIn K (.ref CSp) "end_label" = some (some (.ref pNx40)))
    (gx40 : PySem.W.specialIn K (.ref pNx40) "__get__" = some (some (.builtin "property.__get__")))
    (tx40 : PySem.W.takesIn K (.ref pNx40) = some true)
    (bx40 : PySem.W.recIn K pNx40 "property" = some (.ref fx40 :: rNx40))
    (lx40 : K.lookup fx40 = some ⟨ocx40, odx40, .func (PySem.W.fnOf "end_label" "Node.end_label" (defArgs c_Node_end_label) (defBody c_Node_end_label) (defScope c_Node_end_label) .none kVx40 dcx40 pmx40 anx40 cdx40 ctx40), slx40⟩)
    (cx40 : PySem.W.codeIn K cdx40 "Node.end_label" = true)
    (kx40 : PySem.W.keepIn K (.ref fx40) = true)
    (ax40CBr : PySem.W.findIn K (.ref CBr) "end_label" = some (some (.ref pNx40)))
    (ax41 : PySem.W.nsIn K mainGlobals "_law_next" = some (some (.ref fx41)))
    (lx41 : K.lookup fx41 = some ⟨ocx41, odx41, .func (PySem.W.fnOf "_law_next" "_law_next" (defArgs s__law_next) (defBody s__law_next) (defScope s__law_next) .none kVx41 dcx41 pmx41 anx41 cdx41 ctx41), slx41⟩)
    (cx41 : PySem.W.codeIn K cdx41 "_law_next" = true)
    (kx41 : PySem.W.keepIn K (.ref fx41) = true)
    (ax42 : PySem.W.nsIn K mainGlobals "_law_row" = some (some (.ref fx42)))
    (lx42 : K.lookup fx42 = some ⟨ocx42, odx42, .func (PySem.W.fnOf "_law_row" "_law_row" (defArgs s__law_row) (defBody s__law_row) (defScope s__law_row) .none kVx42 dcx42 pmx42 anx42 cdx42 ctx42), slx42⟩)
    (cx42 : PySem.W.codeIn K cdx42 "_law_row" = true)
    (kx42 : PySem.W.keepIn K (.ref fx42) = true)
    (ax43 : PySem.W.nsIn K mainGlobals "_law_streams" = some (some (.ref fx43)))
    (lx43 : K.lookup fx43 = some ⟨ocx43, odx43, .func (PySem.W.fnOf "_law_streams" "_law_streams" (defArgs s__law_streams) (defBody s__law_streams) (defScope s__law_streams) .none kVx43 dcx43 pmx43 anx43 cdx43 ctx43), slx43⟩)
    (cx43 : PySem.W.codeIn K cdx43 "_law_streams" = true)
    (kx43 : PySem.W.keepIn K (.ref fx43) = true)
    (ax44 : PySem.W.nsIn K mainGlobals "_law_plan" = some (some (.ref fx44)))
    (lx44 : K.lookup fx44 = some ⟨ocx44, odx44, .func (PySem.W.fnOf "_law_plan" "_law_plan" (defArgs s__law_plan) (defBody s__law_plan) (defScope s__law_plan) .none kVx44 dcx44 pmx44 anx44 cdx44 ctx44), slx44⟩)
    (cx44 : PySem.W.codeIn K cdx44 "_law_plan" = true)
    (kx44 : PySem.W.keepIn K (.ref fx44) = true)
    (ax45 : PySem.W.nsIn K mainGlobals "_law_great" = some (some (.ref fx45)))
    (lx45 : K.lookup fx45 = some ⟨ocx45, odx45, .func (PySem.W.fnOf "_law_great" "_law_great" (defArgs s__law_great) (defBody s__law_great) (defScope s__law_great) .none kVx45 dcx45 pmx45 anx45 cdx45 ctx45), slx45⟩)
    (cx45 : PySem.W.codeIn K cdx45 "_law_great" = true)
    (kx45 : PySem.W.keepIn K (.ref fx45) = true)
    (ax46 : PySem.W.nsIn K mainGlobals "_law_is_node" = some (some (.ref fx46)))
    (lx46 : K.lookup fx46 = some ⟨ocx46, odx46, .func (PySem.W.fnOf "_law_is_node" "_law_is_node" (defArgs s__law_is_node) (defBody s__law_is_node) (defScope s__law_is_node) .none kVx46 dcx46 pmx46 anx46 cdx46 ctx46), slx46⟩)
    (cx46 : PySem.W.codeIn K cdx46 "_law_is_node" = true)
    (kx46 : PySem.W.keepIn K (.ref fx46) = true)
    (ax47 : PySem.W.nsIn K mainGlobals "_law_up" = some (some (.ref fx47)))
    (lx47 : K.lookup fx47 = some ⟨ocx47, odx47, .func (PySem.W.fnOf "_law_up" "_law_up" (defArgs s__law_up) (defBody s__law_up) (defScope s__law_up) .none kVx47 dcx47 pmx47 anx47 cdx47 ctx47), slx47⟩)
    (cx47 : PySem.W.codeIn K cdx47 "_law_up" = true)
    (kx47 : PySem.W.keepIn K (.ref fx47) = true)
    (ax48 : PySem.W.nsIn K mainGlobals "_law_item" = some (some (.ref fx48)))
    (lx48 : K.lookup fx48 = some ⟨ocx48, odx48, .func (PySem.W.fnOf "_law_item" "_law_item" (defArgs s__law_item) (defBody s__law_item) (defScope s__law_item) .none kVx48 dcx48 pmx48 anx48 cdx48 ctx48), slx48⟩)
    (cx48 : PySem.W.codeIn K cdx48 "_law_item" = true)
    (kx48 : PySem.W.keepIn K (.ref fx48) = true)
    (ax49 : PySem.W.nsIn K mainGlobals "_law_branch" = some (some (.ref fx49)))
    (lx49 : K.lookup fx49 = some ⟨ocx49, odx49, .func (PySem.W.fnOf "_law_branch" "_law_branch" (defArgs s__law_branch) (defBody s__law_branch) (defScope s__law_branch) .none kVx49 dcx49 pmx49 anx49 cdx49 ctx49), slx49⟩)
    (cx49 : PySem.W.codeIn K cdx49 "_law_branch" = true)
    (kx49 : PySem.W.keepIn K (.ref fx49) = true)
    (ax50 : PySem.W.nsIn K mainGlobals "_law_inside" = some (some (.ref fx50)))
    (lx50 : K.lookup fx50 = some ⟨ocx50, odx50, .func (PySem.W.fnOf "_law_inside" "_law_inside" (defArgs s__law_inside) (defBody s__law_inside) (defScope s__law_inside) .none kVx50 dcx50 pmx50 anx50 cdx50 ctx50), slx50⟩)
    (cx50 : PySem.W.codeIn K cdx50 "_law_inside" = true)
    (kx50 : PySem.W.keepIn K (.ref fx50) = true)
    (ax51 : PySem.W.nsIn K mainGlobals "_law_is_outside" = some (some (.ref fx51)))
    (lx51 : K.lookup fx51 = some ⟨ocx51, odx51, .func (PySem.W.fnOf "_law_is_outside" "_law_is_outside" (defArgs s__law_is_outside) (defBody s__law_is_outside) (defScope s__law_is_outside) .none kVx51 dcx51 pmx51 anx51 cdx51 ctx51), slx51⟩)
    (cx51 : PySem.W.codeIn K cdx51 "_law_is_outside" = true)
    (kx51 : PySem.W.keepIn K (.ref fx51) = true)
    (ax52 : PySem.W.nsIn K mainGlobals "_law_right" = some (some (.ref fx52)))
    (lx52 : K.lookup fx52 = some ⟨ocx52, odx52, .func (PySem.W.fnOf "_law_right" "_law_right" (defArgs s__law_right) (defBody s__law_right) (defScope s__law_right) .none kVx52 dcx52 pmx52 anx52 cdx52 ctx52), slx52⟩)
    (cx52 : PySem.W.codeIn K cdx52 "_law_right" = true)
    (kx52 : PySem.W.keepIn K (.ref fx52) = true)
    (ax53 : PySem.W.nsIn K mainGlobals "_law_paths_right" = some (some (.ref fx53)))
    (lx53 : K.lookup fx53 = some ⟨ocx53, odx53, .func (PySem.W.fnOf "_law_paths_right" "_law_paths_right" (defArgs s__law_paths_right) (defBody s__law_paths_right) (defScope s__law_paths_right) .none kVx53 dcx53 pmx53 anx53 cdx53 ctx53), slx53⟩)
    (cx53 : PySem.W.codeIn K cdx53 "_law_paths_right" = true)
    (kx53 : PySem.W.keepIn K (.ref fx53) = true)
    (ax54 : PySem.W.nsIn K mainGlobals "law" = some (some (.ref fx54)))
    (lx54 : K.lookup fx54 = some ⟨ocx54, odx54, .func (PySem.W.fnOf "law" "law" (defArgs s_law) (defBody s_law) (defScope s_law) .none kVx54 dcx54 pmx54 anx54 cdx54 ctx54), slx54⟩)
    (cx54 : PySem.W.codeIn K cdx54 "law" = true)
    (kx54 : PySem.W.keepIn K (.ref fx54) = true)
    (z0 : PySem.W.nsIn K mainGlobals "isinstance" = some none)
    (z1 : PySem.W.nsIn K mainGlobals "int" = some none)
    (z2 : PySem.W.nsIn K mainGlobals "bool" = some none)
    (z3 : PySem.W.nsIn K mainGlobals "tuple" = some none)
    (z4 : PySem.W.nsIn K mainGlobals "len" = some none)
    (z5 : PySem.W.nsIn K mainGlobals "enumerate" = some none)
    (z6 : PySem.W.nsIn K mainGlobals "range" = some none)
    (z7 : PySem.W.nsIn K mainGlobals "all" = some none)
    (z8 : PySem.W.nsIn K mainGlobals "list" = some none)
    (z9 : PySem.W.nsIn K mainGlobals "min" = some none)
    (z10 : PySem.W.nsIn K mainGlobals "max" = some none)
    (z11 : PySem.W.nsIn K mainGlobals "sum" = some none)
    (z12 : PySem.W.nsIn K mainGlobals "repr" = some none)
    (z13 : PySem.W.nsIn K mainGlobals "super" = some none)
    (z14 : PySem.W.nsIn K mainGlobals "divmod" = some none)
    (y1 : RelV .non w1)
    (y2 : RelV .non w2)
    : ∀ base : Heap, K.In base → base.Ns mainGlobals mg → FnX l.prog w K mg base 13 fa [] (spX K aLaw) := by
  intro base _ _
  have B : Bt mg := ⟨(PySem.W.mg_none_of X G z0), (PySem.W.mg_none_of X G z1), (PySem.W.mg_none_of X G z2), (PySem.W.mg_none_of X G z3), (PySem.W.mg_none_of X G z4), (PySem.W.mg_none_of X G z5), (PySem.W.mg_none_of X G z6), (PySem.W.mg_none_of X G z7), (PySem.W.mg_none_of X G z8), (PySem.W.mg_none_of X G z9), (PySem.W.mg_none_of X G z10), (PySem.W.mg_none_of X G z11)⟩
  have T : Rs K mg C := ⟨⟨pgC, hdC, poC, saC⟩, nC0, nC1, nC2, PySem.W.mg_of X G aC⟩
  have L : Lm mg tt0 tt1 tt2 tt3 := ⟨PySem.W.mg_of X G u0, PySem.W.mg_of X G u1, PySem.W.mg_of X G u2, PySem.W.mg_of X G u3⟩
  have LE_ : LmE mg := ⟨⟨_, PySem.W.mg_of X G u0⟩, ⟨_, PySem.W.mg_of X G u1⟩, ⟨_, PySem.W.mg_of X G u2⟩, ⟨_, PySem.W.mg_of X G u3⟩⟩
  have e5 : PySem.W.kitOne K (.ref C) (.ref C) = some true := if_pos (by simp)
  have IS : Isi K C := ⟨e1C, e2C, e3C, e4C, e5⟩
  have Fx1 := fd_kw2 (st := s_is_integer) lx1 cx1 kx1 d1 d2 y1 y2
  have GA : GInt l.prog w K mg base := by
    obtain ⟨mv, kb⟩ := FunD.kbinds0 (ps := ["value", "low", "high"]) Fx1 1 ["low", "high"] [] (fun us _ ws => us ++ ws) (by simp) (fun _ h => nomatch h) (fun r1 _ r2 => r1.append r2)
      (fun D doc pm an cdv ct us mv ws h1 h2 h3 => match us, mv, ws, h1, h2, h3 with | [_], [], [_, _], _, _, _ => rfl)
    exact ⟨⟨fx1, fnx_kbn (k := 0) (fun ds es => ds ++ es) Fx1 q_is_integer kb (fun H ds vs es zs r1 r2 _ _ => r1.append r2) (fun ds M R ⟨n, lo, hi, e, _⟩ => by rw [e]; rfl) (b_is_integer (PySem.W.mg_none_of X G z0) (PySem.W.mg_none_of X G z1) (PySem.W.mg_none_of X G z2)), (PySem.W.mg_of X G ax1), kx1⟩⟩
  have Fx2 : FunD K "check_integer" "check_integer" (defArgs s_check_integer) (defBody s_check_integer) (defScope s_check_integer) [.non] [] fx2 _ := ⟨⟨ocx2, odx2, .ref T2, kVx2, dcx2, pmx2, anx2, cdx2, ctx2, slx2, rfl, lx2, cx2, .inr ⟨List.cons_ne_nil _ _, T2, _, [.none], k02, rfl, dx2, rfl, .cons rfl .nil⟩, .inl rfl⟩, kx2⟩
  have GB : GChk l.prog w K mg base := ⟨⟨fx2, fnx_dfl (n := 2) (dd := [.non]) Fx2 q_check_integer (List.cons_ne_nil _ _) (fun H => .cons .non .nil) (fun T' kV doc pm an cdv ct us its h1 h2 => match us, its, h1, h2 with | [_, _], [_], _, _ => ⟨_, rfl, rfl⟩) (fun ds M R h => by obtain ⟨n, lo, rfl, _⟩ := h; rfl) (b_check_integer GA), (PySem.W.mg_of X G ax2), kx2⟩⟩
  have Fx3 := fd_mk (st := s_are_items) lx3 cx3 kx3
  have GC : GItems l.prog w K mg base := gd_pos Fx3 q_are_items (fun _ _ _ _ _ _ us hl => match us, hl with | [_, _, _], _ => rfl) (fun ds M R h => by obtain ⟨x, a, b, rfl, _⟩ := h <;> rfl) (b_are_items GA L.b (PySem.W.mg_none_of X G z0) (PySem.W.mg_none_of X G z3) (PySem.W.mg_none_of X G z4) (PySem.W.mg_none_of X G z7)) (PySem.W.mg_of X G ax3)
  have Fx4 := fd_mk (st := s_shortest_loop) lx4 cx4 kx4
  have GD : GSl l.prog w K mg base := gd_pos Fx4 q_shortest_loop (fun _ _ _ _ _ _ us hl => match us, hl with | [_], _ => rfl) (fun ds M R h => by obtain ⟨x, rfl, _⟩ := h <;> rfl) (b_shortest_loop (PySem.W.mg_none_of X G z6) (PySem.W.mg_none_of X G z4)) (PySem.W.mg_of X G ax4)
  have Fx5 := fd_mk (st := s_normal_form) lx5 cx5 kx5
  have GE : GNf l.prog w K mg base := gd_pos Fx5 q_normal_form (fun _ _ _ _ _ _ us hl => match us, hl with | [_, _], _ => rfl) (fun ds M R h => by obtain ⟨x, rfl, _⟩ := h <;> rfl) (b_normal_form GD) (PySem.W.mg_of X G ax5)
  have Fx6 := fd_mk (st := s_stream_item) lx6 cx6 kx6
  have GF : GItem l.prog w K mg base := gd_pos Fx6 q_stream_item (fun _ _ _ _ _ _ us hl => match us, hl with | [_, _], _ => rfl) (fun ds M R h => by obtain ⟨x, i, rfl, _⟩ := h <;> rfl) (b_stream_item (PySem.W.mg_none_of X G z4)) (PySem.W.mg_of X G ax6)
  have Fx7 := fd_mk (st := c_Schedule_is_stream) lx7 cx7 kx7
  have XJ : FX l.prog w K mg base 3 fx7 fun ds _ => aIss ds := fnx_pos' Fx7 q_Schedule_is_stream (fun _ _ _ _ _ _ us hl => match us, hl with | [_], _ => rfl) (fun ds M R h => by obtain ⟨x, rfl, _⟩ := h; rfl) (b_is_stream L GC (PySem.W.mg_none_of X G z0) (PySem.W.mg_none_of X G z3) (PySem.W.mg_none_of X G z4))
  have CS : Cs l.prog w K mg base C pSx7 fx7 := ⟨⟨rd, ga⟩, ⟨ax7, ⟨_, bx7⟩, kx7⟩, XJ⟩
  have Fx8 := fd_mk (st := c_Schedule___init__) lx8 cx8 kx8
  have MK : Mks l.prog w K mg base C := ⟨⟨fx8, ⟨mkC, ax8, ix8, kcC⟩, fnx_kw Fx8 q_Schedule___init__ (fun _ _ _ _ _ _ us ws h1 h2 => match us, ws, h1, h2 with | [_, _], [_, _], _, _ => rfl) (fun ds M R h => by obtain ⟨p, a, sp, lv, M0, rfl, _⟩ := h; rfl) (b_init T L GA CS GF GE)⟩⟩
  have Fx9 := fd_mk (st := c_Schedule_spine_at) lx9 cx9 kx9
  have XE : FX l.prog w K mg base 3 fx9 fun ds _ => aSat C ds := fnx_pos' Fx9 q_Schedule_spine_at (fun _ _ _ _ _ _ us hl => match us, hl with | [_, _], _ => rfl) (fun ds M R h => by obtain ⟨x, i, rfl, _⟩ := h; rfl) (b_spine_at T GB GF)
  have Fx10 := fd_mk (st := c_Schedule_level_at) lx10 cx10 kx10
  have XF : FX l.prog w K mg base 3 fx10 fun ds _ => aLat C ds := fnx_pos' Fx10 q_Schedule_level_at (fun _ _ _ _ _ _ us hl => match us, hl with | [_, _], _ => rfl) (fun ds M R h => by obtain ⟨x, i, rfl, _⟩ := h; rfl) (b_level_at T GB GF)
  have SM : Sm2 l.prog w K mg base C := ⟨⟨fx9, ⟨ax9, ix9, kx9⟩, XE⟩, ⟨fx10, ⟨ax10, ix10, kx10⟩, XF⟩⟩
  have Fx11 := fd_mk (st := c_Schedule___eq__) lx11 cx11 kx11
  have XI : FX l.prog w K mg base 1 fx11 fun ds _ => aEqS C ds := fnx_pos' Fx11 q_Schedule___eq__ (fun _ _ _ _ _ _ us hl => match us, hl with | [_, _], _ => rfl) (fun ds M R h => by obtain ⟨x, i, rfl, _⟩ := h; rfl) (b_eq T IS (PySem.W.mg_none_of X G z0))
  have OS : OwnS l.prog w K mg base C fx11 := ⟨XI, ax11, ix11, e6C, e7C⟩
  have Fx12 := fd_mk (st := c_Schedule_arity) lx12 cx12 kx12
  have YPA : FX l.prog w K mg base 1 fx12 fun ds _ => aAri C ds := fnx_pos' Fx12 q_Schedule_arity (fun _ _ _ _ _ _ us hl => match us, hl with | [_], _ => rfl) (fun ds M R h => by obtain ⟨x, rfl, _⟩ := h; rfl) (b_arity T)
  have PA : PrA l.prog w K mg base C := ⟨⟨pNx12, fx12, ⟨ax12, gx12, tx12, _, bx12⟩, YPA⟩⟩
  have Fx13 := fd_mk (st := c_Schedule_spine) lx13 cx13 kx13
  have YPS_ : FX l.prog w K mg base 1 fx13 fun ds _ => aSpi C ds := fnx_pos' Fx13 q_Schedule_spine (fun _ _ _ _ _ _ us hl => match us, hl with | [_], _ => rfl) (fun ds M R h => by obtain ⟨x, rfl, _⟩ := h; rfl) (b_spine T)
  have PS_ : PrS l.prog w K mg base C := ⟨⟨pNx13, fx13, ⟨ax13, gx13, tx13, _, bx13⟩, YPS_⟩⟩
  have Fx14 := fd_mk (st := c_Schedule_levels) lx14 cx14 kx14
  have YPL_ : FX l.prog w K mg base 1 fx14 fun ds _ => aLev C ds := fnx_pos' Fx14 q_Schedule_levels (fun _ _ _ _ _ _ us hl => match us, hl with | [_], _ => rfl) (fun ds M R h => by obtain ⟨x, rfl, _⟩ := h; rfl) (b_levels T)
  have PL_ : PrL l.prog w K mg base C := ⟨⟨pNx14, fx14, ⟨ax14, gx14, tx14, _, bx14⟩, YPL_⟩⟩
  have NC : NdC K mg CN := ⟨PySem.W.mg_of X G aCN, ⟨rCN, gCN⟩, ⟨_, vCN, ⟨_, rfl⟩⟩⟩
  have Fx15 := fd_mk (st := s_is_integer_nodes) lx15 cx15 kx15
  have NI : GInn l.prog w K mg base := gd_pos Fx15 q_is_integer_nodes (fun _ _ _ _ _ _ us hl => match us, hl with | [_, _], _ => rfl) (fun ds M R h => by obtain ⟨n, lo, rfl, _⟩ := h <;> rfl) (b_is_integer_nodes (k := 0) B) (PySem.W.mg_of X G ax15)
  have Fx16 := fd_mk (st := s_need_schedule) lx16 cx16 kx16
  have NS : GNsc l.prog w K mg base C := gd_pos Fx16 q_need_schedule (fun _ _ _ _ _ _ us hl => match us, hl with | [_], _ => rfl) (fun ds M R h => by obtain ⟨S, rfl, _⟩ := h <;> rfl) (b_need_schedule (k := 0) B T IS) (PySem.W.mg_of X G ax16)
  have Fx17 := fd_mk (st := s_sizes_up_to) lx17 cx17 kx17
  have SZ : GSzu l.prog w K mg base C := gd_pos Fx17 q_sizes_up_to (fun _ _ _ _ _ _ us hl => match us, hl with | [_, _], _ => rfl) (fun ds M R h => by obtain ⟨S, h, rfl, _⟩ := h <;> rfl) (b_sizes_up_to B T SM PA) (PySem.W.mg_of X G ax17)
  have Fx18 := fd_mk (st := s_end_of_stage) lx18 cx18 kx18
  have EO : GEos l.prog w K mg base C := gd_pos Fx18 q_end_of_stage (fun _ _ _ _ _ _ us hl => match us, hl with | [_, _, _], _ => rfl) (fun ds M R h => by obtain ⟨S, n, st, rfl, _⟩ := h <;> rfl) (b_end_of_stage B T SM PA) (PySem.W.mg_of X G ax18)
  have Fx19 := fd_mk (st := s_need_height) lx19 cx19 kx19
  have NH : GNht l.prog w K mg base := gd_pos Fx19 q_need_height (fun _ _ _ _ _ _ us hl => match us, hl with | [_], _ => rfl) (fun ds M R h => by obtain ⟨h, rfl, _⟩ := h <;> rfl) (b_need_height NC NI) (PySem.W.mg_of X G ax19)
  have Fx20 := fd_mk (st := s_branch_size) lx20 cx20 kx20
  have BZ : GBsz l.prog w K mg base C := gd_pos Fx20 q_branch_size (fun _ _ _ _ _ _ us hl => match us, hl with | [_, _], _ => rfl) (fun ds M R h => by obtain ⟨S, h, rfl, _⟩ := h <;> rfl) (b_branch_size NS NH SZ) (PySem.W.mg_of X G ax20)
  have NXCSp : NdX K CSp := ⟨⟨pgCSp, hdCSp, poCSp, saCSp⟩, nCSp0, nCSp1, nCSp2, ⟨e1CSp, e2CSp, e3CSp, e4CSp, if_pos (by simp)⟩⟩
  have NXCBr : NdX K CBr := ⟨⟨pgCBr, hdCBr, poCBr, saCBr⟩, nCBr0, nCBr1, nCBr2, ⟨e1CBr, e2CBr, e3CBr, e4CBr, if_pos (by simp)⟩⟩
  have NT : NdT K mg CN CSp CBr := ⟨NC, PySem.W.mg_of X G aCSp, PySem.W.mg_of X G aCBr, NXCSp, NXCBr, kit_yes hdCN tyCN suCSp, kit_yes hdCN tyCN suCBr, kit_noC hdCBr tyCBr sSB ssCBr, kit_noC hdCSp tyCSp sBS ssCSp⟩
  have Fx21 := fd_mk (st := c_Node___init__) lx21 cx21 kx21
  have XICSp : FX l.prog w K mg base 2 fx21 fun ds _ => aNin C CSp ds := fnx_pos' Fx21 q_Node___init__ (fun _ _ _ _ _ _ us hl => match us, hl with | [_, _, _, _], _ => rfl) (fun ds M R h => by obtain ⟨p, S, h, m, M0, rfl, _⟩ := h; rfl) (b_ninit NXCSp NC NS NI)
  have XICBr : FX l.prog w K mg base 2 fx21 fun ds _ => aNin C CBr ds := fnx_pos' Fx21 q_Node___init__ (fun _ _ _ _ _ _ us hl => match us, hl with | [_, _, _, _], _ => rfl) (fun ds M R h => by obtain ⟨p, S, h, m, M0, rfl, _⟩ := h; rfl) (b_ninit NXCBr NC NS NI)
  have SUPCSp : Sup K l.prog fx22 cdax22 ccx22 CSp CSp fx21 "__init__" := ⟨⟨_, _, _, _, _, lx22, rfl, rfl⟩, ⟨_, _, _, _, _, _, dx22, vx22, wx22⟩, ⟨_, _, _, ex22⟩, ⟨_, cdCSp⟩, sbCSp, supt, supo, sux22__init__, tyx22__init__, fix22__init__⟩
  have XMCSp : FX l.prog w K mg base 3 fx22 fun ds _ => aSin C CSp ds := fnx_sup (F := nfN c_SpineNode___init__ "__init__" "SpineNode.__init__" ccx22 cdax22) rfl lx22 cx22 ex22 q_SpineNode___init__ (fun us hl => match us, hl with | [_, _, _], _ => rfl) (fun ds M R h => by obtain ⟨p, S, h, M0, rfl, _⟩ := h; rfl) (z_spine_init (PySem.W.mg_none_of X G z13) NXCSp SUPCSp XICSp)
  have SUPCBr : Sup K l.prog fx23 cdax23 ccx23 CBr CBr fx21 "__init__" := ⟨⟨_, _, _, _, _, lx23, rfl, rfl⟩, ⟨_, _, _, _, _, _, dx23, vx23, wx23⟩, ⟨_, _, _, ex23⟩, ⟨_, cdCBr⟩, sbCBr, supt, supo, sux23__init__, tyx23__init__, fix23__init__⟩
  have XMCBr : FX l.prog w K mg base 3 fx23 fun ds _ => aBin C CBr ds := fnx_sup (F := nfN c_BranchNode___init__ "__init__" "BranchNode.__init__" ccx23 cdax23) rfl lx23 cx23 ex23 q_BranchNode___init__ (fun us hl => match us, hl with | [_, _, _, _], _ => rfl) (fun ds M R h => by obtain ⟨p, S, h, m, M0, rfl, _⟩ := h; rfl) (z_branch_init (PySem.W.mg_none_of X G z13) NXCBr NI SUPCBr XICBr)
  have IM : NMk l.prog w K mg base C CSp CBr := ⟨⟨fx22, ⟨mkCSp, ax22, ix22, kcCSp⟩, XMCSp⟩, ⟨fx23, ⟨mkCBr, ax23, ix23, kcCBr⟩, XMCBr⟩⟩
  have Fx24 := fd_mk (st := c_Node_named) lx24 cx24 kx24
  have XNM : FX l.prog w K mg base 5 fx24 fun ds _ => aNmd C CSp CBr ds := fnx_pos' Fx24 q_Node_named (fun _ _ _ _ _ _ us hl => match us, hl with | [_, _, _], _ => rfl) (fun ds M R h => by obtain ⟨S, h, m, rfl, _⟩ := h; rfl) (b_named NT IM NI)
  have IN : NNm l.prog w K mg base C CN CSp CBr := ⟨⟨_, _, ⟨ax24, ⟨_, bx24⟩, kx24⟩, XNM⟩⟩
  have Fx25 := fd_mk (st := s_digits_of) lx25 cx25 kx25
  have GDG : GDgo l.prog w K mg base := gd_pos Fx25 q_digits_of (fun _ _ _ _ _ _ us hl => match us, hl with | [_, _], _ => rfl) (fun ds M R h => by obtain ⟨kn, m, T, rfl, _⟩ := h <;> rfl) (b_digits_of (k := 0) B (PySem.W.mg_none_of X G z14)) (PySem.W.mg_of X G ax25)
  have Fx26 := fd_mk (st := s_labels_before) lx26 cx26 kx26
  have GLB : GLbf l.prog w K mg base C := gd_pos Fx26 q_labels_before (fun _ _ _ _ _ _ us hl => match us, hl with | [_, _, _], _ => rfl) (fun ds M R h => by obtain ⟨S, h, m, rfl, _⟩ := h <;> rfl) (b_labels_before B T SM PA GDG SZ EO) (PySem.W.mg_of X G ax26)
  have Fx27 := fd_mk (st := c_Node_schedule) lx27 cx27 kx27
  have YPSC : FX l.prog w K mg base 1 fx27 fun ds _ => aPsc C CSp CBr ds := fnx_pos' Fx27 q_Node_schedule (fun _ _ _ _ _ _ us hl => match us, hl with | [_], _ => rfl) (fun ds M R h => by obtain ⟨S, h, m, rfl, _⟩ := h; rfl) (b_nschedule (k := 0) NT)
  have PSC : NPr l.prog w K mg base CSp CBr "schedule" 1 (aPsc C CSp CBr) := ⟨⟨pNx27, fx27, ⟨ax27, gx27, tx27, _, bx27⟩, YPSC⟩, ⟨pNx27, fx27, ⟨ax27CBr, gx27, tx27, _, bx27⟩, YPSC⟩⟩
  have Fx28 := fd_mk (st := c_Node_height) lx28 cx28 kx28
  have YPHE : FX l.prog w K mg base 1 fx28 fun ds _ => aPhe C CSp CBr ds := fnx_pos' Fx28 q_Node_height (fun _ _ _ _ _ _ us hl => match us, hl with | [_], _ => rfl) (fun ds M R h => by obtain ⟨S, h, m, rfl, _⟩ := h; rfl) (b_nheight (k := 0) NT)
  have PHE : NPr l.prog w K mg base CSp CBr "height" 1 (aPhe C CSp CBr) := ⟨⟨pNx28, fx28, ⟨ax28, gx28, tx28, _, bx28⟩, YPHE⟩, ⟨pNx28, fx28, ⟨ax28CBr, gx28, tx28, _, bx28⟩, YPHE⟩⟩
  have Fx29 := fd_mk (st := c_Node_first_label) lx29 cx29 kx29
  have YPFL : FX l.prog w K mg base 6 fx29 fun ds _ => aPfl C CSp CBr ds := fnx_pos' Fx29 q_Node_first_label (fun _ _ _ _ _ _ us hl => match us, hl with | [_], _ => rfl) (fun ds M R h => by obtain ⟨S, h, m, rfl, _⟩ := h; rfl) (b_first_label NT GLB)
  have PFL : NPr l.prog w K mg base CSp CBr "first_label" 6 (aPfl C CSp CBr) := ⟨⟨pNx29, fx29, ⟨ax29, gx29, tx29, _, bx29⟩, YPFL⟩, ⟨pNx29, fx29, ⟨ax29CBr, gx29, tx29, _, bx29⟩, YPFL⟩⟩
  have Fx30 := fd_mk (st := c_Node_child) lx30 cx30 kx30
  have YXCHI : FX l.prog w K mg base 6 fx30 fun ds _ => aChi C CSp CBr ds := fnx_pos' Fx30 q_Node_child (fun _ _ _ _ _ _ us hl => match us, hl with | [_, _], _ => rfl) (fun ds M R h => by obtain ⟨S, h, m, c, rfl, _⟩ := h; rfl) (b_child T PA NT IN NI)
  have XCHI : NMt l.prog w K mg base CSp CBr "child" 6 (aChi C CSp CBr) := ⟨⟨fx30, ⟨ax30, ix30, kx30⟩, YXCHI⟩, ⟨fx30, ⟨ax30CBr, ix30, kx30⟩, YXCHI⟩⟩
  have Fx31 := fd_mk (st := c_Node_children) lx31 cx31 kx31
  have YXKID : FX l.prog w K mg base 7 fx31 fun ds _ => aKid C CSp CBr ds := fnx_pos' Fx31 q_Node_children (fun _ _ _ _ _ _ us hl => match us, hl with | [_], _ => rfl) (fun ds M R h => by obtain ⟨S, h, m, rfl, _⟩ := h; rfl) (b_children B T PA NT XCHI)
  have XKID : NMt l.prog w K mg base CSp CBr "children" 7 (aKid C CSp CBr) := ⟨⟨fx31, ⟨ax31, ix31, kx31⟩, YXKID⟩, ⟨fx31, ⟨ax31CBr, ix31, kx31⟩, YXKID⟩⟩
  have Fx32 := fd_mk (st := c_Node___eq__) lx32 cx32 kx32
  have XNE : FX l.prog w K mg base 2 fx32 fun ds _ => aNeq K C CN CSp CBr ds := fnx_pos' Fx32 q_Node___eq__ (fun _ _ _ _ _ _ us hl => match us, hl with | [_, _], _ => rfl) (fun ds M R h => by obtain ⟨S, h, m, d, rfl, _⟩ := h; rfl) (b_neq B NT OS)
  have NQ : NEq l.prog w K mg base C CN CSp CBr := ⟨⟨fx32, XNE, ax32, ix32, e6CSp, e7CSp⟩, ⟨fx32, XNE, ax32CBr, ix32, e6CBr, e7CBr⟩, nf_no sBS, nf_no sSB⟩
  have Fx33 := fd_mk (st := c_SpineNode___repr__) lx33 cx33 kx33
  have XRCSp : FX l.prog w K mg base 1 fx33 fun ds _ => aSrp C CSp CBr ds := fnx_pos' Fx33 q_SpineNode___repr__ (fun _ _ _ _ _ _ us hl => match us, hl with | [_], _ => rfl) (fun ds M R h => by obtain ⟨S, h, rfl, _⟩ := h; rfl) (b_spine_repr (k := 0) NT)
  have Fx34 := fd_mk (st := c_BranchNode___repr__) lx34 cx34 kx34
  have XRCBr : FX l.prog w K mg base 1 fx34 fun ds _ => aBrp C CSp CBr ds := fnx_pos' Fx34 q_BranchNode___repr__ (fun _ _ _ _ _ _ us hl => match us, hl with | [_], _ => rfl) (fun ds M R h => by obtain ⟨S, h, m, rfl, _⟩ := h; rfl) (b_branch_repr (k := 0) NT)
  have NR : NRp l.prog w K mg base C CSp CBr := ⟨⟨fx33, XRCSp, ax33, ix33⟩, ⟨fx34, XRCBr, ax34, ix34⟩⟩
  have Fx35 := fd_mk (st := s_path_inside) lx35 cx35 kx35
  have GPI : GPin l.prog w K mg base C := gd_pos Fx35 q_path_inside (fun _ _ _ _ _ _ us hl => match us, hl with | [_, _, _, _], _ => rfl) (fun ds M R h => by obtain ⟨S, a, n, c, rfl, _⟩ := h <;> rfl) (b_path_inside B T SM) (PySem.W.mg_of X G ax35)
  have Fx36 := fd_mk (st := s_path_of) lx36 cx36 kx36
  have GPO : GPth l.prog w K mg base C := gd_pos Fx36 q_path_of (fun _ _ _ _ _ _ us hl => match us, hl with | [_, _], _ => rfl) (fun ds M R h => by obtain ⟨S, n, rfl, _⟩ := h <;> rfl) (b_path_of B T SM PA GPI) (PySem.W.mg_of X G ax36)
  have Fx37 := fd_mk (st := c_Node_led) lx37 cx37 kx37
  have XLD : FX l.prog w K mg base 6 fx37 fun ds _ => aLed C CSp CBr ds := fnx_pos' Fx37 q_Node_led (fun _ _ _ _ _ _ us hl => match us, hl with | [_, _, _], _ => rfl) (fun ds M R h => by obtain ⟨S, st, x, rfl, _⟩ := h; rfl) (b_led B T PA NT IN)
  have LD : NLd l.prog w K mg base C CN CSp CBr := ⟨⟨_, _, ⟨ax37, ⟨_, bx37⟩, kx37⟩, XLD⟩⟩
  have Fx38 := fd_mk (st := c_Node_at) lx38 cx38 kx38
  have XAT : FX l.prog w K mg base 7 fx38 fun ds _ => aAt C CN CSp CBr ds := fnx_pos' Fx38 q_Node_at (fun _ _ _ _ _ _ us hl => match us, hl with | [_, _, _], _ => rfl) (fun ds M R h => by obtain ⟨S, n, rfl, _⟩ := h; rfl) (b_at NT NS NI GPO LD)
  have NAT : NAt l.prog w K mg base C CN CSp CBr := ⟨⟨pCx38, fx38, ⟨rCN, gCN⟩, ⟨ax38, ⟨_, bx38⟩, nx38⟩, XAT⟩⟩
  have Fx39 := fd_mk (st := s_label_path) lx39 cx39 kx39
  have GLP : GLpa l.prog w K mg base C := gd_pos Fx39 q_label_path (fun _ _ _ _ _ _ us hl => match us, hl with | [_, _], _ => rfl) (fun ds M R h => by obtain ⟨S, n, rfl, _⟩ := h <;> rfl) (b_label_path NS NI GPO) (PySem.W.mg_of X G ax39)
  have Fx40 := fd_mk (st := c_Node_end_label) lx40 cx40 kx40
  have YPEL : FX l.prog w K mg base 8 fx40 fun ds _ => aPel C CSp CBr ds := fnx_pos' Fx40 q_Node_end_label (fun _ _ _ _ _ _ us hl => match us, hl with | [_], _ => rfl) (fun ds M R h => by obtain ⟨S, h, m, rfl, _⟩ := h; rfl) (b_end_label NT SZ EO PFL)
  have PEL : NPr l.prog w K mg base CSp CBr "end_label" 8 (aPel C CSp CBr) := ⟨⟨pNx40, fx40, ⟨ax40, gx40, tx40, _, bx40⟩, YPEL⟩, ⟨pNx40, fx40, ⟨ax40CBr, gx40, tx40, _, bx40⟩, YPEL⟩⟩
  have Fx41 := fd_mk (st := s__law_next) lx41 cx41 kx41
  have HN : GNx l.prog w K mg base := gd_pos Fx41 q__law_next (fun _ _ _ _ _ _ us hl => match us, hl with | [_, _], _ => rfl) (fun ds M R h => by obtain ⟨a, i, N, n, rfl, _⟩ := h <;> rfl) (b__law_next B) (PySem.W.mg_of X G ax41)
  have Fx42 := fd_mk (st := s__law_row) lx42 cx42 kx42
  have HR : GRow l.prog w K mg base := gd_pos Fx42 q__law_row (fun _ _ _ _ _ _ us hl => match us, hl with | [_, _], _ => rfl) (fun ds M R h => by obtain ⟨p, i, N, lo, rfl, _⟩ := h <;> rfl) (b__law_row B HN) (PySem.W.mg_of X G ax42)
  have Fx43 := fd_mk (st := s__law_streams) lx43 cx43 kx43
  have HS : GSts l.prog w K mg base := gd_pos Fx43 q__law_streams (fun _ _ _ _ _ _ us hl => match us, hl with | [_], _ => rfl) (fun ds M R h => by obtain ⟨ns, rfl, _⟩ := h <;> rfl) (b__law_streams B) (PySem.W.mg_of X G ax43)
  have Fx44 := fd_mk (st := s__law_plan) lx44 cx44 kx44
  have HP : GPlan l.prog w K mg base C := gd_pos Fx44 q__law_plan (fun _ _ _ _ _ _ us hl => match us, hl with | [_, _], _ => rfl) (fun ds M R h => by obtain ⟨p, i, N, mo, rfl, _⟩ := h <;> rfl) (b__law_plan T MK (nx3 HN) (row3 HR)) (PySem.W.mg_of X G ax44)
  have Fx45 := fd_mk (st := s__law_great) lx45 cx45 kx45
  have HG : GGrt l.prog w K mg base := gd_pos Fx45 q__law_great (fun _ _ _ _ _ _ us hl => match us, hl with | [_, _], _ => rfl) (fun ds M R h => by obtain ⟨p, i, N, mo, rfl, _⟩ := h <;> rfl) (b__law_great B (nx3 HN)) (PySem.W.mg_of X G ax45)
  have Fx46 := fd_mk (st := s__law_is_node) lx46 cx46 kx46
  have HI : GIsn l.prog w K mg base C CSp CBr := gd_pos Fx46 q__law_is_node (fun _ _ _ _ _ _ us hl => match us, hl with | [_, _, _], _ => rfl) (fun ds M R h => by obtain ⟨S, h, m, rfl, _⟩ := h <;> rfl) (b__law_is_node B (PySem.W.mg_none_of X G z12) NT PHE NR) (PySem.W.mg_of X G ax46)
  have Fx47 := fd_mk (st := s__law_up) lx47 cx47 kx47
  have HU : GUp l.prog w K mg base := gd_pos Fx47 q__law_up (fun _ _ _ _ _ _ us hl => match us, hl with | [_, _, _], _ => rfl) (fun ds M R h => by obtain ⟨kn, m, t, rfl, _⟩ := h <;> rfl) (b__law_up (k := 0) B) (PySem.W.mg_of X G ax47)
  have Fx48 := fd_mk (st := s__law_item) lx48 cx48 kx48
  have HIt : GItL l.prog w K mg base := gd_pos Fx48 q__law_item (fun _ _ _ _ _ _ us hl => match us, hl with | [_, _], _ => rfl) (fun ds M R h => by obtain ⟨s, i, rfl, _⟩ := h <;> rfl) (b__law_item (k := 0) B) (PySem.W.mg_of X G ax48)
  have Fx49 := fd_mk (st := s__law_branch) lx49 cx49 kx49
  have HB : ∀ h : Nat, Gd l.prog w K mg base (2 + h) "_law_branch" [] fun ds _ => aBr h ds := by
    intro h
    induction h with
    | zero => exact gd_pos Fx49 q__law_branch (fun _ _ _ _ _ _ us hl => match us, hl with | [_, _, _, _], _ => rfl) (fun ds M R h => by obtain ⟨kn, m, l, rfl, _⟩ := h; rfl) (b__law_branch (h := 0) B rfl HIt fun h' e => by omega) (PySem.W.mg_of X G ax49)
    | succ h ih =>
      rw [show 2 + (h + 1) = (1 + (h + 1)) + 1 by omega]
      exact gd_pos Fx49 q__law_branch (fun _ _ _ _ _ _ us hl => match us, hl with | [_, _, _, _], _ => rfl) (fun ds M R h => by obtain ⟨kn, m, l, rfl, _⟩ := h; rfl) (b__law_branch (h := h + 1) B rfl HIt fun h' e => by cases e; exact ih) (PySem.W.mg_of X G ax49)
  have Fx50 := fd_mk (st := s__law_inside) lx50 cx50 kx50
  have HIn : GInd l.prog w K mg base := gd_pos Fx50 q__law_inside (fun _ _ _ _ _ _ us hl => match us, hl with | [_, _, _], _ => rfl) (fun ds M R h => by obtain ⟨kn, h, l, rfl, _⟩ := h <;> rfl) (b__law_inside B HB) (PySem.W.mg_of X G ax50)
  have Fx51 := fd_mk (st := s__law_is_outside) lx51 cx51 kx51
  have HO : GOut l.prog w K mg base C := gd_pos Fx51 q__law_is_outside (fun _ _ _ _ _ _ us hl => match us, hl with | [_, _, _, _, _], _ => rfl) (fun ds M R h => by obtain ⟨S, H, V, n, rfl, _⟩ := h <;> rfl) (b__law_is_outside NT NAT HU PHE) (PySem.W.mg_of X G ax51)
  have Fx52 := fd_mk (st := s__law_right) lx52 cx52 kx52
  have HRi : GRgt l.prog w K mg base C := gd_pos Fx52 q__law_right (fun _ _ _ _ _ _ us hl => match us, hl with | [_, _, _, _, _], _ => rfl) (fun ds M R h => by obtain ⟨S, H, V, rfl, _⟩ := h <;> rfl) (b__law_right B NT IM NAT PFL PEL BZ HI GLP HO) (PySem.W.mg_of X G ax52)
  have Fx53 := fd_mk (st := s__law_paths_right) lx53 cx53 kx53
  have HPr : GPrt l.prog w K mg base C CSp CBr := gd_pos Fx53 q__law_paths_right (fun _ _ _ _ _ _ us hl => match us, hl with | [_, _, _, _, _], _ => rfl) (fun ds M R h => by obtain ⟨S, H, V, V', rfl, _⟩ := h <;> rfl) (b__law_paths_right B NT PFL GLP) (PySem.W.mg_of X G ax53)
  have Fx54 := fd_mk (st := s_law) lx54 cx54 kx54
  have e := hfa.symm.trans (PySem.W.mg_of X G ax54)
  cases e
  exact fnx_pos' (s0 := aLaw0) Fx54 q_law (fun _ _ _ _ _ _ us hl => match us, hl with | [_], _ => rfl) (fun ds M R h => by obtain ⟨ns, rfl, _⟩ := h; rfl) (b_law B NT IM (gst3 HS) (nx3 HN) HP HG HIn HRi HPr)
end K13
open PySem PySem.W PyProof.Rows in
set_option maxHeartbeats 0 in
theorem PySem.Challenge.cw_nestcount_k13_whole_branches_alike_holds : PySem.Challenge.rw_nestcount_k13_whole_branches_alike.Holds := by
  w_on; o_law; k_head; (case hw => w_witness2)
  k_fill
  refine Ab.walk_x (l := PySem.Challenge.rw_nestcount_k13_whole_branches_alike) (k := 13) rfl rfl ⟨rfl, by decide, by decide⟩ (fun w h Y => PySem.W.kIn_of Y) ?F
  case F =>
    intro w mg fa h KX G hmg
    refine' K13.allX KX G hmg ?u0 ?u1 ?u2 ?u3 ?aC ?pgC ?hdC ?poC ?saC ?mkC ?kcC ?nC0 ?nC1 ?nC2 ?e1C ?e2C ?e3C ?e4C ?e6C ?e7C ?ax1 ?lx1 ?cx1 ?kx1 ?d1 ?d2 ?ax2 ?lx2 ?cx2 ?kx2 ?dx2 ?ax3 ?lx3 ?cx3 ?kx3 ?ax4 ?lx4 ?cx4 ?kx4 ?ax5 ?lx5 ?cx5 ?kx5 ?ax6 ?lx6 ?cx6 ?kx6 ?rd ?ga ?ax7 ?bx7 ?lx7 ?cx7 ?kx7 ?ax8 ?ix8 ?lx8 ?cx8 ?kx8 ?ax9 ?ix9 ?lx9 ?cx9 ?kx9 ?ax10 ?ix10 ?lx10 ?cx10 ?kx10 ?ax11 ?ix11 ?lx11 ?cx11 ?kx11 ?ax12 ?gx12 ?tx12 ?bx12 ?lx12 ?cx12 ?kx12 ?ax13 ?gx13 ?tx13 ?bx13 ?lx13 ?cx13 ?kx13 ?ax14 ?gx14 ?tx14 ?bx14 ?lx14 ?cx14 ?kx14 ?aCN ?rCN ?gCN ?vCN ?ax15 ?lx15 ?cx15 ?kx15 ?ax16 ?lx16 ?cx16 ?kx16 ?ax17 ?lx17 ?cx17 ?kx17 ?ax18 ?lx18 ?cx18 ?kx18 ?ax19 ?lx19 ?cx19 ?kx19 ?ax20 ?lx20 ?cx20 ?kx20 ?aCSp ?pgCSp ?hdCSp ?poCSp ?saCSp ?mkCSp ?kcCSp ?nCSp0 ?nCSp1 ?nCSp2 ?e1CSp ?e2CSp ?e3CSp ?e4CSp ?e6CSp ?e7CSp ?tyCSp ?suCSp ?ssCSp ?aCBr ?pgCBr ?hdCBr ?poCBr ?saCBr ?mkCBr ?kcCBr ?nCBr0 ?nCBr1 ?nCBr2 ?e1CBr ?e2CBr ?e3CBr ?e4CBr ?e6CBr ?e7CBr ?tyCBr ?suCBr ?ssCBr ?hdCN ?tyCN ?ssCN ?sSB ?sBS ?ax21 ?ix21 ?lx21 ?cx21 ?kx21 ?ax22 ?ix22 ?lx22 ?cx22 ?kx22 ?ex22 ?dx22 ?vx22 ?wx22 ?supt ?supo ?cdCSp ?sbCSp ?sux22__init__ ?tyx22__init__ ?fix22__init__ ?ax23 ?ix23 ?lx23 ?cx23 ?kx23 ?ex23 ?dx23 ?vx23 ?wx23 ?cdCBr ?sbCBr ?sux23__init__ ?tyx23__init__ ?fix23__init__ ?ax24 ?bx24 ?lx24 ?cx24 ?kx24 ?ax25 ?lx25 ?cx25 ?kx25 ?ax26 ?lx26 ?cx26 ?kx26 ?ax27 ?gx27 ?tx27 ?bx27 ?lx27 ?cx27 ?kx27 ?ax27CBr ?ax28 ?gx28 ?tx28 ?bx28 ?lx28 ?cx28 ?kx28 ?ax28CBr ?ax29 ?gx29 ?tx29 ?bx29 ?lx29 ?cx29 ?kx29 ?ax29CBr ?ax30 ?ix30 ?lx30 ?cx30 ?kx30 ?ax30CBr ?ax31 ?ix31 ?lx31 ?cx31 ?kx31 ?ax31CBr ?ax32 ?ix32 ?lx32 ?cx32 ?kx32 ?ax32CBr ?ax33 ?ix33 ?lx33 ?cx33 ?kx33 ?ax34 ?ix34 ?lx34 ?cx34 ?kx34 ?ax35 ?lx35 ?cx35 ?kx35 ?ax36 ?lx36 ?cx36 ?kx36 ?ax37 ?bx37 ?lx37 ?cx37 ?kx37 ?ax38 ?bx38 ?lx38 ?cx38 ?kx38 ?nx38 ?ax39 ?lx39 ?cx39 ?kx39 ?ax40 ?gx40 ?tx40 ?bx40 ?lx40 ?cx40 ?kx40 ?ax40CBr ?ax41 ?lx41 ?cx41 ?kx41 ?ax42 ?lx42 ?cx42 ?kx42 ?ax43 ?lx43 ?cx43 ?kx43 ?ax44 ?lx44 ?cx44 ?kx44 ?ax45 ?lx45 ?cx45 ?kx45 ?ax46 ?lx46 ?cx46 ?kx46 ?ax47 ?lx47 ?cx47 ?kx47 ?ax48 ?lx48 ?cx48 ?kx48 ?ax49 ?lx49 ?cx49 ?kx49 ?ax50 ?lx50 ?cx50 ?kx50 ?ax51 ?lx51 ?cx51 ?kx51 ?ax52 ?lx52 ?cx52 ?kx52 ?ax53 ?lx53 ?cx53 ?kx53 ?ax54 ?lx54 ?cx54 ?kx54 ?z0 ?z1 ?z2 ?z3 ?z4 ?z5 ?z6 ?z7 ?z8 ?z9 ?z10 ?z11 ?z12 ?z13 ?z14 ?y1 ?y2
    (case u0 => k_is)
    (case u1 => k_is)
    (case u2 => k_is)
    (case u3 => k_is)
    (case aC => k_is)
    (case pgC => k_is)
    (case hdC => k_is)
    (case poC => k_is)
    (case saC => k_is)
    (case mkC => k_is)
    (case kcC => k_is)
    (case nC0 => k_is)
    (case nC1 => k_is)
    (case nC2 => k_is)
    (case e1C => k_is)
    (case e2C => k_is)
    (case e3C => k_is)
    (case e4C => k_is)
    (case e6C => k_is)
    (case e7C => k_is)
    (case ax1 => k_is)
    (case lx1 => k_is)
    (case cx1 => k_is)
    (case kx1 => k_is)
    (case d1 => k_is)
    (case d2 => k_is)
    (case ax2 => k_is)
    (case lx2 => k_is)
    (case cx2 => k_is)
    (case kx2 => k_is)
    (case dx2 => k_is)
    (case ax3 => k_is)
    (case lx3 => k_is)
    (case cx3 => k_is)
    (case kx3 => k_is)
    (case ax4 => k_is)
    (case lx4 => k_is)
    (case cx4 => k_is)
    (case kx4 => k_is)
    (case ax5 => k_is)
    (case lx5 => k_is)
    (case cx5 => k_is)
    (case kx5 => k_is)
    (case ax6 => k_is)
    (case lx6 => k_is)
    (case cx6 => k_is)
    (case kx6 => k_is)
    (case rd => k_is)
    (case ga => k_is)
    (case ax7 => k_is)
    (case bx7 => k_is)
    (case lx7 => k_is)
    (case cx7 => k_is)
    (case kx7 => k_is)
    (case ax8 => k_is)
    (case ix8 => k_is)
    (case lx8 => k_is)
    (case cx8 => k_is)
    (case kx8 => k_is)
    (case ax9 => k_is)
    (case ix9 => k_is)
    (case lx9 => k_is)
    (case cx9 => k_is)
    (case kx9 => k_is)
    (case ax10 => k_is)
    (case ix10 => k_is)
    (case lx10 => k_is)
    (case cx10 => k_is)
    (case kx10 => k_is)
    (case ax11 => k_is)
    (case ix11 => k_is)
    (case lx11 => k_is)
    (case cx11 => k_is)
    (case kx11 => k_is)
    (case ax12 => k_is)
    (case gx12 => k_is)
    (case tx12 => k_is)
    (case bx12 => k_is)
    (case lx12 => k_is)
    (case cx12 => k_is)
    (case kx12 => k_is)
    (case ax13 => k_is)
    (case gx13 => k_is)
    (case tx13 => k_is)
    (case bx13 => k_is)
    (case lx13 => k_is)
    (case cx13 => k_is)
    (case kx13 => k_is)
    (case ax14 => k_is)
    (case gx14 => k_is)
    (case tx14 => k_is)
    (case bx14 => k_is)
    (case lx14 => k_is)
    (case cx14 => k_is)
    (case kx14 => k_is)
    (case aCN => k_is)
    (case rCN => k_is)
    (case gCN => k_is)
    (case vCN => k_is)
    (case ax15 => k_is)
    (case lx15 => k_is)
    (case cx15 => k_is)
    (case kx15 => k_is)
    (case ax16 => k_is)
    (case lx16 => k_is)
    (case cx16 => k_is)
    (case kx16 => k_is)
    (case ax17 => k_is)
    (case lx17 => k_is)
    (case cx17 => k_is)
    (case kx17 => k_is)
    (case ax18 => k_is)
    (case lx18 => k_is)
    (case cx18 => k_is)
    (case kx18 => k_is)
    (case ax19 => k_is)
    (case lx19 => k_is)
    (case cx19 => k_is)
    (case kx19 => k_is)
    (case ax20 => k_is)
    (case lx20 => k_is)
    (case cx20 => k_is)
    (case kx20 => k_is)
    (case aCSp => k_is)
    (case pgCSp => k_is)
    (case hdCSp => k_is)
    (case poCSp => k_is)
    (case saCSp => k_is)
    (case mkCSp => k_is)
    (case kcCSp => k_is)
    (case nCSp0 => k_is)
    (case nCSp1 => k_is)
    (case nCSp2 => k_is)
    (case e1CSp => k_is)
    (case e2CSp => k_is)
    (case e3CSp => k_is)
    (case e4CSp => k_is)
    (case e6CSp => k_is)
    (case e7CSp => k_is)
    (case tyCSp => k_is)
    (case suCSp => k_is)
    (case ssCSp => k_is)
    (case aCBr => k_is)
    (case pgCBr => k_is)
    (case hdCBr => k_is)
    (case poCBr => k_is)
    (case saCBr => k_is)
    (case mkCBr => k_is)
    (case kcCBr => k_is)
    (case nCBr0 => k_is)
    (case nCBr1 => k_is)
    (case nCBr2 => k_is)
    (case e1CBr => k_is)
    (case e2CBr => k_is)
    (case e3CBr => k_is)
    (case e4CBr => k_is)
    (case e6CBr => k_is)
    (case e7CBr => k_is)
    (case tyCBr => k_is)
    (case suCBr => k_is)
    (case ssCBr => k_is)
    (case hdCN => k_is)
    (case tyCN => k_is)
    (case ssCN => k_is)
    (case sSB => k_is)
    (case sBS => k_is)
    (case ax21 => k_is)
    (case ix21 => k_is)
    (case lx21 => k_is)
    (case cx21 => k_is)
    (case kx21 => k_is)
    (case ax22 => k_is)
    (case ix22 => k_is)
    (case lx22 => k_is)
    (case cx22 => k_is)
    (case kx22 => k_is)
    (case ex22 => k_is)
    (case dx22 => k_is)
    (case vx22 => exact rfl)
    (case wx22 => first | rfl | decide +kernel)
    (case supt => decide +kernel)
    (case supo => k_is)
    (case cdCSp => k_is)
    (case sbCSp => k_is)
    (case sux22__init__ => ks_is)
    (case tyx22__init__ => k_is)
    (case fix22__init__ => k_is)
    (case ax23 => k_is)
    (case ix23 => k_is)
    (case lx23 => k_is)
    (case cx23 => k_is)
    (case kx23 => k_is)
    (case ex23 => k_is)
    (case dx23 => k_is)
    (case vx23 => exact rfl)
    (case wx23 => first | rfl | decide +kernel)
    (case cdCBr => k_is)
    (case sbCBr => k_is)
    (case sux23__init__ => ks_is)
    (case tyx23__init__ => k_is)
    (case fix23__init__ => k_is)
    (case ax24 => k_is)
    (case bx24 => k_is)
    (case lx24 => k_is)
    (case cx24 => k_is)
    (case kx24 => k_is)
    (case ax25 => k_is)
    (case lx25 => k_is)
    (case cx25 => k_is)
    (case kx25 => k_is)
    (case ax26 => k_is)
    (case lx26 => k_is)
    (case cx26 => k_is)
    (case kx26 => k_is)
    (case ax27 => k_is)
    (case gx27 => k_is)
    (case tx27 => k_is)
    (case bx27 => k_is)
    (case lx27 => k_is)
    (case cx27 => k_is)
    (case kx27 => k_is)
    (case ax27CBr => k_is)
    (case ax28 => k_is)
    (case gx28 => k_is)
    (case tx28 => k_is)
    (case bx28 => k_is)
    (case lx28 => k_is)
    (case cx28 => k_is)
    (case kx28 => k_is)
    (case ax28CBr => k_is)
    (case ax29 => k_is)
    (case gx29 => k_is)
    (case tx29 => k_is)
    (case bx29 => k_is)
    (case lx29 => k_is)
    (case cx29 => k_is)
    (case kx29 => k_is)
    (case ax29CBr => k_is)
    (case ax30 => k_is)
    (case ix30 => k_is)
    (case lx30 => k_is)
    (case cx30 => k_is)
    (case kx30 => k_is)
    (case ax30CBr => k_is)
    (case ax31 => k_is)
    (case ix31 => k_is)
    (case lx31 => k_is)
    (case cx31 => k_is)
    (case kx31 => k_is)
    (case ax31CBr => k_is)
    (case ax32 => k_is)
    (case ix32 => k_is)
    (case lx32 => k_is)
    (case cx32 => k_is)
    (case kx32 => k_is)
    (case ax32CBr => k_is)
    (case ax33 => k_is)
    (case ix33 => k_is)
    (case lx33 => k_is)
    (case cx33 => k_is)
    (case kx33 => k_is)
    (case ax34 => k_is)
    (case ix34 => k_is)
    (case lx34 => k_is)
    (case cx34 => k_is)
    (case kx34 => k_is)
    (case ax35 => k_is)
    (case lx35 => k_is)
    (case cx35 => k_is)
    (case kx35 => k_is)
    (case ax36 => k_is)
    (case lx36 => k_is)
    (case cx36 => k_is)
    (case kx36 => k_is)
    (case ax37 => k_is)
    (case bx37 => k_is)
    (case lx37 => k_is)
    (case cx37 => k_is)
    (case kx37 => k_is)
    (case ax38 => k_is)
    (case bx38 => k_is)
    (case lx38 => k_is)
    (case cx38 => k_is)
    (case kx38 => k_is)
    (case nx38 => k_is)
    (case ax39 => k_is)
    (case lx39 => k_is)
    (case cx39 => k_is)
    (case kx39 => k_is)
    (case ax40 => k_is)
    (case gx40 => k_is)
    (case tx40 => k_is)
    (case bx40 => k_is)
    (case lx40 => k_is)
    (case cx40 => k_is)
    (case kx40 => k_is)
    (case ax40CBr => k_is)
    (case ax41 => k_is)
    (case lx41 => k_is)
    (case cx41 => k_is)
    (case kx41 => k_is)
    (case ax42 => k_is)
    (case lx42 => k_is)
    (case cx42 => k_is)
    (case kx42 => k_is)
    (case ax43 => k_is)
    (case lx43 => k_is)
    (case cx43 => k_is)
    (case kx43 => k_is)
    (case ax44 => k_is)
    (case lx44 => k_is)
    (case cx44 => k_is)
    (case kx44 => k_is)
    (case ax45 => k_is)
    (case lx45 => k_is)
    (case cx45 => k_is)
    (case kx45 => k_is)
    (case ax46 => k_is)
    (case lx46 => k_is)
    (case cx46 => k_is)
    (case kx46 => k_is)
    (case ax47 => k_is)
    (case lx47 => k_is)
    (case cx47 => k_is)
    (case kx47 => k_is)
    (case ax48 => k_is)
    (case lx48 => k_is)
    (case cx48 => k_is)
    (case kx48 => k_is)
    (case ax49 => k_is)
    (case lx49 => k_is)
    (case cx49 => k_is)
    (case kx49 => k_is)
    (case ax50 => k_is)
    (case lx50 => k_is)
    (case cx50 => k_is)
    (case kx50 => k_is)
    (case ax51 => k_is)
    (case lx51 => k_is)
    (case cx51 => k_is)
    (case kx51 => k_is)
    (case ax52 => k_is)
    (case lx52 => k_is)
    (case cx52 => k_is)
    (case kx52 => k_is)
    (case ax53 => k_is)
    (case lx53 => k_is)
    (case cx53 => k_is)
    (case kx53 => k_is)
    (case ax54 => k_is)
    (case lx54 => k_is)
    (case cx54 => k_is)
    (case kx54 => k_is)
    (case z0 => k_is)
    (case z1 => k_is)
    (case z2 => k_is)
    (case z3 => k_is)
    (case z4 => k_is)
    (case z5 => k_is)
    (case z6 => k_is)
    (case z7 => k_is)
    (case z8 => k_is)
    (case z9 => k_is)
    (case z10 => k_is)
    (case z11 => k_is)
    (case z12 => k_is)
    (case z13 => k_is)
    (case z14 => k_is)
    (case y1 => exact rfl)
    (case y2 => exact rfl)
