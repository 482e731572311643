import PyProof.Rows.All
import Wide.All
import OpenK.AllK
import Wide.FinOn
import HandS.ForMost
import HandS.Walk
import HandS.Flow
import HandS.Defaults
import HandS.Star
import HandS.MakeKwOnly
import HandS.Property
import HandS.ClsMeth
import HandS.IsInst
import HandS.TupAny
import HandS.SortInts
import HandS.Conv
import HandS.Exc
import HandS.Lambda
import KE.GoesEnum
import HandS.OwnEq
import PyProof.InstNe
import HandS.NoneIn
import HandS.TupMul
import HandS.Flt
import KE.DatumOrd
import HandS.NestedK
import HandS.GenCall
import PySem.Challenge.RW_nestcount_k39_places_read
import HandS.Wide
import HandS.WideBits
import HandS.Style
import KE.KSuper
import HandS.ExcInit
import HandS.ExcField
import HandS.ExcOwn
import HandS.ExcValue
import KE.KExcInit
import KE.KTryMore
import HandS.TryMany
import KE.KExcIs
import HandS.ExcIs
import HandS.Zip
import KE.KStar
import HandS.MethStar
import HandS.GenBody
import HandS.GenYield
import HandS.GenList
import HandS.Iter
import KE.KParD
import HandS.DictComp
import HandS.ListItems
import KE.KIsAll
import HandS.Deep
import HandS.List
import PyProof.EqAt
import HandS.Call
import HandS.EndOwn
import PyProof.AutoSeq1
import KE.OsRunLaw
import KE.KNestM
import KE.KExcLine
set_option Elab.async false
set_option linter.all false
set_option maxRecDepth 100000
set_option maxHeartbeats 2000000
namespace Ab
open PySem PySem.W PySem.Calls PyProof.Rows HeadRun
theorem left_oneKm {p q : Program} {loose : List Str} {Xt : Shared → Bool} {K : Params → Frag} {as : List Addr} {ek : ∀ P, as = (K P).map (·.1)} {ts : List Addr} {N M : Nat}
    (e : opening p = plainProg p.main.scope.names) (hN : Nat.ble 600 N = true) (f : ∀ s, fenceModules? p s = some s) (le : Nat.ble M N = true)
    (run : ∀ (w : World) (os : OsState), (endF (stepQ (denQ tabQ) p w) M p w os).map (fun s => (looksF p (boot_heap w.params) s.abs, seenQ q loose (importedModules p.main.body) Xt s.abs, (as.map (getT s), ts.map (getT s)))) = some (true, openGood q loose, ((K w.params).map fun x => some x.2, ts.map fun _ => some (tabObj #[])))) :
    LeftO p q loose Xt (Hook.obs (kmHook K as ek ts)) (Hook.val (kmHook K as ek ts)) N true :=
  left_one (M := M) e hN f le fun w os => by
    have z := run w os
    have eo : (fun s : SharedT => (looksF p (boot_heap w.params) s.abs, seenQ q loose (importedModules p.main.body) Xt s.abs, (as.map (getT s), ts.map (getT s)))) = fun s => (looksF p (boot_heap w.params) s.abs, seenQ q loose (importedModules p.main.body) Xt s.abs, Hook.obs (kmHook K as ek ts) s.abs) := by
      funext s
      have q1 : (as.map (getT s), ts.map (getT s)) = Hook.obs (kmHook K as ek ts) s.abs := by
        show _ = (as.map s.abs.heap.get?, ts.map s.abs.heap.get?)
        rw [List.map_congr_left fun a _ => getT_eq s a, List.map_congr_left fun a _ => getT_eq s a]
      rw [q1]
      rfl
    rw [eo] at z
    simp only [endQ_eq, seenQ_eq]
    exact z
end Ab
local macro_rules
  | `(tactic| o_head $H) => `(tactic| o_headL $H)
local macro_rules
  | `(tactic| refine $e) => match e with
    | `($f:ident (M := $m) $a $b $c $d $r) => if f.getId.eraseMacroScopes == `HeadRun.left_oneK then `(tactic| refine Ab.left_oneKm (M := $m) $a $b $c $d $r) else Lean.Macro.throwUnsupported
    | _ => Lean.Macro.throwUnsupported
open PySem PySem.W PyProof.Rows in
set_option maxHeartbeats 0 in
open_top HDTOP for PySem.Challenge.rw_nestcount_k39_places_read
/-! Ab: an abstract state over HandS: values without addresses, a list of cells that may change; no heap is seen by a def's proof. -/
namespace Ab
open PySem PySem.Spec PyProof.Rows L2
/-- the object at b, as it stands -/
def rawH (b : Addr) (o : Obj) : HO := .ext fun h => h.get? b = some o
/-- all but raw things -/
def Kp (H H' : Hp) : Prop := ∀ b x, H b = some x → (∀ o, x ≠ rawH b o) → H' b = some x
theorem Kp.refl (H : Hp) : Kp H H := fun _ _ e _ => e
theorem Kp.same {H H' : Hp} (e : Same H H') : Kp H H' := fun b x h _ => e b x h
theorem Kp.trans {H H1 H2 : Hp} (a : Kp H H1) (b : Kp H1 H2) : Kp H H2 := fun c x h n => b c x (a c x h n) n
inductive Val where
  | non | bl (b : Bool) | int (i : Int) | str (x : Str) | ty (n : String) | ptr (a : Addr)
  | lst (xs : List Val) | tup (xs : List Val)
  | obj (C : Addr) (fs : List (Str × Val))
  | exc (C : Addr) (fs : List (Str × Val))
  /-- a lambda; what stood when it was made -/
  | lam (a : Addr) (H1 : Hp)
/-- a caught exception of the class at C, its dict -/
def exH (a C : Addr) (d : Option Addr) : HO := .ext fun h => ∃ (oe : Obj) (vs : Array Value), h.get? a = some oe ∧ Zc (.ref C) d oe ∧ oe.data = .fields vs
mutual
inductive Rep (K : PySem.W.Frag) (H : Hp) : Val → V → Prop
  | non : Rep K H .non .non
  | bl (b : Bool) : Rep K H (.bl b) (.bl b)
  | int (i : Int) : Rep K H (.int i) (.int i)
  | str (x : Str) : Rep K H (.str x) (.str x)
  | ty (n : String) : Rep K H (.ty n) (.ty n)
  | ptr (a : Addr) : Rep K H (.ptr a) (.ref a)
  | lst {a : Addr} {xs : List V} {ds : List Val} : SqL K H a xs → RepA K H ds xs → Rep K H (.lst ds) (.ref a)
  | tup {a : Addr} {xs : List V} {ds : List Val} : SqT K H a xs → RepA K H ds xs → Rep K H (.tup ds) (.ref a)
  | obj {a C dx : Addr} {gs : List (Str × V)} {fs : List (Str × Val)} : H a = some (.ins C dx gs) → RepF K H fs gs → Rep K H (.obj C fs) (.ref a)
  | exc {a C dd : Addr} {gs : List (Str × V)} {fs : List (Str × Val)} : H a = some (exH a C (some dd)) → H dd = some (.xd gs) → RepF K H fs gs → Rep K H (.exc C fs) (.ref a)
  | exc0 {a C : Addr} : H a = some (exH a C none) → Rep K H (.exc C []) (.ref a)
  | lam {a : Addr} {H1 : Hp} : Kp H1 H → Rep K H (.lam a H1) (.ref a)
inductive RepA (K : PySem.W.Frag) (H : Hp) : List Val → List V → Prop
  | nil : RepA K H [] []
  | cons {d : Val} {v : V} {ds : List Val} {vs : List V} : Rep K H d v → RepA K H ds vs → RepA K H (d :: ds) (v :: vs)
inductive RepF (K : PySem.W.Frag) (H : Hp) : List (Str × Val) → List (Str × V) → Prop
  | nil : RepF K H [] []
  | cons {f : Str} {d : Val} {v : V} {fs : List (Str × Val)} {gs : List (Str × V)} : Rep K H d v → RepF K H fs gs → RepF K H ((f, d) :: fs) ((f, v) :: gs)
end
theorem sameT {K : PySem.W.Frag} {H H' : Hp} {a : Addr} {xs : List V} (e : Same H H') (h : SqT K H a xs) : SqT K H' a xs := by
  rcases h with (h | ⟨o, h⟩) | h
  · exact .inl (.inl (e _ _ h))
  · exact .inl (.inr ⟨o, e _ _ h⟩)
  · exact .inr h
mutual
theorem Rep.mono {K : PySem.W.Frag} {H H' : Hp} (e : Same H H') : ∀ {d : Val} {v : V}, Rep K H d v → Rep K H' d v
  | _, _, .non => .non
  | _, _, .bl b => .bl b
  | _, _, .int i => .int i
  | _, _, .str x => .str x
  | _, _, .ty n => .ty n
  | _, _, .ptr a => .ptr a
  | _, _, .lst h r => .lst (e.seq h) (RepA.mono e r)
  | _, _, .tup h r => .tup (sameT e h) (RepA.mono e r)
  | _, _, .obj h r => .obj (e _ _ h) (RepF.mono e r)
  | _, _, .exc h d r => .exc (e _ _ h) (e _ _ d) (RepF.mono e r)
  | _, _, .exc0 h => .exc0 (e _ _ h)
  | _, _, .lam h => .lam (h.trans (.same e))
theorem RepA.mono {K : PySem.W.Frag} {H H' : Hp} (e : Same H H') : ∀ {ds : List Val} {vs : List V}, RepA K H ds vs → RepA K H' ds vs
  | _, _, .nil => .nil
  | _, _, .cons a r => .cons (Rep.mono e a) (RepA.mono e r)
theorem RepF.mono {K : PySem.W.Frag} {H H' : Hp} (e : Same H H') : ∀ {ds : List (Str × Val)} {vs : List (Str × V)}, RepF K H ds vs → RepF K H' ds vs
  | _, _, .nil => .nil
  | _, _, .cons a r => .cons (Rep.mono e a) (RepF.mono e r)
end
/-- fields, stored -/
def putV (f : Str) (v : Val) : List (Str × Val) → List (Str × Val)
  | [] => [(f, v)]
  | (g, x) :: r => if g = f then (g, v) :: r else (g, x) :: putV f v r
theorem RepF.lookup {K : PySem.W.Frag} {H : Hp} {f : Str} {d : Val} : ∀ {fs : List (Str × Val)} {gs : List (Str × V)}, RepF K H fs gs → fs.lookup f = some d → ∃ v, gs.lookup f = some v ∧ Rep K H d v
  | _, _, .nil, e => by cases e
  | (g, x) :: fs, _, .cons (v := v) (gs := gs) a r, e => by
    rw [List.lookup_cons] at e ⊢
    cases q : f == g with
    | true =>
      rw [q] at e
      cases e
      exact ⟨v, rfl, a⟩
    | false =>
      rw [q] at e
      exact RepF.lookup r e
theorem RepF.none {K : PySem.W.Frag} {H : Hp} {f : Str} : ∀ {fs : List (Str × Val)} {gs : List (Str × V)}, RepF K H fs gs → fs.lookup f = none → gs.lookup f = none
  | _, _, .nil, _ => rfl
  | (g, x) :: fs, _, .cons (v := v) (gs := gs) a r, e => by
    rw [List.lookup_cons] at e ⊢
    cases q : f == g with
    | true =>
      rw [q] at e
      cases e
    | false =>
      rw [q] at e
      exact RepF.none r e
theorem RepF.put {K : PySem.W.Frag} {H : Hp} {f : Str} {d : Val} {v : V} (hd : Rep K H d v) : ∀ {fs : List (Str × Val)} {gs : List (Str × V)}, RepF K H fs gs → RepF K H (putV f d fs) (putF f v gs)
  | _, _, .nil => .cons hd .nil
  | (g, x) :: fs, _, .cons (v := w) (gs := gs) a r => by
    unfold putV putF
    by_cases q : g = f
    · rw [if_pos q, if_pos q]
      exact .cons hd r
    · rw [if_neg q, if_neg q]
      exact .cons a (RepF.put hd r)
theorem RepF.length {K : PySem.W.Frag} {H : Hp} : ∀ {fs : List (Str × Val)} {gs : List (Str × V)}, RepF K H fs gs → fs.length = gs.length
  | _, _, .nil => rfl
  | _, _, .cons _ r => congrArg Nat.succ (RepF.length r)
/-- a dict's pairs -/
inductive RepK (K : PySem.W.Frag) (H : Hp) : List (Key × Val) → List (Key × V) → Prop
  | nil : RepK K H [] []
  | cons {f : Key} {d : Val} {v : V} {fs : List (Key × Val)} {gs : List (Key × V)} : Rep K H d v → RepK K H fs gs → RepK K H ((f, d) :: fs) ((f, v) :: gs)
theorem RepK.mono {K : PySem.W.Frag} {H H' : Hp} (e : Same H H') : ∀ {ds : List (Key × Val)} {vs : List (Key × V)}, RepK K H ds vs → RepK K H' ds vs
  | _, _, .nil => .nil
  | _, _, .cons a r => .cons (Rep.mono e a) (RepK.mono e r)
theorem RepK.length {K : PySem.W.Frag} {H : Hp} : ∀ {fs : List (Key × Val)} {gs : List (Key × V)}, RepK K H fs gs → fs.length = gs.length
  | _, _, .nil => rfl
  | _, _, .cons _ r => congrArg Nat.succ (RepK.length r)
def dGet : List (Key × Val) → Key → Option Val
  | [], _ => none
  | (g, x) :: r, k => if g = k then some x else dGet r k
def dPut (kvs : List (Key × Val)) (k : Key) (v : Val) : List (Key × Val) :=
  if (kvs.any fun kv => decide (kv.1 = k)) = true then kvs.map (fun kv => if kv.1 = k then (kv.1, v) else kv) else kvs ++ [(k, v)]
theorem RepK.any {K : PySem.W.Frag} {H : Hp} {k : Key} : ∀ {fs : List (Key × Val)} {gs : List (Key × V)}, RepK K H fs gs → (fs.any fun kv => decide (kv.1 = k)) = (gs.any fun kv => decide (kv.1 = k))
  | _, _, .nil => rfl
  | _, _, .cons a r => by
    rw [List.any_cons, List.any_cons, RepK.any r]
theorem RepK.maps {K : PySem.W.Frag} {H : Hp} {k : Key} {d : Val} {v : V} (hd : Rep K H d v) : ∀ {fs : List (Key × Val)} {gs : List (Key × V)}, RepK K H fs gs → RepK K H (fs.map (fun kv => if kv.1 = k then (kv.1, d) else kv)) (gs.map (fun kv => if kv.1 = k then (kv.1, v) else kv))
  | _, _, .nil => .nil
  | (g, x) :: _, _, .cons (v := w) a r => by
    rw [List.map_cons, List.map_cons]
    by_cases q : g = k
    · rw [if_pos q, if_pos q]
      exact .cons hd (RepK.maps hd r)
    · rw [if_neg q, if_neg q]
      exact .cons a (RepK.maps hd r)
theorem RepK.append {K : PySem.W.Frag} {H : Hp} : ∀ {fs fs' : List (Key × Val)} {gs gs' : List (Key × V)}, RepK K H fs gs → RepK K H fs' gs' → RepK K H (fs ++ fs') (gs ++ gs')
  | _, _, _, _, .nil, r => r
  | _, _, _, _, .cons a r, q => .cons a (RepK.append r q)
theorem RepK.put {K : PySem.W.Frag} {H : Hp} {k : Key} {d : Val} {v : V} (hd : Rep K H d v) {fs : List (Key × Val)} {gs : List (Key × V)} (r : RepK K H fs gs) : RepK K H (dPut fs k d) (putK gs k v) := by
  unfold dPut putK
  rw [r.any]
  by_cases q : (gs.any fun kv => decide (kv.1 = k)) = true
  · rw [if_pos q, if_pos q]
    exact r.maps hd
  · rw [if_neg q, if_neg q]
    exact r.append (.cons hd .nil)
theorem RepK.get {K : PySem.W.Frag} {H : Hp} {k : Key} {d : Val} : ∀ {fs : List (Key × Val)} {gs : List (Key × V)}, RepK K H fs gs → dGet fs k = some d → ∃ v, valV gs k = some v ∧ Rep K H d v
  | _, _, .nil, e => by cases e
  | (g, x) :: fs, _, .cons (v := v) (gs := gs) a r, e => by
    unfold dGet at e
    by_cases q : g = k
    · rw [if_pos q] at e
      cases e
      exact ⟨v, valV_pos q, a⟩
    · rw [if_neg q] at e
      rw [valV_neg (p := (g, v)) q]
      exact RepK.get r e
section
variable {K : PySem.W.Frag} {H H' : Hp}
theorem RepA.length : ∀ {ds : List Val} {vs : List V}, RepA K H ds vs → ds.length = vs.length
  | _, _, .nil => rfl
  | _, _, .cons _ r => congrArg Nat.succ (RepA.length r)
theorem RepA.get : ∀ {ds : List Val} {vs : List V} {i : Nat} {d : Val}, RepA K H ds vs → ds[i]? = some d → ∃ v, vs[i]? = some v ∧ Rep K H d v
  | _, _, _, _, .nil, e => by simp at e
  | _, _, 0, _, .cons r _, e => by simp at e; subst e; exact ⟨_, rfl, r⟩
  | _, _, i + 1, d, .cons _ t, e => by
    obtain ⟨u, h1, h2⟩ := RepA.get (i := i) (d := d) t (by simpa using e)
    exact ⟨u, by simpa using h1, h2⟩
theorem RepA.getV : ∀ {ds : List Val} {vs : List V} {i : Nat} {v : V}, RepA K H ds vs → vs[i]? = some v → ∃ d, ds[i]? = some d ∧ Rep K H d v
  | _, _, _, _, .nil, e => by simp at e
  | _, _, 0, _, .cons r _, e => by simp at e; subst e; exact ⟨_, rfl, r⟩
  | _, _, i + 1, d, .cons _ t, e => by
    obtain ⟨u, h1, h2⟩ := RepA.getV (i := i) (v := d) t (by simpa using e)
    exact ⟨u, by simpa using h1, h2⟩
theorem RepA.append : ∀ {ds es : List Val} {vs ws : List V}, RepA K H ds vs → RepA K H es ws → RepA K H (ds ++ es) (vs ++ ws)
  | _, _, _, _, .nil, s => s
  | _, _, _, _, .cons r t, s => .cons r (RepA.append t s)
theorem RepA.set {d : Val} {v : V} (r : Rep K H d v) : ∀ {ds : List Val} {vs : List V} (i : Nat), RepA K H ds vs → RepA K H (ds.set i d) (vs.set i v)
  | _, _, _, .nil => .nil
  | _, _, 0, .cons _ t => .cons r t
  | _, _, i + 1, .cons q t => .cons q (RepA.set r i t)
theorem RepA.take : ∀ {ds : List Val} {vs : List V} (n : Nat), RepA K H ds vs → RepA K H (ds.take n) (vs.take n)
  | _, _, 0, _ => .nil
  | _, _, _ + 1, .nil => .nil
  | _, _, n + 1, .cons r t => .cons r (RepA.take n t)
theorem RepA.drop : ∀ {ds : List Val} {vs : List V} (n : Nat), RepA K H ds vs → RepA K H (ds.drop n) (vs.drop n)
  | _, _, 0, r => r
  | _, _, _ + 1, .nil => .nil
  | _, _, n + 1, .cons _ t => RepA.drop n t
theorem RepA.ints : ∀ {ns : List Int} {vs : List V}, RepA K H (ns.map Val.int) vs → vs = ns.map V.int
  | [], _, .nil => rfl
  | _ :: ns, _, .cons (.int _) t => by rw [RepA.ints (ns := ns) t, List.map_cons]
theorem RepA.ofInts : ∀ (ns : List Int), RepA K H (ns.map Val.int) (ns.map V.int)
  | [] => .nil
  | n :: ns => .cons (.int n) (RepA.ofInts ns)
theorem RepA.bls : ∀ {ns : List Bool} {vs : List V}, RepA K H (ns.map Val.bl) vs → vs = ns.map V.bl
  | [], _, .nil => rfl
  | _ :: ns, _, .cons (.bl _) t => by rw [RepA.bls (ns := ns) t, List.map_cons]
end
/-! ### what may change -/
inductive Cell0 where
  | lst (xs : List Val)
  | dk (kvs : List (Key × Val))
  | ins (C : Addr) (fs : List (Str × Val))
  /-- a dict while it is known to the object (a loop walks it) -/
  | fz (od : Obj) (kvs : List (Key × V)) (ds : List (Key × Val))
  /-- a table of code objects, all of the name q -/
  | tb (q : Str)
abbrev Mem0 := List (Addr × Cell0)
/-- a cell, or a box: some cells of which only phi is told -/
inductive Cell where
  | b (c : Cell0)
  | box (φ : Mem0 → Prop)
abbrev Cell.lst (xs : List Val) : Cell := .b (.lst xs)
abbrev Cell.dk (kvs : List (Key × Val)) : Cell := .b (.dk kvs)
abbrev Cell.ins (C : Addr) (fs : List (Str × Val)) : Cell := .b (.ins C fs)
def RepC (K : PySem.W.Frag) (H : Hp) : Cell0 → HO → Prop
  | .lst ds, o => ∃ xs, o = .lst xs ∧ RepA K H ds xs
  | .dk ds, o => ∃ kvs : List (Key × V), o = .dK kvs ∧ RepK K H ds kvs
  | .ins C ds, o => ∃ dx fs, o = .ins C dx fs ∧ RepF K H ds fs
  | .fz od kvs ds, o => o = .frz od (.dK kvs) ∧ RepK K H ds kvs
  | .tb q, o => ∃ ps : Array Value, o = .tbl ps ∧ TriplesOk ps.toList ∧ ∀ (pos : Pos) (cv : Value), codeAmong pos ps.toList = some cv → ∃ c, cv = .ref c ∧ H c = some (LamX.CodeO c q)
theorem RepC.mono {K : PySem.W.Frag} {H H' : Hp} (e : Same H H') : ∀ {c : Cell0} {o : HO}, RepC K H c o → RepC K H' c o
  | .lst _, _, ⟨xs, h, r⟩ => ⟨xs, h, r.mono e⟩
  | .dk _, _, ⟨kvs, h, r⟩ => ⟨kvs, h, r.mono e⟩
  | .ins _ _, _, ⟨dx, fs, h, r⟩ => ⟨dx, fs, h, r.mono e⟩
  | .fz _ _ _, _, ⟨h, r⟩ => ⟨h, r.mono e⟩
  | .tb _, _, ⟨ps, h, t, r⟩ => ⟨ps, h, t, fun pos cv hc => let ⟨c, h1, h2⟩ := r pos cv hc; ⟨c, h1, e _ _ h2⟩⟩
abbrev Mem := List (Addr × Cell)
/-- Hi: what never changes; F: the cells -/
structure Ok0 (K : PySem.W.Frag) (Hi : Hp) (F : Mem0) (H : Hp) : Prop where
  im : Same Hi H
  ce : ∀ a c, (a, c) ∈ F → Hi a = none ∧ ∃ o, H a = some o ∧ RepC K Hi c o
  nd : (F.map (·.1)).Nodup
/-- the cells of an entry -/
def Opn (p : Addr) : Cell → Mem0 → Prop
  | .b c, B => B = [(p, c)]
  | .box φ, B => φ B ∧ p ∈ B.map (·.1)
inductive Flat : Mem → Mem0 → Prop
  | nil : Flat [] []
  | cons {p : Addr} {c : Cell} {M : Mem} {B F : Mem0} : Opn p c B → Flat M F → Flat ((p, c) :: M) (B ++ F)
def Ok (K : PySem.W.Frag) (Hi : Hp) (M : Mem) (H : Hp) : Prop := ∃ F, Flat M F ∧ Ok0 K Hi F H
theorem same_upd {H : Hp} {p : Addr} {o : HO} (h : H p = none) : Same H (upd H p o) := fun b x e => by
  rw [upd_ne (ne_of_none e h)]
  exact e
section
variable {K : PySem.W.Frag} {Hi Hi' H H' : Hp} {F F' : Mem0} {a p : Addr} {c c' : Cell0} {o : HO}
theorem Ok0.none (k : Ok0 K Hi F H) (h : H p = Option.none) : Hi p = Option.none := k.im.free h
theorem Ok0.notin (k : Ok0 K Hi F H) (h : H p = Option.none) : ∀ c, (p, c) ∉ F := fun c hm => by
  obtain ⟨_, o, e, _⟩ := k.ce p c hm
  rw [h] at e
  cases e
theorem Ok0.fresh (k : Ok0 K Hi F H) (h : H p = Option.none) : p ∉ F.map (·.1) := fun hm => by
  obtain ⟨⟨q, c⟩, h1, h2⟩ := List.mem_map.mp hm
  have e : q = p := h2
  subst e
  exact k.notin h c h1
theorem Ok0.imm (k : Ok0 K Hi F H) (h : H p = Option.none) : Ok0 K (upd Hi p o) F (upd H p o) where
  im := fun b x e => by
    by_cases hb : b = p
    · subst hb
      rw [upd_same] at e ⊢
      exact e
    · rw [upd_ne hb] at e ⊢
      exact k.im b x e
  ce := fun a c hm => by
    obtain ⟨e0, o', e, r⟩ := k.ce a c hm
    have hb : a ≠ p := fun z => k.notin h c (z ▸ hm)
    refine ⟨by rw [upd_ne hb]; exact e0, o', by rw [upd_ne hb]; exact e, r.mono (same_upd (k.none h))⟩
  nd := k.nd
theorem Ok0.new (k : Ok0 K Hi F H) (h : H p = Option.none) (r : RepC K Hi c o) : Ok0 K Hi ((p, c) :: F) (upd H p o) where
  im := fun b x e => by
    have hb : b ≠ p := fun z => by
      subst z
      rw [k.none h] at e
      cases e
    rw [upd_ne hb]
    exact k.im b x e
  ce := fun a c' hm => by
    rcases List.mem_cons.mp hm with e | hm
    · cases e
      exact ⟨k.none h, o, upd_same, r⟩
    · obtain ⟨e0, o', e, r'⟩ := k.ce a c' hm
      have hb : a ≠ p := fun z => k.notin h c' (z ▸ hm)
      exact ⟨e0, o', by rw [upd_ne hb]; exact e, r'⟩
  nd := by
    rw [List.map_cons]
    exact List.nodup_cons.mpr ⟨k.fresh h, k.nd⟩
theorem Ok0.perm (k : Ok0 K Hi F H) (s : F'.Perm F) : Ok0 K Hi F' H := ⟨k.im, fun a c h => k.ce a c (s.subset h), (s.map _).nodup_iff.mpr k.nd⟩
theorem Ok0.sub (k : Ok0 K Hi F H) (s : F'.Sublist F) : Ok0 K Hi F' H := ⟨k.im, fun a c h => k.ce a c (s.subset h), k.nd.sublist (s.map _)⟩
/-- the first cell is written -/
theorem Ok0.set (k : Ok0 K Hi ((a, c) :: F) H) (r : RepC K Hi c' o) : Ok0 K Hi ((a, c') :: F) (upd H a o) where
  im := fun b x e => by
    have hb : b ≠ a := fun z => by
      subst z
      rw [(k.ce b c List.mem_cons_self).1] at e
      cases e
    rw [upd_ne hb]
    exact k.im b x e
  ce := fun b d hm => by
    have nd := k.nd
    rw [List.map_cons] at nd
    rcases List.mem_cons.mp hm with e | hm2
    · cases e
      exact ⟨(k.ce a c List.mem_cons_self).1, o, upd_same, r⟩
    · have hb : b ≠ a := fun z => by
        subst z
        exact (List.nodup_cons.mp nd).1 (List.mem_map.mpr ⟨(b, d), hm2, rfl⟩)
      obtain ⟨e0, o', e, r'⟩ := k.ce b d (List.mem_cons_of_mem _ hm2)
      exact ⟨e0, o', by rw [upd_ne hb]; exact e, r'⟩
  nd := k.nd
/-- the first cell will change no more -/
theorem Ok0.freeze (k : Ok0 K Hi ((p, c) :: F) H) (h : H p = some o) : Ok0 K (upd Hi p o) F H where
  im := fun b x e => by
    by_cases hb : b = p
    · subst hb
      rw [upd_same] at e
      rw [h]
      exact e
    · rw [upd_ne hb] at e
      exact k.im b x e
  ce := fun a d hm => by
    obtain ⟨e0, o', e, r⟩ := k.ce a d (List.mem_cons_of_mem _ hm)
    have nd := k.nd
    rw [List.map_cons] at nd
    have hb : a ≠ p := fun z => by
      subst z
      exact (List.nodup_cons.mp nd).1 (List.mem_map.mpr ⟨(a, d), hm, rfl⟩)
    exact ⟨by rw [upd_ne hb]; exact e0, o', e, r.mono (same_upd (k.ce p c List.mem_cons_self).1)⟩
  nd := by
    have nd := k.nd
    rw [List.map_cons] at nd
    exact (List.nodup_cons.mp nd).2
end
theorem Flat.append : ∀ {M M' : Mem} {F F' : Mem0}, Flat M F → Flat M' F' → Flat (M ++ M') (F ++ F')
  | _, _, _, _, .nil, q => q
  | _, _, _, _, .cons (B := B) (F := F) o r, q => by
    rw [List.append_assoc]
    exact .cons o (r.append q)
theorem Flat.split : ∀ {M M' : Mem} {F : Mem0}, Flat (M ++ M') F → ∃ F1 F2, F = F1 ++ F2 ∧ Flat M F1 ∧ Flat M' F2
  | [], _, F, h => ⟨[], F, rfl, .nil, h⟩
  | (p, c) :: M, M', _, .cons (B := B) (F := F) o r => by
    obtain ⟨F1, F2, rfl, h1, h2⟩ := Flat.split r
    exact ⟨B ++ F1, F2, by rw [List.append_assoc], .cons o h1, h2⟩
theorem Flat.one {p : Addr} {c : Cell0} {M : Mem} {F : Mem0} (h : Flat M F) : Flat ((p, .b c) :: M) ((p, c) :: F) := .cons (B := [(p, c)]) rfl h
theorem Flat.mem {p : Addr} {c : Cell} : ∀ {M : Mem} {F : Mem0}, Flat M F → (p, c) ∈ M → ∃ B, Opn p c B ∧ B.Sublist F
  | _, _, .nil, h => nomatch h
  | _, _, .cons (B := B) (F := F) o r, h => by
    rcases List.mem_cons.mp h with e | h
    · cases e
      exact ⟨B, o, List.sublist_append_left _ _⟩
    · obtain ⟨B', h1, h2⟩ := r.mem h
      exact ⟨B', h1, h2.trans (List.sublist_append_right _ _)⟩
theorem Flat.perm {M M' : Mem} (s : M.Perm M') : ∀ {F : Mem0}, Flat M F → ∃ F', Flat M' F' ∧ F'.Perm F := by
  induction s with
  | nil => exact fun h => ⟨_, h, .refl _⟩
  | cons x _ ih =>
    intro F h
    cases h with
    | cons o r =>
      obtain ⟨F', h1, h2⟩ := ih r
      exact ⟨_, .cons o h1, h2.append_left _⟩
  | swap x y l =>
    intro F h
    cases h with
    | cons o r =>
      cases r with
      | cons o2 r2 =>
        refine ⟨_, .cons o2 (.cons o r2), ?_⟩
        rw [← List.append_assoc, ← List.append_assoc]
        exact List.perm_append_comm.append_right _
  | trans _ _ ih1 ih2 =>
    intro F h
    obtain ⟨F', h1, h2⟩ := ih1 h
    obtain ⟨F'', h3, h4⟩ := ih2 h1
    exact ⟨F'', h3, h4.trans h2⟩
theorem Flat.sub {M M' : Mem} (s : M'.Sublist M) : ∀ {F : Mem0}, Flat M F → ∃ F', Flat M' F' ∧ F'.Sublist F := by
  induction s with
  | slnil => exact fun h => ⟨_, h, .refl _⟩
  | cons x _ ih =>
    intro F h
    cases h with
    | cons o r =>
      obtain ⟨F', h1, h2⟩ := ih r
      exact ⟨F', h1, h2.trans (List.sublist_append_right _ _)⟩
  | cons_cons x _ ih =>
    intro F h
    cases h with
    | cons o r =>
      obtain ⟨F', h1, h2⟩ := ih r
      exact ⟨_, .cons o h1, (List.append_sublist_append_left _).mpr h2⟩
section
variable {K : PySem.W.Frag} {Hi Hi' H H' : Hp} {M M' : Mem} {a p : Addr} {c c' : Cell0} {x : Cell} {o : HO} {B : Mem0} {φ : Mem0 → Prop}
theorem Ok.im (k : Ok K Hi M H) : Same Hi H := by
  obtain ⟨F, _, k⟩ := k
  exact k.im
theorem Ok.ce (k : Ok K Hi M H) : ∀ a c, (a, Cell.b c) ∈ M → Hi a = none ∧ ∃ o, H a = some o ∧ RepC K Hi c o := fun a c h => by
  obtain ⟨F, f, k⟩ := k
  obtain ⟨B, h1, h2⟩ := f.mem h
  have h1 : B = [(a, c)] := h1
  subst h1
  exact k.ce a c (h2.subset List.mem_cons_self)
theorem Ok.none (k : Ok K Hi M H) (h : H p = Option.none) : Hi p = Option.none := k.im.free h
theorem Ok.notin (k : Ok K Hi M H) (h : H p = Option.none) : ∀ c, (p, c) ∉ M := fun c hm => by
  obtain ⟨F, f, k⟩ := k
  obtain ⟨B, h1, h2⟩ := f.mem hm
  have hp : p ∈ B.map (·.1) := by
    cases c with
    | b c =>
      have h1 : B = [(p, c)] := h1
      subst h1
      exact List.mem_cons_self
    | box φ => exact h1.2
  exact k.fresh h ((h2.map _).subset hp)
theorem Ok.fresh (k : Ok K Hi M H) (h : H p = Option.none) : p ∉ M.map (·.1) := fun hm => by
  obtain ⟨⟨q, c⟩, h1, h2⟩ := List.mem_map.mp hm
  have e : q = p := h2
  subst e
  exact k.notin h c h1
/-- a new object that never changes -/
theorem Ok.imm (k : Ok K Hi M H) (h : H p = Option.none) : Ok K (upd Hi p o) M (upd H p o) := by
  obtain ⟨F, f, k⟩ := k
  exact ⟨F, f, k.imm h⟩
/-- a new cell -/
theorem Ok.new (k : Ok K Hi M H) (h : H p = Option.none) (r : RepC K Hi c o) : Ok K Hi ((p, .b c) :: M) (upd H p o) := by
  obtain ⟨F, f, k⟩ := k
  exact ⟨_, f.one, k.new h r⟩
theorem Ok.get {i : Nat} (k : Ok K Hi M H) (h : M[i]? = some (a, .b c)) : Hi a = Option.none ∧ ∃ o, H a = some o ∧ RepC K Hi c o := k.ce a c (List.mem_of_getElem? h)
theorem Ok.perm (k : Ok K Hi M H) (s : M'.Perm M) : Ok K Hi M' H := by
  obtain ⟨F, f, k⟩ := k
  obtain ⟨F', f', q⟩ := f.perm s.symm
  exact ⟨F', f', k.perm q⟩
theorem Ok.sub (k : Ok K Hi M H) (s : M'.Sublist M) : Ok K Hi M' H := by
  obtain ⟨F, f, k⟩ := k
  obtain ⟨F', f', q⟩ := f.sub s
  exact ⟨F', f', k.sub q⟩
theorem perm_at {α : Type} {M : List α} {i : Nat} {x : α} (h : M[i]? = some x) : M.Perm (x :: M.eraseIdx i) := by
  induction M generalizing i with
  | nil => cases h
  | cons y M ih =>
    cases i with
    | zero =>
      cases h
      exact .refl _
    | succ i =>
      rw [List.eraseIdx_cons_succ]
      exact ((ih h).cons y).trans (.swap x y _)
theorem perm_set {α : Type} {M : List α} {i : Nat} {x y : α} (h : M[i]? = some x) : (M.set i y).Perm (y :: M.eraseIdx i) := by
  induction M generalizing i with
  | nil => cases h
  | cons z M ih =>
    cases i with
    | zero => exact .refl _
    | succ i =>
      rw [List.eraseIdx_cons_succ, List.set_cons_succ]
      exact ((ih h).cons z).trans (.swap y z _)
/-- a cell is written -/
theorem Ok.set {i : Nat} (k : Ok K Hi M H) (h : M[i]? = some (a, .b c)) (r : RepC K Hi c' o) : Ok K Hi (M.set i (a, .b c')) (upd H a o) := by
  obtain ⟨F, f, k⟩ := k.perm (perm_at h).symm
  refine Ok.perm ?_ (perm_set (y := (a, Cell.b c')) h)
  cases f with
  | cons o f =>
    have o : _ = [(a, c)] := o
    subst o
    exact ⟨_, f.one, Ok0.set k r⟩
/-- the first cell will change no more -/
theorem Ok.freeze (k : Ok K Hi ((p, .b c) :: M) H) (h : H p = some o) : Ok K (upd Hi p o) M H := by
  obtain ⟨F, f, k⟩ := k
  cases f with
  | cons q f =>
    have q : _ = [(p, c)] := q
    subst q
    exact ⟨_, f, Ok0.freeze k h⟩
theorem Ok.tail {c : Cell} (k : Ok K Hi ((p, c) :: M) H) : Ok K Hi M H := k.sub (List.sublist_cons_self _ _)
theorem Ok.all (H : Hp) : Ok K H [] H := ⟨[], .nil, Same.refl H, (fun _ _ h => nomatch h), List.nodup_nil⟩
/-- the cells of a list of cells -/
abbrev bs (B : Mem0) : Mem := B.map fun x => (x.1, Cell.b x.2)
theorem Flat.bs : ∀ B : Mem0, Flat (bs B) B
  | [] => .nil
  | (_, _) :: B => (Flat.bs B).one
theorem Flat.ofBs : ∀ {B F : Mem0}, Flat (Ab.bs B) F → F = B
  | [], _, .nil => rfl
  | (p, c) :: B, _, .cons o r => by
    have o : _ = [(p, c)] := o
    subst o
    rw [Flat.ofBs r]
    rfl
/-- a box is opened, closed -/
theorem Ok.opn {i : Nat} (k : Ok K Hi M H) (h : M[i]? = some (p, .box φ)) : ∃ B, φ B ∧ p ∈ B.map (·.1) ∧ Ok K Hi (bs B ++ M.eraseIdx i) H := by
  obtain ⟨F, f, k⟩ := k.perm (perm_at h).symm
  cases f with
  | cons o f => exact ⟨_, o.1, o.2, _, (Flat.bs _).append f, k⟩
theorem Ok.cls (k : Ok K Hi (bs B ++ M) H) (h : φ B) (hp : p ∈ B.map (·.1)) : Ok K Hi ((p, .box φ) :: M) H := by
  obtain ⟨F, f, k⟩ := k
  obtain ⟨F1, F2, rfl, h1, h2⟩ := f.split
  rw [Flat.ofBs h1] at k
  exact ⟨_, .cons (show Opn p (.box φ) B from ⟨h, hp⟩) h2, k⟩
theorem Ok.clsAt {i : Nat} (k : Ok K Hi (bs B ++ M.eraseIdx i) H) (hi : M[i]? = some (p, x)) (h : φ B) (hp : p ∈ B.map (·.1)) : Ok K Hi (M.set i (p, .box φ)) H :=
  (k.cls h hp).perm (perm_set hi)
end
/-! ### slots -/
abbrev Gam := List (Option Val)
def EnvR (K : PySem.W.Frag) (H : Hp) (Γ : Gam) (σ : L2.St) : Prop := Γ.length = σ.length ∧ ∀ (i : Nat) (d : Val), Γ[i]? = some (some d) → ∃ v, σ[i]? = some (some v) ∧ Rep K H d v
theorem EnvR.mono {K : PySem.W.Frag} {H H' : Hp} {Γ : Gam} {σ : L2.St} (h : EnvR K H Γ σ) (e : Same H H') : EnvR K H' Γ σ := ⟨h.1, fun i d q => by
  obtain ⟨v, h1, h2⟩ := h.2 i d q
  exact ⟨v, h1, h2.mono e⟩⟩
theorem EnvR.set {K : PySem.W.Frag} {H : Hp} {Γ : Gam} {σ : L2.St} {i : Nat} {d : Val} {v : V} (h : EnvR K H Γ σ) (r : Rep K H d v) : EnvR K H (Γ.set i (some d)) (σ.set i (some v)) := by
  refine ⟨by rw [List.length_set, List.length_set]; exact h.1, fun j e q => ?_⟩
  by_cases hij : i = j
  · subst hij
    by_cases hl : i < Γ.length
    · rw [List.getElem?_set_self hl] at q
      cases q
      exact ⟨v, List.getElem?_set_self (h.1 ▸ hl), r⟩
    · rw [List.getElem?_eq_none_iff.mpr (by rw [List.length_set]; omega)] at q
      cases q
  · rw [List.getElem?_set_ne hij] at q
    obtain ⟨w, h1, h2⟩ := h.2 j e q
    exact ⟨w, by rw [List.getElem?_set_ne hij]; exact h1, h2⟩
theorem EnvR.drop {K : PySem.W.Frag} {H : Hp} {Γ Γ' : Gam} {σ : L2.St} (h : EnvR K H Γ σ) (hl : Γ'.length = Γ.length) (w : ∀ (i : Nat) (d : Val), Γ'[i]? = some (some d) → Γ[i]? = some (some d)) : EnvR K H Γ' σ := ⟨hl.trans h.1, fun i d q => h.2 i d (w i d q)⟩
/-! ### the readings that always fit -/
def WE (X : Cx) (e : Expr) : TE := fun σ H Q => ∃ t, PE X e t ∧ t σ H Q
def WT (X : Cx) (e : Expr) : TT := fun σ H Q => ∃ t, PT X e t ∧ t σ H Q
def WA (X : Cx) (es : List Expr) : TA := fun σ H Q => ∃ t, PA X es t ∧ t σ H Q
def WS (X : Cx) (s : Stmt) : TS := fun D σ H => ∃ t, PS X s t ∧ t D σ H
def WB (X : Cx) (s : List Stmt) : TS := fun D σ H => ∃ t, PSs X s t ∧ t D σ H
section
variable {X : Cx}
theorem pe_we {e : Expr} : PE X e (WE X e) := ⟨fun pins s σ H Q I ⟨t, p, h⟩ => p.run pins s σ H Q I h⟩
theorem pt_wt {e : Expr} : PT X e (WT X e) := ⟨fun pins s σ H Q I ⟨t, p, h⟩ => p.run pins s σ H Q I h⟩
theorem pa_wa {es : List Expr} : PA X es (WA X es) := ⟨fun pos pins s σ H Q I ⟨t, p, h⟩ => p.run pos pins s σ H Q I h⟩
theorem ps_ws {s : Stmt} : PS X s (WS X s) := ⟨fun pins s σ H D I ⟨t, p, h⟩ => p.run pins s σ H D I h⟩
theorem pss_wb {s : List Stmt} : PSs X s (WB X s) := ⟨fun pins s σ H D I ⟨t, p, h⟩ => p.run pins s σ H D I h⟩
end
/-! ### the judgements: what a piece does to values and cells -/
def Post (K : PySem.W.Frag) (Hi : Hp) (P : Val → Mem → Prop) (Q : VK) : Prop := ∀ d M' v Hi' H', P d M' → Same Hi Hi' → Ok K Hi' M' H' → Rep K Hi' d v → Q v H'
def PostA (K : PySem.W.Frag) (Hi : Hp) (P : List Val → Mem → Prop) (Q : List V → Hp → Prop) : Prop := ∀ d M' v Hi' H', P d M' → Same Hi Hi' → Ok K Hi' M' H' → RepA K Hi' d v → Q v H'
def PostT (K : PySem.W.Frag) (Hi : Hp) (P : Bool → Mem → Prop) (Q : Bool → Hp → Prop) : Prop := ∀ b M' Hi' H', P b M' → Same Hi Hi' → Ok K Hi' M' H' → Q b H'
theorem Post.up {K : PySem.W.Frag} {Hi Hi1 : Hp} {P : Val → Mem → Prop} {Q : VK} (h : Post K Hi P Q) (e : Same Hi Hi1) : Post K Hi1 P Q := fun d M' v Hi' H' p s => h d M' v Hi' H' p (e.trans s)
theorem PostT.up {K : PySem.W.Frag} {Hi Hi1 : Hp} {P : Bool → Mem → Prop} {Q : Bool → Hp → Prop} (h : PostT K Hi P Q) (e : Same Hi Hi1) : PostT K Hi1 P Q := fun b M' Hi' H' p s => h b M' Hi' H' p (e.trans s)
theorem PostA.up {K : PySem.W.Frag} {Hi Hi1 : Hp} {P : List Val → Mem → Prop} {Q : List V → Hp → Prop} (h : PostA K Hi P Q) (e : Same Hi Hi1) : PostA K Hi1 P Q := fun d M' v Hi' H' p s => h d M' v Hi' H' p (e.trans s)
def aE (X : Cx) (e : Expr) (Γ : Gam) (M : Mem) (P : Val → Mem → Prop) : Prop := ∀ Hi H σ, Ok X.K Hi M H → EnvR X.K Hi Γ σ → ∀ Q : VK, Post X.K Hi P Q → WE X e σ H Q
def aT (X : Cx) (e : Expr) (Γ : Gam) (M : Mem) (P : Bool → Mem → Prop) : Prop := ∀ Hi H σ, Ok X.K Hi M H → EnvR X.K Hi Γ σ → ∀ Q, PostT X.K Hi P Q → WT X e σ H Q
def aA (X : Cx) (es : List Expr) (Γ : Gam) (M : Mem) (P : List Val → Mem → Prop) : Prop := ∀ Hi H σ, Ok X.K Hi M H → EnvR X.K Hi Γ σ → ∀ Q, PostA X.K Hi P Q → WA X es σ H Q
abbrev aV (X : Cx) (e : Expr) (Γ : Gam) (M : Mem) (d : Val) : Prop := aE X e Γ M fun x M' => x = d ∧ M' = M
abbrev aB (X : Cx) (e : Expr) (Γ : Gam) (M : Mem) (b : Bool) : Prop := aT X e Γ M fun x M' => x = b ∧ M' = M
abbrev aVs (X : Cx) (es : List Expr) (Γ : Gam) (M : Mem) (ds : List Val) : Prop := aA X es Γ M fun x M' => x = ds ∧ M' = M
/-- what is wanted behind a statement -/
structure AK where
  nx : Gam → Mem → Prop
  rt : Val → Mem → Prop
  bk : Gam → Mem → Prop := fun _ _ => False
  ct : Gam → Mem → Prop := fun _ _ => False
structure Real (K : PySem.W.Frag) (Hi : Hp) (k : AK) (D : Ends) : Prop where
  nx : ∀ Γ M σ Hi' H', k.nx Γ M → Same Hi Hi' → Ok K Hi' M H' → EnvR K Hi' Γ σ → D.nx σ H'
  rt : ∀ d M v Hi' H', k.rt d M → Same Hi Hi' → Ok K Hi' M H' → Rep K Hi' d v → D.rt v H'
  bk : ∀ Γ M σ Hi' H', k.bk Γ M → Same Hi Hi' → Ok K Hi' M H' → EnvR K Hi' Γ σ → D.bk σ H'
  ct : ∀ Γ M σ Hi' H', k.ct Γ M → Same Hi Hi' → Ok K Hi' M H' → EnvR K Hi' Γ σ → D.ct σ H'
theorem Real.up {K : PySem.W.Frag} {Hi Hi1 : Hp} {k : AK} {D : Ends} (h : Real K Hi k D) (e : Same Hi Hi1) : Real K Hi1 k D :=
  ⟨fun Γ M σ Hi' H' p s => h.nx Γ M σ Hi' H' p (e.trans s), fun d M v Hi' H' p s => h.rt d M v Hi' H' p (e.trans s), fun Γ M σ Hi' H' p s => h.bk Γ M σ Hi' H' p (e.trans s), fun Γ M σ Hi' H' p s => h.ct Γ M σ Hi' H' p (e.trans s)⟩
def aS (X : Cx) (s : Stmt) (Γ : Gam) (M : Mem) (k : AK) : Prop := ∀ Hi H σ, Ok X.K Hi M H → EnvR X.K Hi Γ σ → ∀ D, Real X.K Hi k D → WS X s D σ H
def aSs (X : Cx) (s : List Stmt) (Γ : Gam) (M : Mem) (k : AK) : Prop := ∀ Hi H σ, Ok X.K Hi M H → EnvR X.K Hi Γ σ → ∀ D, Real X.K Hi k D → WB X s D σ H
section
variable {X : Cx} {Γ : Gam} {M : Mem} {P : Val → Mem → Prop} {e a b c : Expr} {es : List Expr} {pos : Pos} {k : AK} {d d1 d2 : Val}
theorem aE.mono {P' : Val → Mem → Prop} (h : aE X e Γ M P) (f : ∀ d M', P d M' → P' d M') : aE X e Γ M P' := fun Hi H σ ok en Q q => h Hi H σ ok en Q fun d M' v Hi' H' p => q d M' v Hi' H' (f d M' p)
theorem aT.mono {P P' : Bool → Mem → Prop} (h : aT X e Γ M P) (f : ∀ d M', P d M' → P' d M') : aT X e Γ M P' := fun Hi H σ ok en Q q => h Hi H σ ok en Q fun d M' Hi' H' p => q d M' Hi' H' (f d M' p)
theorem aE.val (h : aV X e Γ M d) (p : P d M) : aE X e Γ M P := h.mono fun x M' q => by
  obtain ⟨h1, h2⟩ := q
  subst h1 h2
  exact p
theorem aT.val {P : Bool → Mem → Prop} {b : Bool} (h : aB X e Γ M b) (p : P b M) : aT X e Γ M P := h.mono fun x M' q => by
  obtain ⟨h1, h2⟩ := q
  subst h1 h2
  exact p
theorem aA.val {P : List Val → Mem → Prop} {ds : List Val} (h : aVs X es Γ M ds) (p : P ds M) : aA X es Γ M P := fun Hi H σ ok en Q q => h Hi H σ ok en Q fun d M' v Hi' H' r => by
  obtain ⟨h1, h2⟩ := r
  subst h1 h2
  exact q _ _ v Hi' H' p
/-- a constant -/
theorem ae_c {v : V} {d : Val} (hp : PE X e (tC v)) (r : ∀ K H, Rep K H d v) (h : P d M) : aE X e Γ M P := fun Hi H σ ok _ Q q => ⟨_, hp, q d M v Hi H h (Same.refl _) ok (r _ _)⟩
theorem ae_int {i : Int} {j} (h : P (.int i) M) : aE X (.Constant (.int i) j pos) Γ M P := ae_c pe_int (fun _ _ => .int i) h
theorem ae_bl {i : Bool} {j} (h : P (.bl i) M) : aE X (.Constant (.bool i) j pos) Γ M P := ae_c pe_bl (fun _ _ => .bl i) h
theorem ae_str {i : Str} {j} (h : P (.str i) M) : aE X (.Constant (.str i) j pos) Γ M P := ae_c pe_str (fun _ _ => .str i) h
theorem ae_non {j} (h : P .non M) : aE X (.Constant .none j pos) Γ M P := ae_c pe_non (fun _ _ => .non) h
/-- a name of the def -/
theorem ae_var {x : Str} (i : Nat) {d : Val} (hd : Γ[i]? = some (some d)) (h : P d M) (hN : X.N[i]? = some x := by rfl) (hv : Vis X.env.scope x := by first | exact Or.inl rfl | exact Or.inr (Or.inl rfl) | exact Or.inr (Or.inr rfl))
    (hdb : (x == ("__debug__" : Str)) = false := by decide) (hcd : (x == ("__classdict__" : Str)) = false := by decide) : aE X (.Name x pos) Γ M P := fun Hi H σ ok en Q q => by
  obtain ⟨v, h1, r⟩ := en.2 i d hd
  exact ⟨_, pe_var hN hv hdb hcd, v, h1, q d M v Hi H h (Same.refl _) ok r⟩
/-- a global of the module that is an address -/
theorem ae_glob {x : Str} {f : Addr} (hm : X.mg x = some (.ref f)) (h : P (.ptr f) M) (hg : Gl X x := by rfl) (hd : (x == ("__debug__" : Str)) = false := by decide) : aE X (.Name x pos) Γ M P :=
  ae_c (pe_glob (v := .ref f) hg hm rfl hd) (fun _ _ => .ptr f) h
/-- what an operation on values asks -/
def RV (X : Cx) (r : R2) (x y : Val) (M : Mem) (P : Val → Mem → Prop) : Prop := ∀ Hi H v w, Ok X.K Hi M H → Rep X.K Hi x v → Rep X.K Hi y w → ∀ Q, Post X.K Hi P Q → r v w H Q
theorem ae_op {op : Operator} {r : R2} (ho : OpR X (binaryOp op) r) (h : aE X a Γ M fun x M1 => aE X b Γ M1 fun y M2 => RV X r x y M2 P) : aE X (.BinOp a op b pos) Γ M P := fun Hi H σ ok en Q q => by
  refine ⟨_, pe_op ho pe_we pe_we, ?_⟩
  refine h Hi H σ ok en _ fun x M1 v Hi1 H1 h1 s1 ok1 r1 => ?_
  refine h1 Hi1 H1 σ ok1 (en.mono s1) _ fun y M2 w Hi2 H2 h2 s2 ok2 r2 => ?_
  exact h2 Hi2 H2 v w ok2 (r1.mono s2) r2 Q (q.up (s1.trans s2))
theorem rv_I0 {g : Int → Int → V} {f : Int → Int → Val} {i j : Int} (hr : ∀ K H, Rep K H (f i j) (g i j)) (h : P (f i j) M) : RV X (rI0 g) (.int i) (.int j) M P := fun Hi H v w ok rv rw_ Q q => by
  cases rv
  cases rw_
  exact ⟨i, j, rfl, rfl, q _ _ _ Hi H h (Same.refl _) ok (hr _ _)⟩
theorem rv_I {C : Int → Int → Prop} {g : Int → Int → V} {f : Int → Int → Val} {i j : Int} (hc : C i j) (hr : ∀ K H, Rep K H (f i j) (g i j)) (h : P (f i j) M) : RV X (rI C g) (.int i) (.int j) M P := fun Hi H v w ok rv rw_ Q q => by
  cases rv
  cases rw_
  exact ⟨i, j, rfl, rfl, hc, q _ _ _ Hi H h (Same.refl _) ok (hr _ _)⟩
theorem av_op {op : Operator} {r : R2} (ho : OpR X (binaryOp op) r) (ha : aV X a Γ M d1) (hb : aV X b Γ M d2) (hr : RV X r d1 d2 M P) : aE X (.BinOp a op b pos) Γ M P := ae_op ho (ha.val (hb.val hr))
variable {i j : Int}
theorem av_add (ha : aV X a Γ M (.int i)) (hb : aV X b Γ M (.int j)) : aV X (.BinOp a .Add b pos) Γ M (.int (i + j)) := av_op op_add ha hb (rv_I0 (f := fun i j => .int (i + j)) (fun _ _ => .int _) ⟨rfl, rfl⟩)
theorem av_sub (ha : aV X a Γ M (.int i)) (hb : aV X b Γ M (.int j)) : aV X (.BinOp a .Sub b pos) Γ M (.int (i - j)) := av_op op_sub ha hb (rv_I0 (f := fun i j => .int (i - j)) (fun _ _ => .int _) ⟨rfl, rfl⟩)
theorem av_mul (ha : aV X a Γ M (.int i)) (hb : aV X b Γ M (.int j)) (hc : CMul i j) : aV X (.BinOp a .Mult b pos) Γ M (.int (i * j)) := av_op op_mul ha hb (rv_I (f := fun i j => .int (i * j)) hc (fun _ _ => .int _) ⟨rfl, rfl⟩)
theorem av_mod (ha : aV X a Γ M (.int i)) (hb : aV X b Γ M (.int j)) (hc : 0 < j) : aV X (.BinOp a .Mod b pos) Γ M (.int (i % j)) := av_op op_mod ha hb (rv_I (f := fun i j => .int (i % j)) hc (fun _ _ => .int _) ⟨rfl, rfl⟩)
theorem av_fdiv (ha : aV X a Γ M (.int i)) (hb : aV X b Γ M (.int j)) (hc : CDiv i j) : aV X (.BinOp a .FloorDiv b pos) Γ M (.int (i / j)) := av_op op_fdiv ha hb (rv_I (f := fun i j => .int (i / j)) hc (fun _ _ => .int _) ⟨rfl, rfl⟩)
theorem av_pow (ha : aV X a Γ M (.int i)) (hb : aV X b Γ M (.int j)) (hc : CPow i j) : aV X (.BinOp a .Pow b pos) Γ M (.int (i ^ j.toNat)) := av_op op_pow ha hb (rv_I (f := fun i j => .int (i ^ j.toNat)) hc (fun _ _ => .int _) ⟨rfl, rfl⟩)
end
end Ab
namespace Ab
open PySem PySem.Spec PyProof.Rows L2
/-- a value as it may be read: itself, or the list that stands in its cell -/
inductive Vw (M : Mem) : Val → Val → Prop
  | self (d : Val) : Vw M d d
  | lst (i : Nat) {p : Addr} {xs : List Val} : M[i]? = some (p, .lst xs) → Vw M (.ptr p) (.lst xs)
theorem Vw.rep {K : PySem.W.Frag} {Hi H : Hp} {M : Mem} {d e : Val} {v : V} (h : Vw M d e) (ok : Ok K Hi M H) (r : Rep K Hi d v) : Rep K H e v := by
  cases h with
  | self => exact r.mono ok.im
  | lst i hm =>
    obtain ⟨_, o, ho, xs', rfl, ra⟩ := ok.get hm
    cases r
    exact .lst (SqL.of ho) (ra.mono ok.im)
mutual
def toD : Val → Option PyData
  | .non => some .none
  | .bl b => some (.bool b)
  | .int i => some (.int i)
  | .str x => some (.str x)
  | .lst xs => (toDs xs).map PyData.list
  | .tup xs => (toDs xs).map PyData.tuple
  | .ty _ => none
  | .ptr _ => none
  | .obj _ _ => none
  | .exc _ _ => none
  | .lam _ _ => none
def toDs : List Val → Option (List PyData)
  | [] => some []
  | x :: xs => (toD x).bind fun d => (toDs xs).map fun ds => d :: ds
end
mutual
theorem rep_dp {K : PySem.W.Frag} {H : Hp} : ∀ (x : Val) {v : V} {d : PyData}, Rep K H x v → toD x = some d → Dp K H v d
  | .non, _, _, .non, e => by cases e; exact .non
  | .bl b, _, _, .bl _, e => by cases e; exact .bl b
  | .int i, _, _, .int _, e => by cases e; exact .int i
  | .str x, _, _, .str _, e => by cases e; exact .str x
  | .lst xs, _, _, .lst h r, e => by
    unfold toD at e
    obtain ⟨ds, h1, rfl⟩ := Option.map_eq_some_iff.mp e
    exact .lst h (rep_dps xs r h1)
  | .tup xs, _, _, .tup h r, e => by
    unfold toD at e
    obtain ⟨ds, h1, rfl⟩ := Option.map_eq_some_iff.mp e
    exact .tup h (rep_dps xs r h1)
  | .ty _, _, _, _, e => by cases e
  | .ptr _, _, _, _, e => by cases e
  | .obj _ _, _, _, _, e => by cases e
  | .exc _ _, _, _, _, e => by cases e
  | .lam _ _, _, _, _, e => by cases e
theorem rep_dps {K : PySem.W.Frag} {H : Hp} : ∀ (xs : List Val) {vs : List V} {ds : List PyData}, RepA K H xs vs → toDs xs = some ds → DpAll K H vs ds
  | [], _, _, .nil, e => by cases e; exact .nil
  | x :: xs, _, _, .cons a r, e => by
    unfold toDs at e
    obtain ⟨d, h1, h2⟩ := Option.bind_eq_some_iff.mp e
    obtain ⟨ds, h3, rfl⟩ := Option.map_eq_some_iff.mp h2
    exact .cons (rep_dp x a h1) (rep_dps xs r h3)
end
section
variable {X : Cx} {Γ : Gam} {M : Mem} {P : Val → Mem → Prop} {e a b c : Expr} {es : List Expr} {pos : Pos} {k : AK} {d d1 d2 d3 : Val} {i j : Int}
/-! ### comparisons -/
def Cmp (X : Cx) (op : CmpOp) (M : Mem) (x y : Val) (b : Bool) : Prop := ∃ r, OpR X (compareOp op) r ∧ RV X r x y M fun z M' => z = .bl b ∧ M' = M
theorem cmp_lt : Cmp X .Lt M (.int i) (.int j) (decide (i < j)) := ⟨_, op_lt, rv_I0 (f := fun i j => .bl (decide (i < j))) (fun _ _ => .bl _) ⟨rfl, rfl⟩⟩
theorem cmp_le : Cmp X .LtE M (.int i) (.int j) (decide (i ≤ j)) := ⟨_, op_le, rv_I0 (f := fun i j => .bl (decide (i ≤ j))) (fun _ _ => .bl _) ⟨rfl, rfl⟩⟩
theorem cmp_gt : Cmp X .Gt M (.int i) (.int j) (decide (j < i)) := ⟨_, op_gt, rv_I0 (f := fun i j => .bl (decide (j < i))) (fun _ _ => .bl _) ⟨rfl, rfl⟩⟩
theorem cmp_ge : Cmp X .GtE M (.int i) (.int j) (decide (j ≤ i)) := ⟨_, op_ge, rv_I0 (f := fun i j => .bl (decide (j ≤ i))) (fun _ _ => .bl _) ⟨rfl, rfl⟩⟩
theorem cmp_eqI : Cmp X .Eq M (.int i) (.int j) (decide (i = j)) := ⟨_, op_eq, fun Hi H v w ok rv rw_ Q q => by
  cases rv
  cases rw_
  refine ⟨rfl, ?_⟩
  have e : decide (V.int i = V.int j) = decide (i = j) := by simp
  rw [e]
  exact q _ M _ Hi H ⟨rfl, rfl⟩ (Same.refl _) ok (.bl _)⟩
theorem cmp_neI : Cmp X .NotEq M (.int i) (.int j) (!decide (i = j)) := ⟨_, op_ne, fun Hi H v w ok rv rw_ Q q => by
  cases rv
  cases rw_
  refine ⟨rfl, ?_⟩
  have e : decide (V.int i = V.int j) = decide (i = j) := by simp
  rw [e]
  exact q _ M _ Hi H ⟨rfl, rfl⟩ (Same.refl _) ok (.bl _)⟩
theorem cmp_eqS {x y : Str} : Cmp X .Eq M (.str x) (.str y) (decide (x = y)) := ⟨_, op_eq, fun Hi H v w ok rv rw_ Q q => by
  cases rv
  cases rw_
  refine ⟨rfl, ?_⟩
  have e : decide (V.str x = V.str y) = decide (x = y) := by simp
  rw [e]
  exact q _ M _ Hi H ⟨rfl, rfl⟩ (Same.refl _) ok (.bl _)⟩
theorem cmp_neS {x y : Str} : Cmp X .NotEq M (.str x) (.str y) (!decide (x = y)) := ⟨_, op_ne, fun Hi H v w ok rv rw_ Q q => by
  cases rv
  cases rw_
  refine ⟨rfl, ?_⟩
  have e : decide (V.str x = V.str y) = decide (x = y) := by simp
  rw [e]
  exact q _ M _ Hi H ⟨rfl, rfl⟩ (Same.refl _) ok (.bl _)⟩
/-- data of any depth -/
theorem cmp_eqD {d1' d2' : Val} {p q : PyData} (v1 : Vw M d1 d1') (v2 : Vw M d2 d2') (h1 : toD d1' = some p) (h2 : toD d2' = some q) (s1 : SeqAt.shaped p = true) (s2 : SeqAt.shaped q = true) (hu : X.A.units + 64 < cLine) : Cmp X .Eq M d1 d2 (PyData.eqv p q) :=
  ⟨_, op_eqD hu, fun Hi H v w ok rv rw_ Q post => ⟨p, q, rep_dp _ (v1.rep ok rv) h1, rep_dp _ (v2.rep ok rw_) h2, s1, s2, post _ M _ Hi H ⟨rfl, rfl⟩ (Same.refl _) ok (.bl _)⟩⟩
theorem cmp_neD {d1' d2' : Val} {p q : PyData} (v1 : Vw M d1 d1') (v2 : Vw M d2 d2') (h1 : toD d1' = some p) (h2 : toD d2' = some q) (s1 : SeqAt.shaped p = true) (s2 : SeqAt.shaped q = true) (hu : X.A.units + 64 < cLine) : Cmp X .NotEq M d1 d2 (!PyData.eqv p q) :=
  ⟨_, op_neD hu, fun Hi H v w ok rv rw_ Q post => ⟨p, q, rep_dp _ (v1.rep ok rv) h1, rep_dp _ (v2.rep ok rw_) h2, s1, s2, post _ M _ Hi H ⟨rfl, rfl⟩ (Same.refl _) ok (.bl _)⟩⟩
def Val.isN : Val → Bool
  | .non => true
  | _ => false
theorem rep_isN {K : PySem.W.Frag} {H : Hp} {x : Val} {v : V} (r : Rep K H x v) : decide (v = .non) = x.isN := by
  cases r <;> rfl
theorem cmp_isN : Cmp X .Is M d .non d.isN := ⟨_, op_isN, fun Hi H v w ok rv rw_ Q q => by
  cases rw_
  refine ⟨rfl, ?_⟩
  rw [rep_isN rv]
  exact q _ M _ Hi H ⟨rfl, rfl⟩ (Same.refl _) ok (.bl _)⟩
theorem Cmp.eq {op : CmpOp} {x y : Val} {b b' : Bool} (h : Cmp X op M x y b) (e : b = b') : Cmp X op M x y b' := e ▸ h
/-- a comparison as a value, as a test -/
theorem ae_cmp {op : CmpOp} {k : Bool} (ha : aV X a Γ M d1) (hb : aV X b Γ M d2) (hc : Cmp X op M d1 d2 k) (h : P (.bl k) M) (hm : behindInMarks op b = false := by first | exact nomark _ | rfl) : aE X (.Compare a [op] [b] pos) Γ M P := fun Hi H σ ok en Q q => by
  obtain ⟨r, ho, hr⟩ := hc
  refine ⟨_, pe_cmpR ho pe_we pe_we hm, ?_⟩
  refine ha Hi H σ ok en _ fun x M1 v Hi1 H1 h1 s1 ok1 r1 => ?_
  obtain ⟨rfl, rfl⟩ := h1
  refine hb Hi1 H1 σ ok1 (en.mono s1) _ fun y M2 w Hi2 H2 h2 s2 ok2 r2 => ?_
  obtain ⟨rfl, rfl⟩ := h2
  exact hr Hi2 H2 v w ok2 (r1.mono s2) r2 Q fun z M' v' Hi3 H3 h3 s3 ok3 r3 => by
    obtain ⟨rfl, rfl⟩ := h3
    exact q _ _ v' Hi3 H3 h ((s1.trans s2).trans s3) ok3 r3
theorem at_cmp {op : CmpOp} {k : Bool} {P : Bool → Mem → Prop} (ha : aV X a Γ M d1) (hb : aV X b Γ M d2) (hc : Cmp X op M d1 d2 k) (h : P k M) (hm : behindInMarks op b = false := by first | exact nomark _ | rfl) : aT X (.Compare a [op] [b] pos) Γ M P := fun Hi H σ ok en Q q => by
  obtain ⟨r, ho, hr⟩ := hc
  refine ⟨_, pt_cmpR ho pe_we pe_we hm, ?_⟩
  refine ha Hi H σ ok en _ fun x M1 v Hi1 H1 h1 s1 ok1 r1 => ?_
  obtain ⟨rfl, rfl⟩ := h1
  refine hb Hi1 H1 σ ok1 (en.mono s1) _ fun y M2 w Hi2 H2 h2 s2 ok2 r2 => ?_
  obtain ⟨rfl, rfl⟩ := h2
  exact hr Hi2 H2 v w ok2 (r1.mono s2) r2 _ fun z M' v' Hi3 H3 h3 s3 ok3 r3 => by
    obtain ⟨rfl, rfl⟩ := h3
    cases r3
    exact ⟨k, rfl, q _ _ Hi3 H3 h ((s1.trans s2).trans s3) ok3⟩
theorem at_chain {op op' : CmpOp} {k1 k2 : Bool} {P : Bool → Mem → Prop} (ha : aV X a Γ M d1) (hb : aV X b Γ M d2) (hc : aV X c Γ M d3) (h1 : Cmp X op M d1 d2 k1) (h2 : Cmp X op' M d2 d3 k2) (h : P (k1 && k2) M) (hm : lastMarks [op, op'] [b, c] = false := by with_unfolding_all rfl) :
    aT X (.Compare a [op, op'] [b, c] pos) Γ M P := fun Hi H σ ok en Q q => by
  obtain ⟨r, ho, hr⟩ := h1
  obtain ⟨r', ho', hr'⟩ := h2
  refine ⟨_, pt_chain ho ho' pe_we pe_we pe_we hm, ?_⟩
  refine ha Hi H σ ok en _ fun x M1 v Hi1 H1 h1 s1 ok1 r1 => ?_
  obtain ⟨rfl, rfl⟩ := h1
  refine hb Hi1 H1 σ ok1 (en.mono s1) _ fun y M2 w Hi2 H2 h2 s2 ok2 r2 => ?_
  obtain ⟨rfl, rfl⟩ := h2
  refine hr Hi2 H2 v w ok2 (r1.mono s2) r2 _ fun z M' v' Hi3 H3 h3 s3 ok3 r3 => ?_
  obtain ⟨rfl, rfl⟩ := h3
  cases r3
  refine ⟨k1, rfl, ?_⟩
  have s13 := (s1.trans s2).trans s3
  cases k1 with
  | false => exact iteF ⟨false, rfl, q _ _ Hi3 H3 h s13 ok3⟩
  | true =>
    refine iteT (hc Hi3 H3 σ ok3 (en.mono s13) _ fun y4 M4 w4 Hi4 H4 h4 s4 ok4 r4 => ?_)
    obtain ⟨rfl, rfl⟩ := h4
    exact hr' Hi4 H4 w w4 ok4 (r2.mono (s3.trans s4)) r4 _ fun z M' v' Hi5 H5 h5 s5 ok5 r5 => by
      obtain ⟨rfl, rfl⟩ := h5
      cases r5
      exact ⟨_, rfl, q _ _ Hi5 H5 h ((s13.trans s4).trans s5) ok5⟩
/-! ### tests -/
theorem at_val {P : Bool → Mem → Prop} (h : aE X e Γ M fun x M' => ∃ k, x = .bl k ∧ P k M') (he : ∀ whole, isTrue e X.env whole = (do let v ← whole; standAt e.pos; holding [v] (truthy v)) := by intro _; rfl) : aT X e Γ M P := fun Hi H σ ok en Q q => by
  refine ⟨_, pt_val pe_we he, ?_⟩
  refine h Hi H σ ok en _ fun x M1 v Hi1 H1 h1 s1 ok1 r1 => ?_
  obtain ⟨k, rfl, p⟩ := h1
  cases r1
  exact ⟨k, rfl, q _ _ Hi1 H1 p s1 ok1⟩
theorem at_not {P : Bool → Mem → Prop} (h : aT X a Γ M fun x M' => P (!x) M') : aT X (.UnaryOp .Not a pos) Γ M P := fun Hi H σ ok en Q q => by
  refine ⟨_, pt_not pt_wt, ?_⟩
  exact h Hi H σ ok en _ fun x M1 Hi1 H1 h1 s1 ok1 => q _ _ Hi1 H1 h1 s1 ok1
def WW (X : Cx) (e : Expr) : TT := fun σ H Q => ∃ t, PW X e t ∧ t σ H Q
theorem pw_ww : PW X e (WW X e) := ⟨fun whole pins s σ H Q I ⟨t, p, h⟩ => p.run whole pins s σ H Q I h⟩
def aW (X : Cx) (e : Expr) (Γ : Gam) (M : Mem) (P : Bool → Mem → Prop) : Prop := ∀ Hi H σ, Ok X.K Hi M H → EnvR X.K Hi Γ σ → ∀ Q, PostT X.K Hi P Q → WW X e σ H Q
theorem at_w {P : Bool → Mem → Prop} (h : aW X e Γ M P) : aT X e Γ M P := fun Hi H σ ok en Q q => by
  obtain ⟨t, p, z⟩ := h Hi H σ ok en Q q
  exact ⟨t, p.pt, z⟩
theorem aw_and1 {P : Bool → Mem → Prop} (h : aT X a Γ M P) : aW X (.BoolOp .And [a] pos) Γ M P := fun Hi H σ ok en Q q => ⟨_, pw_and1 pt_wt, h Hi H σ ok en Q q⟩
theorem aw_or1 {P : Bool → Mem → Prop} (h : aT X a Γ M P) : aW X (.BoolOp .Or [a] pos) Γ M P := fun Hi H σ ok en Q q => ⟨_, pw_or1 pt_wt, h Hi H σ ok en Q q⟩
theorem aw_and {P : Bool → Mem → Prop} {rest : List Expr} (h : aT X a Γ M fun x M' => (x = true → aW X (.BoolOp .And (b :: rest) pos) Γ M' P) ∧ (x = false → P false M')) : aW X (.BoolOp .And (a :: b :: rest) pos) Γ M P := fun Hi H σ ok en Q q => by
  refine ⟨_, pw_and pt_wt pw_ww, ?_⟩
  refine h Hi H σ ok en _ fun x M1 Hi1 H1 h1 s1 ok1 => ?_
  cases x with
  | true => exact iteT (h1.1 rfl Hi1 H1 σ ok1 (en.mono s1) _ (q.up s1))
  | false => exact iteF (q _ _ Hi1 H1 (h1.2 rfl) s1 ok1)
theorem aw_or {P : Bool → Mem → Prop} {rest : List Expr} (h : aT X a Γ M fun x M' => (x = true → P true M') ∧ (x = false → aW X (.BoolOp .Or (b :: rest) pos) Γ M' P)) : aW X (.BoolOp .Or (a :: b :: rest) pos) Γ M P := fun Hi H σ ok en Q q => by
  refine ⟨_, pw_or pt_wt pw_ww, ?_⟩
  refine h Hi H σ ok en _ fun x M1 Hi1 H1 h1 s1 ok1 => ?_
  cases x with
  | false => exact iteF (h1.2 rfl Hi1 H1 σ ok1 (en.mono s1) _ (q.up s1))
  | true => exact iteT (q _ _ Hi1 H1 (h1.1 rfl) s1 ok1)
/-- as values -/
theorem ae_and {rest : List Expr} (h : aE X a Γ M fun x M' => ∃ k, x = .bl k ∧ (k = true → aE X (.BoolOp .And (b :: rest) pos) Γ M' P) ∧ (k = false → P (.bl false) M')) : aE X (.BoolOp .And (a :: b :: rest) pos) Γ M P := fun Hi H σ ok en Q q => by
  refine ⟨_, pe_and pe_we pe_we, ?_⟩
  refine h Hi H σ ok en _ fun x M1 v Hi1 H1 h1 s1 ok1 r1 => ?_
  obtain ⟨k, rfl, h2, h3⟩ := h1
  cases r1
  refine ⟨k, rfl, ?_⟩
  cases k with
  | true => exact iteT (h2 rfl Hi1 H1 σ ok1 (en.mono s1) _ (q.up s1))
  | false => exact iteF (q _ _ _ Hi1 H1 (h3 rfl) s1 ok1 (.bl _))
theorem ae_or {rest : List Expr} (h : aE X a Γ M fun x M' => ∃ k, x = .bl k ∧ (k = true → P (.bl true) M') ∧ (k = false → aE X (.BoolOp .Or (b :: rest) pos) Γ M' P)) : aE X (.BoolOp .Or (a :: b :: rest) pos) Γ M P := fun Hi H σ ok en Q q => by
  refine ⟨_, pe_or pe_we pe_we, ?_⟩
  refine h Hi H σ ok en _ fun x M1 v Hi1 H1 h1 s1 ok1 r1 => ?_
  obtain ⟨k, rfl, h2, h3⟩ := h1
  cases r1
  refine ⟨k, rfl, ?_⟩
  cases k with
  | false => exact iteF (h3 rfl Hi1 H1 σ ok1 (en.mono s1) _ (q.up s1))
  | true => exact iteT (q _ _ _ Hi1 H1 (h2 rfl) s1 ok1 (.bl _))
theorem ae_one {op} (h : aE X a Γ M P) : aE X (.BoolOp op [a] pos) Γ M P := fun Hi H σ ok en Q q => ⟨_, pe_one pe_we, h Hi H σ ok en Q q⟩
theorem ae_if (h : aT X c Γ M fun x M' => (x = true → aE X a Γ M' P) ∧ (x = false → aE X b Γ M' P)) : aE X (.IfExp c a b pos) Γ M P := fun Hi H σ ok en Q q => by
  refine ⟨_, pe_ifExp pt_wt pe_we pe_we, ?_⟩
  refine h Hi H σ ok en _ fun x M1 Hi1 H1 h1 s1 ok1 => ?_
  cases x with
  | true => exact iteT (h1.1 rfl Hi1 H1 σ ok1 (en.mono s1) _ (q.up s1))
  | false => exact iteF (h1.2 rfl Hi1 H1 σ ok1 (en.mono s1) _ (q.up s1))
/-- truth of a pure test in two ways -/
theorem ae_ifd {p : Prop} [Decidable p] (hc : aB X c Γ M (decide p)) (h1 : p → aE X a Γ M P) (h2 : ¬ p → aE X b Γ M P) : aE X (.IfExp c a b pos) Γ M P :=
  ae_if (hc.val ⟨fun z => h1 (of_decide_eq_true z), fun z => h2 (of_decide_eq_false z)⟩)
/-! ### arguments, displays -/
theorem aa_nil {P : List Val → Mem → Prop} (h : P [] M) : aA X [] Γ M P := fun Hi H σ ok en Q q => ⟨_, pa_nil, q _ _ _ Hi H h (Same.refl _) ok .nil⟩
theorem aa_cons {P : List Val → Mem → Prop} (h : aE X e Γ M fun x M1 => aA X es Γ M1 fun xs M2 => P (x :: xs) M2) (hs : starEach (e :: es) X.env = (false, eval e X.env) :: starEach es X.env := by rfl) : aA X (e :: es) Γ M P := fun Hi H σ ok en Q q => by
  refine ⟨_, pa_cons pe_we pa_wa hs, ?_⟩
  refine h Hi H σ ok en _ fun x M1 v Hi1 H1 h1 s1 ok1 r1 => ?_
  exact h1 Hi1 H1 σ ok1 (en.mono s1) _ fun xs M2 vs Hi2 H2 h2 s2 ok2 r2 => q _ _ _ Hi2 H2 h2 (s1.trans s2) ok2 (.cons (r1.mono s2) r2)
theorem avs_nil : aVs X [] Γ M [] := aa_nil ⟨rfl, rfl⟩
theorem avs_cons {ds : List Val} (h : aV X e Γ M d) (hr : aVs X es Γ M ds) (hs : starEach (e :: es) X.env = (false, eval e X.env) :: starEach es X.env := by rfl) : aVs X (e :: es) Γ M (d :: ds) :=
  aa_cons (h.val (hr.val ⟨rfl, rfl⟩)) hs
theorem ae_tup {x1} (h : aA X es Γ M fun xs M' => xs.length ≤ sizeLine ∧ P (.tup xs) M') : aE X (.Tuple es x1 pos) Γ M P := fun Hi H σ ok en Q q => by
  refine ⟨_, pe_tup pa_wa, ?_⟩
  refine h Hi H σ ok en _ fun xs M1 vs Hi1 H1 h1 s1 ok1 r1 => ?_
  refine ⟨r1.length ▸ h1.1, fun p hp => ?_⟩
  have s2 := same_upd (o := .tup vs) (ok1.none hp)
  exact q _ _ _ _ _ h1.2 (s1.trans s2) (ok1.imm hp) (.tup (SqT.of upd_same) (r1.mono s2))
theorem av_tup {x1} {ds : List Val} (h : aVs X es Γ M ds) (hl : ds.length ≤ sizeLine) : aV X (.Tuple es x1 pos) Γ M (.tup ds) := ae_tup (h.val ⟨hl, rfl, rfl⟩)
/-- a list that will not change -/
theorem ae_lst (h : aA X es Γ M fun xs M' => xs.length ≤ sizeLine ∧ P (.lst xs) M') : aE X (.List es pos) Γ M P := fun Hi H σ ok en Q q => by
  refine ⟨_, pe_lst pa_wa, ?_⟩
  refine h Hi H σ ok en _ fun xs M1 vs Hi1 H1 h1 s1 ok1 r1 => ?_
  refine ⟨r1.length ▸ h1.1, fun p hp => ?_⟩
  have s2 := same_upd (o := .lst vs) (ok1.none hp)
  exact q _ _ _ _ _ h1.2 (s1.trans s2) (ok1.imm hp) (.lst (SqL.of upd_same) (r1.mono s2))
/-- a list that will change: a new cell -/
theorem ae_lstC (h : aA X es Γ M fun xs M' => xs.length ≤ sizeLine ∧ ∀ p, P (.ptr p) ((p, .lst xs) :: M')) : aE X (.List es pos) Γ M P := fun Hi H σ ok en Q q => by
  refine ⟨_, pe_lst pa_wa, ?_⟩
  refine h Hi H σ ok en _ fun xs M1 vs Hi1 H1 h1 s1 ok1 r1 => ?_
  refine ⟨r1.length ▸ h1.1, fun p hp => ?_⟩
  exact q _ _ _ _ _ (h1.2 p) s1 (ok1.new hp ⟨vs, rfl, r1⟩) (.ptr p)
/-! ### places -/
theorem rep_at {K : PySem.W.Frag} {H : Hp} {ds : List Val} {vs : List V} (r : RepA K H ds vs) {i : Int} {d : Val} (h : atI ds i = some d) : ∃ v, atI vs i = some v ∧ Rep K H d v := by
  unfold atI at h ⊢
  rw [← r.length]
  cases e : ixN ds.length i with
  | none => rw [e] at h; cases h
  | some j =>
    rw [e] at h
    exact r.get h
/-- xs[i], t[i] -/
theorem ae_ixL {xs : List Val} (ha : aV X a Γ M d1) (hb : aV X b Γ M (.int i)) (hv : Vw M d1 (.lst xs)) (h : ∃ d, atI xs i = some d ∧ P d M) (hs : PlainIx b := by exact fun _ _ => rfl) : aE X (.Subscript a b pos) Γ M P := fun Hi H σ ok en Q q => by
  obtain ⟨d, hd, p⟩ := h
  refine ⟨_, pe_ix ix_list pe_we pe_we hs, ?_⟩
  refine ha Hi H σ ok en _ fun x M1 v Hi1 H1 h1 s1 ok1 r1 => ?_
  obtain ⟨rfl, rfl⟩ := h1
  refine hb Hi1 H1 σ ok1 (en.mono s1) _ fun y M2 w Hi2 H2 h2 s2 ok2 r2 => ?_
  obtain ⟨rfl, rfl⟩ := h2
  cases r2
  cases hv with
  | self =>
    cases r1.mono s2 with
    | lst hq ra =>
      obtain ⟨z, hz, rz⟩ := rep_at ra hd
      exact ⟨_, _, i, z, rfl, rfl, ok2.im.seq hq, hz, q _ _ z Hi2 H2 p (s1.trans s2) ok2 rz⟩
  | lst j hm =>
    obtain ⟨_, o, ho, xs', rfl, ra⟩ := ok2.get hm
    cases r1
    obtain ⟨z, hz, rz⟩ := rep_at ra hd
    exact ⟨_, _, i, z, rfl, rfl, SqL.of ho, hz, q _ _ z Hi2 H2 p (s1.trans s2) ok2 rz⟩
theorem ae_ixT {xs : List Val} (ha : aV X a Γ M (.tup xs)) (hb : aV X b Γ M (.int i)) (h : ∃ d, atI xs i = some d ∧ P d M) (hs : PlainIx b := by exact fun _ _ => rfl) : aE X (.Subscript a b pos) Γ M P := fun Hi H σ ok en Q q => by
  obtain ⟨d, hd, p⟩ := h
  refine ⟨_, pe_ix ix_tup pe_we pe_we hs, ?_⟩
  refine ha Hi H σ ok en _ fun x M1 v Hi1 H1 h1 s1 ok1 r1 => ?_
  obtain ⟨rfl, rfl⟩ := h1
  refine hb Hi1 H1 σ ok1 (en.mono s1) _ fun y M2 w Hi2 H2 h2 s2 ok2 r2 => ?_
  obtain ⟨rfl, rfl⟩ := h2
  cases r2
  cases r1.mono s2 with
  | tup hq ra =>
    obtain ⟨z, hz, rz⟩ := rep_at ra hd
    exact ⟨_, _, i, z, rfl, rfl, sameT ok2.im hq, hz, q _ _ z Hi2 H2 p (s1.trans s2) ok2 rz⟩
theorem av_ixL {xs : List Val} (ha : aV X a Γ M d1) (hb : aV X b Γ M (.int i)) (hv : Vw M d1 (.lst xs)) (hd : atI xs i = some d) (hs : PlainIx b := by exact fun _ _ => rfl) : aV X (.Subscript a b pos) Γ M d := ae_ixL ha hb hv ⟨d, hd, rfl, rfl⟩ hs
theorem av_ixT {xs : List Val} (ha : aV X a Γ M (.tup xs)) (hb : aV X b Γ M (.int i)) (hd : atI xs i = some d) (hs : PlainIx b := by exact fun _ _ => rfl) : aV X (.Subscript a b pos) Γ M d := ae_ixT ha hb ⟨d, hd, rfl, rfl⟩ hs
end
end Ab
namespace Ab
open PySem PySem.Spec PyProof.Rows L2
section
variable {X : Cx} {Γ : Gam} {M : Mem} {P : Val → Mem → Prop} {e a b c o : Expr} {es : List Expr} {pos p1 p2 apos : Pos} {k : AK} {d d1 d2 d3 : Val} {i j : Int} {x f m : Str}
/-- a new list's cell that will not change -/
theorem ae_frz (h : aE X e Γ M fun d M' => ∃ p xs M'', d = .ptr p ∧ M' = (p, .lst xs) :: M'' ∧ P (.lst xs) M'') : aE X e Γ M P := fun Hi H σ ok en Q q => by
  refine h Hi H σ ok en _ fun d M1 v Hi1 H1 h1 s1 ok1 r1 => ?_
  obtain ⟨p, xs, M2, rfl, rfl, hp⟩ := h1
  obtain ⟨e0, o, ho, vs, rfl, ra⟩ := ok1.ce p _ List.mem_cons_self
  cases r1
  have s2 := same_upd (o := .lst vs) e0
  exact q _ _ _ _ _ hp (s1.trans s2) (ok1.freeze ho) (.lst (SqL.of upd_same) (ra.mono s2))
/-! ### calls of built-ins -/
def RA (X : Cx) (r : List V → Hp → VK → Prop) (xs : List Val) (M : Mem) (P : Val → Mem → Prop) : Prop := ∀ Hi H vs, Ok X.K Hi M H → RepA X.K Hi xs vs → ∀ Q, Post X.K Hi P Q → r vs H Q
theorem ae_callB {id : String} {r : List V → Hp → VK → Prop} (hc : CallR X (.builtin id) r) (hm : X.mg x = none) (hv : bootBuiltins x = some (.builtin id)) (h : aA X (e :: es) Γ M fun xs M' => RA X r xs M' P)
    (hg : Gl X x := by rfl) (hn : x ≠ "__name__" := by decide) (hdb : (x == ("__debug__" : Str)) = false := by decide)
    (he : starEach (e :: es) X.env = (false, eval e X.env) :: starEach es X.env := by rfl) (hpl : (backTo pos (starEach es X.env)).any (·.1) = false := by rfl) : aE X (.Call (.Name x p1) (e :: es) [] pos) Γ M P := fun Hi H σ ok en Q q => by
  refine ⟨_, pe_callB hc hg hm hv pa_wa hn hdb he hpl, ?_⟩
  exact h Hi H σ ok en _ fun xs M1 vs Hi1 H1 h1 s1 ok1 r1 => h1 Hi1 H1 vs ok1 r1 Q (q.up s1)
theorem ae_callTy {T : String} {r : List V → Hp → VK → Prop} (hc : CallR X (.type T) r) (hm : X.mg x = none) (hv : bootBuiltins x = some (.type T)) (h : aA X (e :: es) Γ M fun xs M' => RA X r xs M' P)
    (hg : Gl X x := by rfl) (hn : x ≠ "__name__" := by decide) (hdb : (x == ("__debug__" : Str)) = false := by decide)
    (he : starEach (e :: es) X.env = (false, eval e X.env) :: starEach es X.env := by rfl) (hpl : (backTo pos (starEach es X.env)).any (·.1) = false := by rfl) : aE X (.Call (.Name x p1) (e :: es) [] pos) Γ M P := fun Hi H σ ok en Q q => by
  refine ⟨_, pe_callTy hc hg hm hv pa_wa hn hdb he hpl, ?_⟩
  exact h Hi H σ ok en _ fun xs M1 vs Hi1 H1 h1 s1 ok1 r1 => h1 Hi1 H1 vs ok1 r1 Q (q.up s1)
/-- what a list or tuple value is -/
inductive Sq (M : Mem) : Val → List Val → Prop
  | l {d : Val} {xs : List Val} : Vw M d (.lst xs) → Sq M d xs
  | t {xs : List Val} : Sq M (.tup xs) xs
theorem Sq.rep {K : PySem.W.Frag} {Hi H : Hp} {d : Val} {xs : List Val} {v : V} (h : Sq M d xs) (ok : Ok K Hi M H) (r : Rep K Hi d v) : ∃ p ys, v = .ref p ∧ (SqL K H p ys ∨ SqT K H p ys) ∧ RepA K Hi xs ys := by
  cases h with
  | l h =>
    cases h with
    | self => cases r with
      | lst hq ra => exact ⟨_, _, rfl, .inl (ok.im.seq hq), ra⟩
    | lst i hm =>
      obtain ⟨_, o, ho, ys, rfl, ra⟩ := ok.get hm
      cases r
      exact ⟨_, _, rfl, .inl (SqL.of ho), ra⟩
  | t => cases r with
    | tup hq ra => exact ⟨_, _, rfl, .inr (sameT ok.im hq), ra⟩
theorem Vw.repL {K : PySem.W.Frag} {Hi H : Hp} {d : Val} {xs : List Val} {v : V} (h : Vw M d (.lst xs)) (ok : Ok K Hi M H) (r : Rep K Hi d v) : ∃ p ys, v = .ref p ∧ SqL K H p ys ∧ RepA K Hi xs ys := by
  cases h with
  | self => cases r with
    | lst hq ra => exact ⟨_, _, rfl, ok.im.seq hq, ra⟩
  | lst i hm =>
    obtain ⟨_, o, ho, ys, rfl, ra⟩ := ok.get hm
    cases r
    exact ⟨_, _, rfl, SqL.of ho, ra⟩
theorem ae_len {xs : List Val} (hm : X.mg "len" = none) (ha : aV X a Γ M d) (hs : Sq M d xs) (h : P (.int xs.length) M) (hg : Gl X "len" := by rfl) (hst : starEach [a] X.env = [(false, eval a X.env)] := by rfl) : aE X (.Call (.Name "len" p1) [a] [] pos) Γ M P :=
  ae_callB call_len_seq hm PySem.boot_len (aa_cons (ha.val (aa_nil fun Hi H vs ok r Q q => by
    cases r with
    | cons r1 r2 =>
      cases r2
      obtain ⟨p, ys, rfl, hq, ra⟩ := hs.rep ok r1
      refine ⟨p, ys, rfl, hq, ?_⟩
      rw [← ra.length]
      exact q _ _ _ Hi H h (Same.refl _) ok (.int _))) hst) hg (he := hst) (hpl := rfl)
theorem av_len {xs : List Val} (hm : X.mg "len" = none) (ha : aV X a Γ M d) (hs : Sq M d xs) (hg : Gl X "len" := by rfl) (hst : starEach [a] X.env = [(false, eval a X.env)] := by rfl) : aV X (.Call (.Name "len" p1) [a] [] pos) Γ M (.int xs.length) := ae_len hm ha hs ⟨rfl, rfl⟩ hg hst
/-- list(x): a new cell -/
theorem ae_list (hm : X.mg "list" = none) (ha : aE X a Γ M fun d M' => ∃ xs, Sq M' d xs ∧ ∀ p, P (.ptr p) ((p, .lst xs) :: M')) (hg : Gl X "list" := by rfl) (hst : starEach [a] X.env = [(false, eval a X.env)] := by rfl) : aE X (.Call (.Name "list" p1) [a] [] pos) Γ M P :=
  ae_callTy call_list_of hm (by decide +kernel) (aa_cons (ha.mono fun d M' ⟨xs, hs, h⟩ => aa_nil fun Hi H vs ok r Q q => by
    cases r with
    | cons r1 r2 =>
      cases r2
      obtain ⟨p, ys, rfl, hq, ra⟩ := hs.rep ok r1
      exact ⟨p, ys, rfl, hq, fun l hl => q _ _ _ _ _ (h l) (Same.refl _) (ok.new hl ⟨ys, rfl, ra⟩) (.ptr l)⟩) hst) hg (he := hst) (hpl := rfl)
/-- tuple(x) -/
theorem ae_tuple (hm : X.mg "tuple" = none) (ha : aE X a Γ M fun d M' => ∃ xs, Sq M' d xs ∧ P (.tup xs) M') (hg : Gl X "tuple" := by rfl) (hst : starEach [a] X.env = [(false, eval a X.env)] := by rfl) : aE X (.Call (.Name "tuple" p1) [a] [] pos) Γ M P :=
  ae_callTy call_tuple_of hm (by decide +kernel) (aa_cons (ha.mono fun d M' ⟨xs, hs, h⟩ => aa_nil fun Hi H vs ok r Q q => by
    cases r with
    | cons r1 r2 =>
      cases r2
      cases hs with
      | l hs =>
        obtain ⟨p, ys, rfl, hq, ra⟩ := hs.repL ok r1
        refine ⟨p, ys, rfl, .inl ⟨hq, fun l hl => ?_⟩⟩
        have s2 := same_upd (o := .tup ys) (ok.none hl)
        exact q _ _ _ _ _ h s2 (ok.imm hl) (.tup (SqT.of upd_same) (ra.mono s2))
      | t =>
        cases r1 with
        | tup hq ra => exact ⟨_, _, rfl, .inr ⟨sameT ok.im hq, q _ _ _ Hi H h (Same.refl _) ok (.tup hq ra)⟩⟩) hst) hg (he := hst) (hpl := rfl)
/-! ### slices -/
def aO (X : Cx) (e : Option Expr) (Γ : Gam) (M : Mem) (o : Option Int) : Prop := ∀ Hi H σ, Ok X.K Hi M H → EnvR X.K Hi Γ σ → ∀ Q : Option Int → Hp → Prop, (∀ Hi' H', Same Hi Hi' → Ok X.K Hi' M H' → Q o H') → ∃ t, PO X e t ∧ t σ H Q
theorem ao_none : aO X none Γ M none := fun Hi H σ ok en Q q => ⟨_, po_none, q Hi H (Same.refl _) ok⟩
theorem ao_some (h : aV X e Γ M (.int i)) : aO X (some e) Γ M (some i) := fun Hi H σ ok en Q q => by
  refine ⟨_, po_some pe_we, ?_⟩
  refine h Hi H σ ok en _ fun x M1 v Hi1 H1 h1 s1 ok1 r1 => ?_
  obtain ⟨rfl, rfl⟩ := h1
  cases r1
  exact ⟨i, rfl, q Hi1 H1 s1 ok1⟩
def WO (X : Cx) (e : Option Expr) : TO := fun σ H Q => ∃ t, PO X e t ∧ t σ H Q
theorem po_wo {e : Option Expr} : PO X e (WO X e) := ⟨fun pins s σ H Q I ⟨t, p, h⟩ => p.run pins s σ H Q I h⟩
def cutA (xs : List Val) (lo hi : Option Int) : List Val := (xs.drop (HT.sIx xs.length 0 lo)).take (HT.sIx xs.length xs.length hi - HT.sIx xs.length 0 lo)
theorem rep_cut {K : PySem.W.Frag} {H : Hp} {xs : List Val} {vs : List V} (r : RepA K H xs vs) (lo hi : Option Int) : RepA K H (cutA xs lo hi) (cutV vs lo hi) := by
  unfold cutA cutV
  rw [← r.length]
  exact (r.drop _).take _
theorem ae_sliceL {xs : List Val} {elo ehi : Option Expr} {lo hi : Option Int} (ha : aV X a Γ M d) (hl : aO X elo Γ M lo) (hh : aO X ehi Γ M hi) (hv : Vw M d (.lst xs)) (h : ∀ p, P (.ptr p) ((p, .lst (cutA xs lo hi)) :: M)) : aE X (.Subscript a (.Slice elo ehi none p2) pos) Γ M P := fun Hi H σ ok en Q q => by
  refine ⟨_, pe_slice sl_list pe_we po_wo po_wo, ?_⟩
  refine ha Hi H σ ok en _ fun x M1 v Hi1 H1 h1 s1 ok1 r1 => ?_
  obtain ⟨rfl, rfl⟩ := h1
  refine hl Hi1 H1 σ ok1 (en.mono s1) _ fun Hi2 H2 s2 ok2 => ?_
  refine hh Hi2 H2 σ ok2 (en.mono (s1.trans s2)) _ fun Hi3 H3 s3 ok3 => ?_
  have s13 := (s1.trans s2).trans s3
  obtain ⟨p, ys, rfl, hq, ra⟩ := hv.repL ok3 (r1.mono (s2.trans s3))
  exact ⟨p, ys, rfl, hq, fun l hl => q _ _ _ _ _ (h l) s13 (ok3.new hl ⟨_, rfl, rep_cut ra lo hi⟩) (.ptr l)⟩
theorem ae_sliceT {xs : List Val} {elo ehi : Option Expr} {lo hi : Option Int} (ha : aV X a Γ M (.tup xs)) (hl : aO X elo Γ M lo) (hh : aO X ehi Γ M hi) (h : P (.tup (cutA xs lo hi)) M) : aE X (.Subscript a (.Slice elo ehi none p2) pos) Γ M P := fun Hi H σ ok en Q q => by
  refine ⟨_, pe_slice sl_tupA pe_we po_wo po_wo, ?_⟩
  refine ha Hi H σ ok en _ fun x M1 v Hi1 H1 h1 s1 ok1 r1 => ?_
  obtain ⟨rfl, rfl⟩ := h1
  refine hl Hi1 H1 σ ok1 (en.mono s1) _ fun Hi2 H2 s2 ok2 => ?_
  refine hh Hi2 H2 σ ok2 (en.mono (s1.trans s2)) _ fun Hi3 H3 s3 ok3 => ?_
  have s13 := (s1.trans s2).trans s3
  cases r1.mono (s2.trans s3) with
  | @tup p ys _ hq ra =>
    refine ⟨p, ys, rfl, sameT ok3.im hq, fun hw => ?_, fun hw l hl => ?_⟩
    · have e : cutA xs lo hi = xs := by
        unfold cutA
        rw [ra.length, hw.1, hw.2]
        rw [← ra.length]
        simp
      rw [e] at h
      exact q _ _ _ Hi3 H3 h s13 ok3 (.tup hq ra)
    · have s4 := same_upd (o := .tup (cutV ys lo hi)) (ok3.none hl)
      exact q _ _ _ _ _ h (s13.trans s4) (ok3.imm hl) (.tup (SqT.of upd_same) ((rep_cut ra lo hi).mono s4))
/-! ### fields -/
/-- an instance: one that will not change, or a cell -/
inductive Ob (M : Mem) (C : Addr) : Val → List (Str × Val) → Prop
  | im (fs : List (Str × Val)) : Ob M C (.obj C fs) fs
  | ce (i : Nat) {p : Addr} {fs : List (Str × Val)} : M[i]? = some (p, .ins C fs) → Ob M C (.ptr p) fs
theorem Ob.rep {K : PySem.W.Frag} {Hi H : Hp} {C : Addr} {d : Val} {fs : List (Str × Val)} {v : V} (h : Ob M C d fs) (ok : Ok K Hi M H) (r : Rep K Hi d v) : ∃ p dx gs, v = .ref p ∧ H p = some (.ins C dx gs) ∧ RepF K Hi fs gs := by
  cases h with
  | im => cases r with
    | obj hq ra => exact ⟨_, _, _, rfl, ok.im _ _ hq, ra⟩
  | ce i hm =>
    obtain ⟨_, o, ho, dx, gs, rfl, ra⟩ := ok.get hm
    cases r
    exact ⟨_, _, _, rfl, ho, ra⟩
theorem ae_fld {C : Addr} (c : Cls X.K C) (n : NoAttr X.K C f) (ha : aE X a Γ M fun d M' => ∃ fs v, Ob M' C d fs ∧ fs.lookup f = some v ∧ P v M') (hb : attributeBase a f X.env (eval a X.env) = eval a X.env := by rfl) : aE X (.Attribute a f pos) Γ M P := fun Hi H σ ok en Q q => by
  refine ⟨_, pe_fld pe_we hb, ?_⟩
  refine ha Hi H σ ok en _ fun x M1 v Hi1 H1 h1 s1 ok1 r1 => ?_
  obtain ⟨fs, z, ho, hf, hp⟩ := h1
  obtain ⟨p, dx, gs, rfl, hq, ra⟩ := ho.rep ok1 r1
  obtain ⟨w, hw, rw_⟩ := ra.lookup hf
  exact ⟨p, C, dx, gs, w, rfl, hq, c, n, hw, q _ _ w Hi1 H1 hp s1 ok1 rw_⟩
theorem av_fld {C : Addr} {fs : List (Str × Val)} (c : Cls X.K C) (n : NoAttr X.K C f) (ha : aV X a Γ M d) (ho : Ob M C d fs) (hf : fs.lookup f = some d1) (hb : attributeBase a f X.env (eval a X.env) = eval a X.env := by rfl) : aV X (.Attribute a f pos) Γ M d1 :=
  ae_fld c n (ha.val ⟨fs, d1, ho, hf, rfl, rfl⟩) hb
/-! ### dicts -/
theorem ae_dget {n : Nat} {p : Addr} {kvs : List (Key × Val)} (hu : X.A.units + 1 < cLine) (ha : aV X a Γ M (.ptr p)) (hb : aV X b Γ M (.str x)) (hm : M[n]? = some (p, .dk kvs)) (h : ∃ d, dGet kvs (.inr x) = some d ∧ P d M) (hs : NoSl b := by exact fun _ _ => rfl) : aE X (.Subscript a b pos) Γ M P := fun Hi H σ ok en Q q => by
  obtain ⟨d, hd, hp⟩ := h
  refine ⟨_, pe_dget hu pe_we pe_we hs, ?_⟩
  refine ha Hi H σ ok en _ fun x M1 v Hi1 H1 h1 s1 ok1 r1 => ?_
  obtain ⟨rfl, rfl⟩ := h1
  refine hb Hi1 H1 σ ok1 (en.mono s1) _ fun y M2 w Hi2 H2 h2 s2 ok2 r2 => ?_
  obtain ⟨rfl, rfl⟩ := h2
  cases r1
  cases r2
  obtain ⟨_, o, ho, ks, rfl, rk⟩ := ok2.get hm
  obtain ⟨z, hz, rz⟩ := rk.get hd
  exact ⟨p, z, rfl, .inl ⟨ks, .inr _, .inl ho, rfl, hz.symm⟩, q _ _ z Hi2 H2 hp (s1.trans s2) ok2 rz⟩
theorem av_dget {n : Nat} {p : Addr} {kvs : List (Key × Val)} (hu : X.A.units + 1 < cLine) (ha : aV X a Γ M (.ptr p)) (hb : aV X b Γ M (.str x)) (hm : M[n]? = some (p, .dk kvs)) (hd : dGet kvs (.inr x) = some d) (hs : NoSl b := by exact fun _ _ => rfl) : aV X (.Subscript a b pos) Γ M d := ae_dget hu ha hb hm ⟨d, hd, rfl, rfl⟩ hs
theorem as_dput {n : Nat} {p : Addr} {kvs : List (Key × Val)} {ppos : Pos} (hu : X.A.units + 1 < cLine) (ha : aV X a Γ M (.ptr p)) (hb : aV X b Γ M (.str x)) (he : aV X e Γ M d) (hm : M[n]? = some (p, .dk kvs)) (hl : kvs.length < sizeLine) (h : k.nx Γ (M.set n (p, .dk (dPut kvs (.inr x) d))))
    (hs : swapsWith e (some (.Subscript a b ppos)) pos.line X.env = pure false := by rfl) : aS X (.Assign [.Subscript a b ppos] e pos) Γ M k := fun Hi H σ ok en D q => by
  refine ⟨_, ps_dput hu pe_we pe_we pe_we hs, ?_⟩
  refine he Hi H σ ok en _ fun x0 M0 v0 Hi0 H0 h0 s0 ok0 r0 => ?_
  obtain ⟨rfl, rfl⟩ := h0
  refine ha Hi0 H0 σ ok0 (en.mono s0) _ fun x M1 v Hi1 H1 h1 s1 ok1 r1 => ?_
  obtain ⟨rfl, rfl⟩ := h1
  refine hb Hi1 H1 σ ok1 (en.mono (s0.trans s1)) _ fun y M2 w Hi2 H2 h2 s2 ok2 r2 => ?_
  obtain ⟨rfl, rfl⟩ := h2
  cases r1
  cases r2
  obtain ⟨_, o, ho, ks, rfl, rk⟩ := ok2.get hm
  have s02 := (s0.trans s1).trans s2
  exact ⟨p, _, rfl, .inl ⟨ks, .inr _, ho, rfl, by rw [← rk.length]; exact hl, rfl⟩, q.nx _ _ σ Hi2 _ h s02 (ok2.set hm ⟨_, rfl, rk.put (r0.mono (s1.trans s2))⟩) (en.mono s02)⟩
end
end Ab
namespace Ab
open PySem PySem.Spec PyProof.Rows L2
section
variable {X : Cx} {Γ : Gam} {M : Mem} {P : Val → Mem → Prop} {e a b c o : Expr} {es : List Expr} {pos p1 p2 apos : Pos} {k : AK} {d d1 d2 d3 : Val} {i j : Int} {x y f m : Str} {st : Stmt} {sts : List Stmt}
/-! ### blocks -/
theorem as_nil (h : k.nx Γ M) : aSs X [] Γ M k := fun Hi H σ ok en D q => ⟨_, pss_nil, q.nx Γ M σ Hi H h (Same.refl _) ok en⟩
theorem as_cons (h : aS X st Γ M { k with nx := fun Γ' M' => aSs X sts Γ' M' k }) : aSs X (st :: sts) Γ M k := fun Hi H σ ok en D q => by
  refine ⟨_, pss_cons ps_ws pss_wb, ?_⟩
  exact h Hi H σ ok en { D with nx := WB X sts D } ⟨fun Γ' M' σ' Hi' H' hn s ok' en' => hn Hi' H' σ' ok' en' D (q.up s), q.rt, q.bk, q.ct⟩
theorem as_one (h : aS X st Γ M k) : aSs X [st] Γ M k := fun Hi H σ ok en D q => ⟨_, pss_one ps_ws, h Hi H σ ok en D q⟩
theorem aSs.mono {k' : AK} (h : aSs X sts Γ M k) (f1 : ∀ Γ M, k.nx Γ M → k'.nx Γ M) (f2 : ∀ d M, k.rt d M → k'.rt d M) (f3 : ∀ Γ M, k.bk Γ M → k'.bk Γ M) (f4 : ∀ Γ M, k.ct Γ M → k'.ct Γ M) : aSs X sts Γ M k' := fun Hi H σ ok en D q =>
  h Hi H σ ok en D ⟨fun Γ M σ Hi' H' p => q.nx Γ M σ Hi' H' (f1 Γ M p), fun d M v Hi' H' p => q.rt d M v Hi' H' (f2 d M p), fun Γ M σ Hi' H' p => q.bk Γ M σ Hi' H' (f3 Γ M p), fun Γ M σ Hi' H' p => q.ct Γ M σ Hi' H' (f4 Γ M p)⟩
/-- the list in a slot's cell will change no more -/
theorem as_frz (i : Nat) {p : Addr} {xs : List Val} (hΓ : Γ[i]? = some (some (.ptr p))) (h : aSs X sts (Γ.set i (some (.lst xs))) M k) : aSs X sts Γ ((p, .lst xs) :: M) k := fun Hi H σ ok en D q => by
  obtain ⟨e0, o, ho, vs, rfl, ra⟩ := ok.ce p _ List.mem_cons_self
  have s2 := same_upd (o := .lst vs) e0
  obtain ⟨v, hv, rv⟩ := en.2 i _ hΓ
  cases rv
  have en2 := (en.mono s2).set (i := i) (d := .lst xs) (v := .ref p) (.lst (SqL.of upd_same) (ra.mono s2))
  have e : σ.set i (some (V.ref p)) = σ := by
    apply List.ext_getElem?
    intro j
    by_cases hij : i = j
    · subst hij
      rw [List.getElem?_set_self (List.getElem?_eq_some_iff.mp hv).1, hv]
    · rw [List.getElem?_set_ne hij]
  rw [e] at en2
  exact h _ H σ (ok.freeze ho) en2 D (q.up s2)
/-- forget a cell, slots -/
theorem as_drop {c : Addr × Cell} (h : aSs X sts Γ M k) : aSs X sts Γ (c :: M) k := fun Hi H σ ok en D q => h Hi H σ (Ok.tail (p := c.1) (c := c.2) ok) en D q
/-! ### statements -/
theorem as_expr (h : aE X e Γ M fun _ M' => k.nx Γ M') (hs : swapsWith e none pos.line X.env = pure false := by rfl) : aS X (.Expr e pos) Γ M k := fun Hi H σ ok en D q => by
  refine ⟨_, ps_expr pe_we hs, ?_⟩
  exact h Hi H σ ok en _ fun x M1 v Hi1 H1 h1 s1 ok1 r1 => q.nx _ _ σ Hi1 H1 h1 s1 ok1 (en.mono s1)
theorem as_ret (h : aE X e Γ M k.rt) : aS X (.Return (some e) pos) Γ M k := fun Hi H σ ok en D q => by
  refine ⟨_, ps_ret pe_we, ?_⟩
  exact h Hi H σ ok en _ fun x M1 v Hi1 H1 h1 s1 ok1 r1 => q.rt _ _ v Hi1 H1 h1 s1 ok1 r1
theorem as_if {s1 s2 : List Stmt} (h : aT X c Γ M fun b M' => (b = true → aSs X s1 Γ M' k) ∧ (b = false → aSs X s2 Γ M' k)) : aS X (.If c s1 s2 pos) Γ M k := fun Hi H σ ok en D q => by
  refine ⟨_, ps_if pt_wt pss_wb pss_wb, ?_⟩
  refine h Hi H σ ok en _ fun x M1 Hi1 H1 h1 s1 ok1 => ?_
  cases x with
  | true => exact iteT (h1.1 rfl Hi1 H1 σ ok1 (en.mono s1) D (q.up s1))
  | false => exact iteF (h1.2 rfl Hi1 H1 σ ok1 (en.mono s1) D (q.up s1))
theorem as_ifd {s1 s2 : List Stmt} {p : Prop} [Decidable p] (hc : aB X c Γ M (decide p)) (h1 : p → aSs X s1 Γ M k) (h2 : ¬ p → aSs X s2 Γ M k) : aS X (.If c s1 s2 pos) Γ M k :=
  as_if (hc.val ⟨fun z => h1 (of_decide_eq_true z), fun z => h2 (of_decide_eq_false z)⟩)
/-! ### targets -/
def WG (X : Cx) (tg : Expr) : TG := fun v σ H Q => ∃ t, PG X tg t ∧ t v σ H Q
theorem pg_wg : PG X e (WG X e) := ⟨fun pins s σ H v u Q I r ⟨t, p, h⟩ => p.run pins s σ H v u Q I r h⟩
def aG (X : Cx) (tg : Expr) (d : Val) (Γ : Gam) (M : Mem) (R : Gam → Mem → Prop) : Prop := ∀ Hi H σ v, Ok X.K Hi M H → EnvR X.K Hi Γ σ → Rep X.K Hi d v → ∀ Q : L2.St → Hp → Prop, (∀ Γ' M' σ' Hi' H', R Γ' M' → Same Hi Hi' → Ok X.K Hi' M' H' → EnvR X.K Hi' Γ' σ' → Q σ' H') → WG X tg v σ H Q
theorem ag_name {R : Gam → Mem → Prop} (n : Nat) (hN : X.N.Nodup) (h : R (Γ.set n (some d)) M) (hi : X.N[n]? = some x := by rfl) (hx : Loc X.env.scope x := by first | exact Or.inl rfl | exact Or.inr rfl) (hf : X.fn x = true ∨ X.env.scope.names.lookup x = some .local := by first | exact .inl rfl | exact .inr rfl | assumption) :
    aG X (.Name x pos) d Γ M R := fun Hi H σ v ok en r Q q => ⟨_, pg_name hN hi hx hf, q _ _ _ Hi H h (Same.refl _) ok (en.set r)⟩
def aGs (X : Cx) (tgs : List Expr) (ds : List Val) (Γ : Gam) (M : Mem) (R : Gam → Mem → Prop) : Prop := ∀ Hi H σ vs, Ok X.K Hi M H → EnvR X.K Hi Γ σ → RepA X.K Hi ds vs → ∀ Q : L2.St → Hp → Prop, (∀ Γ' M' σ' Hi' H', R Γ' M' → Same Hi Hi' → Ok X.K Hi' M' H' → EnvR X.K Hi' Γ' σ' → Q σ' H') → ∃ t, PGs X tgs t ∧ t vs σ H Q
def WGs (X : Cx) (tgs : List Expr) : TGs := fun v σ H Q => ∃ t, PGs X tgs t ∧ t v σ H Q
theorem pgs_wgs : PGs X es (WGs X es) := ⟨fun pins s σ H v u Q I r ⟨t, p, h⟩ => p.run pins s σ H v u Q I r h⟩
theorem ags_nil {R : Gam → Mem → Prop} (h : R Γ M) : aGs X [] [] Γ M R := fun Hi H σ vs ok en r Q q => by
  cases r
  exact ⟨_, pgs_nil, rfl, q _ _ _ Hi H h (Same.refl _) ok en⟩
theorem ags_cons {R : Gam → Mem → Prop} {ds : List Val} (h : aG X e d Γ M fun Γ' M' => aGs X es ds Γ' M' R) (hs : (assignEach (e :: es) X.env).map (·.2) = assign e X.env :: (assignEach es X.env).map (·.2) := by rfl) : aGs X (e :: es) (d :: ds) Γ M R := fun Hi H σ vs ok en r Q q => by
  cases r with
  | cons r1 r2 =>
    refine ⟨_, pgs_cons pg_wg pgs_wgs hs, _, _, rfl, ?_⟩
    refine h Hi H σ _ ok en r1 _ fun Γ' M' σ' Hi' H' h1 s1 ok1 en1 => ?_
    exact h1 Hi' H' σ' _ ok1 en1 (r2.mono s1) Q fun Γ2 M2 σ2 Hi2 H2 h2 s2 ok2 en2 => q _ _ _ Hi2 H2 h2 (s1.trans s2) ok2 en2
theorem ag_tup {kk : Nat} {R : Gam → Mem → Prop} {ds : List Val} (hc : X.calm = true) (h : aGs X es ds Γ M R) (hl : (assignEach es X.env).length = ds.length := by rfl) (hst : (assignEach es X.env).findIdx? (·.1) = none := by rfl) : aG X (.Tuple es kk pos) (.tup ds) Γ M R := fun Hi H σ v ok en r Q q => by
  cases r with
  | tup hq ra => exact ⟨_, pg_tup hc pgs_wgs rfl hst, _, _, rfl, sameT ok.im hq, ra.length.symm.trans hl.symm, h Hi H σ _ ok en ra Q q⟩
theorem as_asg {tg : Expr} (he : aE X e Γ M fun d M' => aG X tg d Γ M' k.nx) (hs : swapsWithSole [tg] e pos.line X.env = pure false := by rfl) (hw : swappedStores [tg] e X.env = pure none := by rfl) (h1 : (assignEach [tg] X.env).map (·.2) = [assign tg X.env] := by rfl) : aS X (.Assign [tg] e pos) Γ M k := fun Hi H σ ok en D q => by
  refine ⟨_, ps_asg pe_we pg_wg hs hw h1, ?_⟩
  refine he Hi H σ ok en _ fun x M1 v Hi1 H1 h1 s1 ok1 r1 => ?_
  exact h1 Hi1 H1 σ v ok1 (en.mono s1) r1 _ fun Γ2 M2 σ2 Hi2 H2 h2 s2 ok2 en2 => q.nx _ _ _ Hi2 H2 h2 (s1.trans s2) ok2 en2
theorem as_set {ps : Pos} (n : Nat) (hN : X.N.Nodup) (he : aE X e Γ M fun d M' => k.nx (Γ.set n (some d)) M') (hi : X.N[n]? = some x := by rfl) (hx : Loc X.env.scope x := by first | exact Or.inl rfl | exact Or.inr rfl)
    (hs : swapsWith e (some (.Name x ps)) pos.line X.env = pure false := by rfl) (hf : X.fn x = true ∨ X.env.scope.names.lookup x = some .local := by first | exact .inl rfl | exact .inr rfl | assumption) : aS X (.Assign [.Name x ps] e pos) Γ M k := fun Hi H σ ok en D q => by
  refine ⟨_, ps_set hN hi hx pe_we hs hf, ?_⟩
  exact he Hi H σ ok en _ fun x M1 v Hi1 H1 h1 s1 ok1 r1 => q.nx _ _ _ Hi1 H1 h1 s1 ok1 ((en.mono s1).set r1)
/-- a, b = e1, e2 -/
theorem as_par {px py pt : Pos} {kt k2 pt2} (n m : Nat) (hN : X.N.Nodup) (hc : X.calm = true) (hnm : n ≠ m) (he : aA X [a, b] Γ M fun ds M' => ∃ d1 d2, ds = [d1, d2] ∧ k.nx ((Γ.set n (some d1)).set m (some d2)) M')
    (hi : X.N[n]? = some x := by rfl) (hj : X.N[m]? = some y := by rfl) (hx : X.env.scope.names.lookup x = some .local := by rfl) (hy : X.env.scope.names.lookup y = some .local := by rfl)
    (hw : swappedStores [.Tuple [.Name x px, .Name y py] kt pt] (.Tuple [a, b] k2 pt2) X.env = pure (some [x, y]) := by rfl)
    (hs : swapsWithSole [.Tuple [.Name x px, .Name y py] kt pt] (.Tuple [a, b] k2 pt2) pos.line X.env = pure false := by rfl) : aS X (.Assign [.Tuple [.Name x px, .Name y py] kt pt] (.Tuple [a, b] k2 pt2) pos) Γ M k := fun Hi H σ ok en D q => by
  refine ⟨_, ps_par hc hN hi hj hnm hx hy pa_wa hw hs, ?_⟩
  refine he Hi H σ ok en _ fun ds M1 vs Hi1 H1 h1 s1 ok1 r1 => ?_
  obtain ⟨d1, d2, rfl, h2⟩ := h1
  cases r1 with
  | cons r1 r2 =>
    cases r2 with
    | cons r2 r3 =>
      cases r3
      exact ⟨_, _, rfl, q.nx _ _ _ Hi1 H1 h2 s1 ok1 (((en.mono s1).set r1).set r2)⟩
/-! ### fields stored -/
theorem as_fld {C : Addr} {ps : Pos} (c : Cls X.K C) (na : NoAttr X.K C f) (he : aE X e Γ M fun d M' => aE X a Γ M' fun o M2 => ∃ n p fs, o = .ptr p ∧ M2[n]? = some (p, .ins C fs) ∧ fs.length < 1000 ∧ k.nx Γ (M2.set n (p, .ins C (putV f d fs))))
    (hs : swapsWith e (some (.Attribute a f ps)) pos.line X.env = pure false := by rfl) : aS X (.Assign [.Attribute a f ps] e pos) Γ M k := fun Hi H σ ok en D q => by
  refine ⟨_, ps_fld pe_we pe_we hs, ?_⟩
  refine he Hi H σ ok en _ fun d M1 v Hi1 H1 h1 s1 ok1 r1 => ?_
  refine h1 Hi1 H1 σ ok1 (en.mono s1) _ fun o M2 w Hi2 H2 h2 s2 ok2 r2 => ?_
  obtain ⟨n, p, fs, rfl, hm, hl, hk⟩ := h2
  cases r2
  obtain ⟨_, o, ho, dx, gs, rfl, rf⟩ := ok2.get hm
  refine ⟨p, C, dx, gs, rfl, ho, c, na, by rw [← rf.length]; exact hl, ?_⟩
  have s12 := s1.trans s2
  exact q.nx _ _ σ Hi2 _ hk s12 (ok2.set hm ⟨dx, _, rfl, rf.put (r1.mono s2)⟩) (en.mono s12)
/-! ### append -/
theorem ae_append {n0 : Nat} {p : Addr} {xs0 : List Val} (ha : aV X a Γ M (.ptr p)) (hm0 : M[n0]? = some (p, .lst xs0)) (he : aE X e Γ M fun y M2 => ∃ n xs, M2[n]? = some (p, .lst xs) ∧ xs.length < sizeLine ∧ P .non (M2.set n (p, .lst (xs ++ [y]))))
    (hbase : attributeBase a "append" X.env (eval a X.env) = eval a X.env := by rfl)
    (hfew : ((backTo pos (starEach [e] X.env)).all (fun x => !x.1) && (backToKw pos (keywordEach [] X.env)).all (fun x => x.1.isSome)
      && decide (([e] : List Expr).length + ([] : List Keyword).length + (if ([] : List Keyword).isEmpty then 0 else 1) < 30)) = true := by rfl)
    (hline : (apos.endLine == pos.line) = true := by rfl) (hs : starEach [e] X.env = (false, eval e X.env) :: starEach [] X.env := by rfl) : aE X (.Call (.Attribute a "append" apos) [e] [] pos) Γ M P := fun Hi H σ ok en Q q => by
  refine ⟨_, pe_bm PySem.F.plainAttrs_list PySem.F.slot_list_append PySem.F.type_list_append mt_append pe_we (pa_cons pe_we pa_nil hs) hbase hfew hline hs rfl, ?_⟩
  refine ha Hi H σ ok en _ fun d M1 v Hi1 H1 h1 s1 ok1 r1 => ?_
  obtain ⟨rfl, rfl⟩ := h1
  cases r1
  obtain ⟨_, o, ho, ys, rfl, ra⟩ := ok1.get hm0
  refine ⟨.inl ⟨rfl, _, SqL.of ho⟩, ?_⟩
  refine he Hi1 H1 σ ok1 (en.mono s1) _ fun y M2 w Hi2 H2 h2 s2 ok2 r2 => ?_
  obtain ⟨n, xs, hm, hl, hp⟩ := h2
  obtain ⟨_, o, ho2, zs, rfl, rz⟩ := ok2.get hm
  exact ⟨p, zs, w, rfl, rfl, ho2, by rw [← rz.length]; exact hl, q _ _ _ Hi2 _ hp (s1.trans s2) (ok2.set hm ⟨_, rfl, rz.append (.cons r2 .nil)⟩) .non⟩
/-! ### loops -/
def WI (X : Cx) (tg iter : Expr) : TI := fun σ H R => ∃ t, PI X tg iter t ∧ t σ H R
theorem pi_wi {tg iter : Expr} : PI X tg iter (WI X tg iter) := ⟨fun pins s σ H R I ⟨t, p, h⟩ => p.run pins s σ H R I h⟩
/-- n turns, the i-th gives it i; while G holds of the cells -/
def aI (X : Cx) (tg iter : Expr) (Γ : Gam) (M : Mem) (n : Nat) (it : Nat → Val) (G : Mem → Prop) (P : Mem → Prop) : Prop := ∀ Hi H σ, Ok X.K Hi M H → EnvR X.K Hi Γ σ → ∀ R : It → Hp → Prop,
  (∀ J M1 Hi1 H1, P M1 → Same Hi Hi1 → Ok X.K Hi1 M1 H1 →
    Walk J n (fun H' => ∃ Hi' M', Same Hi1 Hi' ∧ Ok X.K Hi' M' H' ∧ G M') (fun i H' v H'' => ∀ Hi' M', Same Hi1 Hi' → Ok X.K Hi' M' H' → G M' → ∃ Hi'', Same Hi' Hi'' ∧ Ok X.K Hi'' M' H'' ∧ Rep X.K Hi'' (it i) v) → R J H1) → WI X tg iter σ H R
theorem as_for {tg iter : Expr} {body : List Stmt} {n : Nat} {it : Nat → Val} {G : Mem → Prop} (I : Nat → Gam → Mem → Prop) (hp : PassesOwn (model X.prog X.w) X.A X.env X.xe) (hc : X.calm = true) (hi : aI X tg iter Γ M n it G (I 0 Γ)) (hG : ∀ i Γ M, i ≤ n → I i Γ M → G M)
    (hs : ∀ i Γ M, i < n → I i Γ M → aG X tg (it i) Γ M fun Γ2 M2 => aSs X body Γ2 M2 { k with nx := I (i + 1), ct := I (i + 1), bk := k.nx }) (hd : ∀ Γ M, I n Γ M → k.nx Γ M)
    (hf : ∀ x, foldedSetIterable iter X.env x = pure x := by intro _; rfl) : aS X (.For tg iter body [] pos) Γ M k := fun Hi H σ ok en D q => by
  refine ⟨_, ps_for hp hc pi_wi pg_wg pss_wb hf, ?_⟩
  refine hi Hi H σ ok en _ fun J M1 Hi1 H1 h1 s1 ok1 w => ?_
  refine for_it w (fun i σ' H' => ∃ Γ' M' Hi', I i Γ' M' ∧ Same Hi1 Hi' ∧ Ok X.K Hi' M' H' ∧ EnvR X.K Hi' Γ' σ') ⟨Γ, M1, Hi1, h1, Same.refl _, ok1, en.mono s1⟩ ?_ ?_ ?_
  · rintro i σ' H' hi ⟨Γ', M', Hi', h2, s2, ok2, en2⟩
    exact ⟨Hi', M', s2, ok2, hG i Γ' M' hi h2⟩
  · rintro i v σ' H' H'' hi ⟨Γ', M', Hi', h2, s2, ok2, en2⟩ hy
    obtain ⟨Hi3, s3, ok3, r3⟩ := hy Hi' M' s2 ok2 (hG i Γ' M' (Nat.le_of_lt hi) h2)
    have s13 := (s1.trans s2).trans s3
    refine hs i Γ' M' hi h2 Hi3 H'' σ' v ok3 (en2.mono s3) r3 _ fun Γ4 M4 σ4 Hi4 H4 h4 s4 ok4 en4 => ?_
    have s24 := (s2.trans s3).trans s4
    exact h4 Hi4 H4 σ4 ok4 en4 _ ⟨fun Γ5 M5 σ5 Hi5 H5 h5 s5 ok5 en5 => ⟨Γ5, M5, Hi5, h5, s24.trans s5, ok5, en5⟩, (q.up (s13.trans s4)).rt, (q.up (s13.trans s4)).nx, fun Γ5 M5 σ5 Hi5 H5 h5 s5 ok5 en5 => ⟨Γ5, M5, Hi5, h5, s24.trans s5, ok5, en5⟩⟩
  · rintro σ' H' ⟨Γ', M', Hi', h2, s2, ok2, en2⟩
    exact q.nx Γ' M' σ' Hi' H' (hd Γ' M' h2) (s1.trans s2) ok2 en2
theorem as_while {body : List Stmt} (I : Nat → Gam → Mem → Prop) (n : Nat) (hp : PassesOwn (model X.prog X.w) X.A X.env X.xe) (h0 : I n Γ M)
    (hs : ∀ n Γ M, I n Γ M → aT X c Γ M fun b M1 => (b = true → aSs X body Γ M1 { k with nx := fun Γ' M' => ∃ m, m < n ∧ I m Γ' M', ct := fun Γ' M' => ∃ m, m < n ∧ I m Γ' M', bk := k.nx }) ∧ (b = false → k.nx Γ M1)) : aS X (.While c body [] pos) Γ M k := fun Hi H σ ok en D q => by
  refine ⟨_, ps_while hp pt_wt pss_wb, ?_⟩
  refine ⟨fun m σ' H' => ∃ Γ' M' Hi', I m Γ' M' ∧ Same Hi Hi' ∧ Ok X.K Hi' M' H' ∧ EnvR X.K Hi' Γ' σ', ⟨n, Γ, M, Hi, h0, Same.refl _, ok, en⟩, ?_⟩
  rintro m σ' H' ⟨Γ', M', Hi', h2, s2, ok2, en2⟩
  refine hs m Γ' M' h2 Hi' H' σ' ok2 en2 _ fun b M3 Hi3 H3 h3 s3 ok3 => ?_
  cases b with
  | true =>
    refine iteT ⟨fun σ5 H5 => ∃ Γ5 M5 Hi5, (∃ m', m' < m ∧ I m' Γ5 M5) ∧ Same Hi3 Hi5 ∧ Ok X.K Hi5 M5 H5 ∧ EnvR X.K Hi5 Γ5 σ5, ?_, ?_⟩
    · rintro σ5 H5 ⟨Γ5, M5, Hi5, ⟨m', hl, h5⟩, s5, ok5, en5⟩
      exact ⟨m', hl, Γ5, M5, Hi5, h5, (s2.trans s3).trans s5, ok5, en5⟩
    · have q3 := q.up (s2.trans s3)
      exact h3.1 rfl Hi3 H3 σ' ok3 (en2.mono s3) _ ⟨fun Γ5 M5 σ5 Hi5 H5 h5 s5 ok5 en5 => ⟨Γ5, M5, Hi5, h5, s5, ok5, en5⟩, q3.rt, q3.nx, fun Γ5 M5 σ5 Hi5 H5 h5 s5 ok5 en5 => ⟨Γ5, M5, Hi5, h5, s5, ok5, en5⟩⟩
  | false => exact iteF (q.nx Γ' M3 σ' Hi3 H3 (h3.2 rfl) (s2.trans s3) ok3 (en2.mono s3))
/-! ### what is walked -/
theorem Sq.at {K : PySem.W.Frag} {H : Hp} {ds : List Val} {vs : List V} {i : Nat} {v : V} (r : RepA K H ds vs) (h : vs[i]? = some v) : Rep K H (ds.getD i .non) v := by
  obtain ⟨d, h1, h2⟩ := r.getV h
  rw [List.getD_eq_getElem?_getD, h1]
  exact h2
theorem ai_lst {tg : Expr} {R : Mem → Prop} {xs : List Val} (ha : aE X a Γ M fun d M' => d = .lst xs ∧ R M') : aI X tg a Γ M xs.length (fun i => xs.getD i .non) (fun _ => True) R := fun Hi H σ ok en R' q => by
  refine ⟨_, pi_list pe_we, ?_⟩
  refine ha Hi H σ ok en _ fun d M1 v Hi1 H1 h1 s1 ok1 r1 => ?_
  obtain ⟨rfl, hp⟩ := h1
  cases r1 with
  | @lst p ys _ hq ra =>
    refine ⟨p, rfl, ⟨ys, ok1.im.seq hq⟩, q _ M1 Hi1 H1 hp s1 ok1 ?_⟩
    rw [ra.length]
    refine walk_list.mono (fun H' hG => ?_) fun i H' v H'' hi hG hy Hi' M' s2 ok2 _ => ?_
    · obtain ⟨Hi', M', s2, ok2, _⟩ := hG
      exact ok2.im.seq (s2.seq hq)
    · obtain ⟨rfl, hv⟩ := hy
      exact ⟨Hi', Same.refl _, ok2, (Sq.at ra hv).mono s2⟩
theorem ai_tup {tg : Expr} {R : Mem → Prop} {xs : List Val} (ha : aE X a Γ M fun d M' => d = .tup xs ∧ R M') : aI X tg a Γ M xs.length (fun i => xs.getD i .non) (fun _ => True) R := fun Hi H σ ok en R' q => by
  refine ⟨_, pi_tup pe_we, ?_⟩
  refine ha Hi H σ ok en _ fun d M1 v Hi1 H1 h1 s1 ok1 r1 => ?_
  obtain ⟨rfl, hp⟩ := h1
  cases r1 with
  | @tup p ys _ hq ra =>
    refine ⟨p, rfl, ⟨ys, sameT ok1.im hq⟩, q _ M1 Hi1 H1 hp s1 ok1 ?_⟩
    rw [ra.length]
    refine walk_tup.mono (fun H' hG => ?_) fun i H' v H'' hi hG hy Hi' M' s2 ok2 _ => ?_
    · obtain ⟨Hi', M', s2, ok2, _⟩ := hG
      exact sameT ok2.im (sameT s2 hq)
    · obtain ⟨rfl, hv⟩ := hy
      exact ⟨Hi', Same.refl _, ok2, (Sq.at ra hv).mono s2⟩
theorem ai_range2 {tg : Expr} {R : Mem → Prop} {n : Nat} {lo : Int} (hm : X.mg "range" = none) (ha : aA X [a, b] Γ M fun ds M' => ∃ hi : Int, ds = [.int lo, .int hi] ∧ (hi - lo).toNat = n ∧ (-(2 ^ 62) ≤ lo ∧ lo < 2 ^ 62 ∧ -(2 ^ 62) ≤ hi ∧ hi < 2 ^ 62) ∧ R M') (hg : Gl X "range" := by rfl)
    (hs : starEach [a, b] X.env = [(false, eval a X.env), (false, eval b X.env)] := by rfl) (hs2 : starEach [b] X.env = [(false, eval b X.env)] := by rfl) :
    aI X tg (.Call (.Name "range" p1) [a, b] [] pos) Γ M n (fun i => .int (lo + i)) (fun _ => True) R := fun Hi H σ ok en R' q => by
  refine ⟨_, pi_range2 hg hm pa_wa hs hs2, ?_⟩
  refine ha Hi H σ ok en _ fun d M1 v Hi1 H1 h1 s1 ok1 r1 => ?_
  obtain ⟨hi, rfl, rfl, hb, hp⟩ := h1
  cases r1 with
  | cons r1 r2 =>
    cases r2 with
    | cons r2 r3 =>
      cases r3
      cases r1
      cases r2
      refine ⟨lo, hi, rfl, hb, q _ M1 Hi1 H1 hp s1 ok1 ?_⟩
      refine walk_range.mono (fun _ _ => trivial) fun i H' v H'' hi hG hy Hi' M' s2 ok2 _ => ?_
      obtain ⟨rfl, rfl⟩ := hy
      exact ⟨Hi', Same.refl _, ok2, .int _⟩
theorem ai_enumL {elts : List Expr} {kk : Nat} {tpos : Pos} {R : Mem → Prop} {xs : List Val} (hm : X.mg "enumerate" = none) (ha : aE X a Γ M fun d M' => d = .lst xs ∧ R M') (hg : Gl X "enumerate" := by rfl) (hs : starEach [a] X.env = [(false, eval a X.env)] := by rfl) :
    aI X (.Tuple elts kk tpos) (.Call (.Name "enumerate" p1) [a] [] pos) Γ M xs.length (fun i => .tup [.int i, xs.getD i .non]) (fun _ => True) R := fun Hi H σ ok en R' q => by
  refine ⟨_, pi_enum hg hm (pa_cons pe_we pa_nil hs) hs, ?_⟩
  refine ha Hi H σ ok en _ fun d M1 v Hi1 H1 h1 s1 ok1 r1 => ?_
  obtain ⟨rfl, hp⟩ := h1
  cases r1 with
  | @lst p ys _ hq ra =>
    refine ⟨p, ys, rfl, ok1.im.seq hq, q _ M1 Hi1 H1 hp s1 ok1 ?_⟩
    rw [ra.length]
    refine walk_enum.mono (fun H' hG => ?_) fun i H' v H'' hi hG hy Hi' M' s2 ok2 _ => ?_
    · obtain ⟨Hi', M', s2, ok2, _⟩ := hG
      exact ok2.im.seq (s2.seq hq)
    · obtain ⟨T, x, y, rfl, hT, rfl, hx, hy⟩ := hy
      cases hx
      have s3 := same_upd (o := .tup [.int (i : Nat), y]) (ok2.none hT)
      exact ⟨_, s3, ok2.imm hT, .tup (SqT.of upd_same) (.cons (.int _) (.cons ((Sq.at ra hy).mono (s2.trans s3)) .nil))⟩
end
end Ab
namespace Ab
open PySem PySem.Spec PyProof.Rows L2
/-! ### promises -/
/-- positional arguments, cells, what follows -/
abbrev ASp := List Val → Mem → (Val → Mem → Prop) → Prop
/-- .. and the keywords' values -/
abbrev ASx := List Val → List Val → Mem → (Val → Mem → Prop) → Prop
def spA (K : PySem.W.Frag) (s : ASp) : Sp := fun vs H Q _ => ∃ Hi M ds P, RepA K Hi ds vs ∧ Ok K Hi M H ∧ s ds M P ∧ Post K Hi P Q
def spX (K : PySem.W.Frag) (s : ASx) (vs zs : List V) (H : Hp) (Q : VK) : Prop := ∃ Hi M ds es P, RepA K Hi ds vs ∧ RepA K Hi es zs ∧ Ok K Hi M H ∧ s ds es M P ∧ Post K Hi P Q
/-- the end of a def: cells of its own are forgotten, or will change no more -/
inductive Ret (P : Val → Mem → Prop) : Val → Mem → Prop
  | ok {d : Val} {M : Mem} : P d M → Ret P d M
  | drop {d : Val} {M : Mem} {c : Addr × Cell} : Ret P d M → Ret P d (c :: M)
  | frz {p : Addr} {xs : List Val} {M : Mem} : Ret P (.lst xs) M → Ret P (.ptr p) ((p, .lst xs) :: M)
  | obj {p C : Addr} {fs : List (Str × Val)} {M : Mem} : Ret P (.obj C fs) M → Ret P (.ptr p) ((p, .ins C fs) :: M)
  | tr {d : Val} {M M' : Mem} : (∀ K Hi H, Ok K Hi M H → Ok K Hi M' H) → Ret P d M' → Ret P d M
theorem Ret.post {K : PySem.W.Frag} {P : Val → Mem → Prop} {Q : VK} {d : Val} {M : Mem} (h : Ret P d M) : ∀ {Hi Hi' H' : Hp} {v : V}, Post K Hi P Q → Same Hi Hi' → Ok K Hi' M H' → Rep K Hi' d v → Q v H' := by
  induction h with
  | ok hp => exact fun q s ok r => q _ _ _ _ _ hp s ok r
  | drop _ ih => exact fun q s ok r => ih q s (Ok.tail ok) r
  | tr t _ ih => exact fun q s ok r => ih q s (t _ _ _ ok) r
  | frz _ ih =>
    intro Hi Hi' H' v q s ok r
    obtain ⟨e0, o, ho, vs, rfl, ra⟩ := ok.ce _ _ List.mem_cons_self
    cases r
    have s2 := same_upd (o := .lst vs) e0
    exact ih q (s.trans s2) (ok.freeze ho) (.lst (SqL.of upd_same) (ra.mono s2))
  | @obj p C fs M _ ih =>
    intro Hi Hi' H' v q s ok r
    obtain ⟨e0, o, ho, dx, gs, rfl, ra⟩ := ok.ce _ _ List.mem_cons_self
    cases r
    have s2 := same_upd (o := .ins C dx gs) e0
    exact ih q (s.trans s2) (ok.freeze ho) (.obj upd_same (ra.mono s2))
/-- the slots at a def's entry -/
def gam (N : List Str) (ds : List Val) : Gam := ds.map some ++ List.replicate (N.length - ds.length) none
theorem env_start {K : PySem.W.Frag} {H : Hp} {N : List Str} {ds : List Val} {vs : List V} (r : RepA K H ds vs) : EnvR K H (gam N ds) (L2.start N vs) := by
  refine ⟨by simp [gam, L2.start, r.length], fun i d h => ?_⟩
  unfold gam at h
  unfold L2.start
  by_cases hi : i < ds.length
  · rw [List.getElem?_append_left (by simpa using hi), List.getElem?_map] at h
    obtain ⟨d', h1, h2⟩ := Option.map_eq_some_iff.mp h
    cases h2
    obtain ⟨v, h3, h4⟩ := r.get h1
    refine ⟨v, ?_, h4⟩
    rw [List.getElem?_append_left (by rw [List.length_map, ← r.length]; exact hi), List.getElem?_map, h3]
    rfl
  · rw [List.getElem?_append_right (by simpa using Nat.le_of_not_lt hi)] at h
    have := List.mem_of_getElem? h
    rw [List.mem_replicate] at this
    cases this.2
abbrev kOf (P : Val → Mem → Prop) : AK := { nx := fun _ M => Ret P .non M, rt := Ret P }
/-- the context of a def's body -/
abbrev bcx (P : Program) (w : World) (K : PySem.W.Frag) (mg : Str → Option Value) (base : Heap) (N : List Str) (qual : Str) (sc : Scope) (f : Addr) (cdv : Value) (A : Around) (outer : List Env) (s : Shared) (H : Hp) (E : XK) : Cx := (cxOf CX0 P w K mg base N qual sc f cdv A outer s H E).nox
/-- room for k calls, nothing guarded -/
structure Rm (k : Nat) (A : Around) : Prop where
  room : Room k A
  gd : A.guards = some []
theorem Rm.mono {j k : Nat} {A : Around} (r : Rm k A) (h : j ≤ k) : Rm j A := ⟨r.room.mono h, r.gd⟩
theorem Rm.deeper {k : Nat} {A : Around} (r : Rm (k + 1) A) (env : Env) : Rm k (A.deeper env) := ⟨r.room.deeper env, r.gd⟩
theorem Rm.in1 {k : Nat} {A : Around} (r : Rm (k + 1) A) : Rm k A.in1 := ⟨r.room.in1, r.gd⟩
theorem Rm.make {k : Nat} {A : Around} (r : Rm (k + 1) A) (C : Addr) (us : List Value) (kw : List (Str × Value)) : Rm k (A.under (.builtin "type.__call__" ⟨.ref C :: us, kw⟩)) := ⟨r.room.make C us kw, by
  show pushGuards (Code.builtin "type.__call__" ⟨.ref C :: us, kw⟩).guards A.guards = some []
  rw [r.gd]
  first | rfl | simp [Code.guards, pushGuards]⟩
theorem Rm.u1 {k : Nat} {A : Around} (r : Rm k A) : A.units + 1 < cLine := hu_of r.room
theorem Rm.u64 {k : Nat} {A : Around} (r : Rm k A) : A.units + 64 < cLine := Nat.lt_of_le_of_lt (by omega) r.room.un
section
variable {P : Program} {w : World} {K : PySem.W.Frag} {mg : Str → Option Value} {base : Heap}
theorem body_of {N : List Str} {qual : Str} {sc : Scope} {f : Addr} {cdv : Value} {A : Around} {outer : List Env} {s : Shared} {H : Hp} {E : XK} {body : List Stmt} {s0 : ASp} {vs : List V} {Q : VK}
    (hb : ∀ ds M R, s0 ds M R → aSs (bcx P w K mg base N qual sc f cdv A outer s H E) body (gam N ds) M (kOf R)) (h : spA K s0 vs H Q E) :
    ∃ t, PSs (bcx P w K mg base N qual sc f cdv A outer s H E) body t ∧ t { nx := fun _ H' => Q .non H', rt := Q } (L2.start N vs) H := by
  obtain ⟨Hi, M, ds, R, r, ok, hs, q⟩ := h
  refine hb ds M R hs Hi H _ ok (env_start r) _ ⟨fun Γ M' σ Hi' H' h1 s1 ok1 _ => h1.post q s1 ok1 .non, fun d M' v Hi' H' h1 s1 ok1 r1 => h1.post q s1 ok1 r1, fun _ _ _ _ _ z => z.elim, fun _ _ _ _ _ z => z.elim⟩
/-- a def by its call: ks the keywords of the call -/
structure FnX (P : Program) (w : World) (K : PySem.W.Frag) (mg : Str → Option Value) (base : Heap) (k : Nat) (f : Addr) (ks : List Str) (sp : List V → List V → Hp → VK → Prop) : Prop where
  run : ∀ (A : Around) (outer : List Env) (s : Shared) (H : Hp) (us ws : List Value) (vs zs : List V) (Q : VK), Rm k A → Env0 P w K mg base A outer s H → Vals vs us → Vals zs ws → zs.length = ks.length → sp vs zs H Q →
    codeAny (model P w) A (.call (.ref f) ⟨us, ks.zip ws⟩) (CR CX0 outer P w H s Q E0) s
theorem FnX.mono {j k : Nat} {f : Addr} {ks : List Str} {sp : List V → List V → Hp → VK → Prop} (F : FnX P w K mg base j f ks sp) (h : j ≤ k) : FnX P w K mg base k f ks sp := ⟨fun A outer s H us ws vs zs Q hr => F.run A outer s H us ws vs zs Q (hr.mono h)⟩
/-- what a def's body must do, in every context in which it may be called -/
abbrev BodyOk (P : Program) (w : World) (K : PySem.W.Frag) (mg : Str → Option Value) (base : Heap) (k : Nat) (f : Addr) (N : List Str) (qual : Str) (sc : Scope) (body : List Stmt) (s0 : ASp) : Prop :=
  ∀ cdv A outer s H E, Rm k (A.deeper (envOfC qual sc s.heap.objs.size f cdv)) → ∀ ds M R, s0 ds M R → aSs (bcx P w K mg base N qual sc f cdv A outer s H E) body (gam N ds) M (kOf R)
theorem fnx_kbn {x qual : Str} {params : Arguments} {body : List Stmt} {sc : Scope} {dvs : List V} {kws : List (Str × V)} {f : Addr} {fd : FuncData} {N ps ks : List Str} {k n : Nat} {s0 : ASp} {g : List Value → List Value → List Value} {gV : List V → List V → List V} (gA : List Val → List Val → List Val)
    (F : FunD K x qual params body sc dvs kws f fd) (S : FnScope N ps sc) (b : KBn K fd ps n ks g gV)
    (hrel : ∀ H ds vs es zs, RepA K H ds vs → RepA K H es zs → ds.length = n → es.length = ks.length → RepA K H (gA ds es) (gV vs zs)) (len : ∀ ds M R, s0 ds M R → ds.length = ps.length)
    (hb : BodyOk P w K mg base k f N qual sc body s0) : FnX P w K mg base (k + 1) f ks (spX K fun ds es M R => ds.length = n ∧ s0 (gA ds es) M R) := by
  refine ⟨fun A outer s H us ws vs zs Q hr e0 r rz hz ⟨Hi, M, ds, es, R, ra, re, ok, ⟨hn, hs⟩, q⟩ => ?_⟩
  obtain ⟨oc, od, dV, kV, doc, pm, an, cdv, ct, osl, rfl, lk, hcd, _, _⟩ := F.ex
  have KX : K.In s.heap := e0.mod.kin.keeps fun b o e => (e0.bs b o e).1
  have hbt := b.to s us ws KX (by rw [← r.length, ← ra.length]; exact hn) (by rw [← rz.length]; exact hz)
  have rg := hrel Hi ds vs es zs ra re hn (re.length.trans hz)
  have hl : (gV vs zs).length = ps.length := rg.length.symm.trans (len _ _ _ hs)
  refine StX.run_bnd (CX := CX0) (E := E0) (G := fun vs' H2 => vs' = gV vs zs ∧ H2 = H) lk hcd S hr.room e0 (fun A' Ex Q' h => ?_) fun s2 H2 vs' hG hr' => ?_
  · exact hbt _ _ _ _ (h s H (gV vs zs) (g us ws) e0 Un.refl rfl (fun _ _ z => z) (b.rel r rz) hl ⟨rfl, rfl⟩)
  · obtain ⟨rfl, rfl⟩ := hG
    obtain ⟨t, p, z⟩ := body_of (hb cdv A outer s2 H2 E0 (hr.deeper _)) (Q := Q) (vs := gV vs zs) ⟨Hi, M, gA ds es, R, rg, ok, hs, q⟩
    exact ⟨t, p.nox, z⟩
theorem fun_d {x qual : Str} {st : Stmt} {f : Addr} {fd : FuncData} (F : Fun K x qual st f fd) : FunD K x qual (defArgs st) (defBody st) (defScope st) [] [] f fd := by
  obtain ⟨⟨oc, od, kV, doc, pm, an, cdv, ct, osl, rfl, lk, hcd⟩, kp⟩ := F
  exact ⟨⟨oc, od, .none, kV, doc, pm, an, cdv, ct, osl, rfl, lk, hcd, .inl ⟨rfl, rfl⟩, .inl rfl⟩, kp⟩
end
/-! ### calls -/
section
variable {X : Cx} {Γ : Gam} {M : Mem} {P : Val → Mem → Prop} {e a b c o : Expr} {es : List Expr} {kws : List Keyword} {pos p1 p2 apos kpos : Pos} {k : AK} {d d1 d2 d3 : Val} {i j : Int} {x y m : Str} {n : Nat} {f C : Addr} {ks : List Str} {sx : ASx} {nm : Option Str}
theorem run_x {pins : List (Addr × Obj)} {σ : L2.St} {H : Hp} {s : Shared} {Q : VK} {us ws : List Value} {vs zs : List V} {sp : List V → List V → Hp → VK → Prop} (F : FnX X.prog X.w X.K X.mg X.base n f ks sp) (hr : Rm n X.A)
    (I : Inv X pins σ H s) (r : Vals vs us) (rz : Vals zs ws) (l2 : zs.length = ks.length) (h : sp vs zs H Q) : wpAny (model X.prog X.w) X.A (call (.ref f) us (ks.zip ws)) (EP X pins σ Q) X.xe s := by
  refine wpAny_call (codeAny_mono (F.run X.A X.stack s H us ws vs zs Q hr I.env0 r rz l2 h) fun r s' hq => ?_)
  cases r with
  | error e => exact False.elim hq
  | ok fl =>
    cases fl with
    | ret u => exact I.after hq
    | next => exact False.elim hq
    | brk => exact False.elim hq
    | cont => exact False.elim hq
def aKw (X : Cx) (kws : List Keyword) (Γ : Gam) (M : Mem) (P : List Val → Mem → Prop) : Prop := ∀ Hi H σ, Ok X.K Hi M H → EnvR X.K Hi Γ σ → ∀ Q, PostA X.K Hi P Q → ∃ t, PK X kws t ∧ t σ H Q
def WK (X : Cx) (kws : List Keyword) : TA := fun σ H Q => ∃ t, PK X kws t ∧ t σ H Q
theorem pk_wk : PK X kws (WK X kws) := ⟨fun pos pins s σ H Q I ⟨t, p, h⟩ => p.run pos pins s σ H Q I h⟩
theorem ak_nil {P : List Val → Mem → Prop} (h : P [] M) : aKw X [] Γ M P := fun Hi H σ ok en Q q => ⟨_, pk_nil, q _ _ _ Hi H h (Same.refl _) ok .nil⟩
theorem ak_cons {P : List Val → Mem → Prop} (h : aE X e Γ M fun x M1 => aKw X kws Γ M1 fun xs M2 => P (x :: xs) M2) : aKw X (⟨nm, e, kpos⟩ :: kws) Γ M P := fun Hi H σ ok en Q q => by
  refine ⟨_, pk_cons pe_we pk_wk, ?_⟩
  refine h Hi H σ ok en _ fun x M1 v Hi1 H1 h1 s1 ok1 r1 => ?_
  exact h1 Hi1 H1 σ ok1 (en.mono s1) _ fun xs M2 vs Hi2 H2 h2 s2 ok2 r2 => q _ _ _ Hi2 H2 h2 (s1.trans s2) ok2 (.cons (r1.mono s2) r2)
/-- f(e, .., k = v, ..) -/
theorem ae_call (F : FnX X.prog X.w X.K X.mg X.base n f ks (spX X.K sx)) (hr : Rm n X.A) (hm : X.mg x = some (.ref f)) (hk : PySem.W.keepIn X.K (.ref f) = true) (h : aA X (e :: es) Γ M fun ds M1 => aKw X kws Γ M1 fun zs M2 => zs.length = ks.length ∧ sx ds zs M2 P)
    (hg : Gl X x := by rfl) (hall : (backToKw pos (keywordEach kws X.env)).all (·.1.isSome) = true := by rfl) (hks : (backToKw pos (keywordEach kws X.env)).filterMap (·.1) = ks := by rfl) (hdb : (x == ("__debug__" : Str)) = false := by decide)
    (he : starEach (e :: es) X.env = (false, eval e X.env) :: starEach es X.env := by rfl) (hpl : ((backTo pos (starEach (e :: es) X.env)).any (·.1) || (backToKw pos (keywordEach kws X.env)).any (·.1.isNone)) = false := by rfl) : aE X (.Call (.Name x p1) (e :: es) kws pos) Γ M P := fun Hi H σ ok en Q q => by
  refine ⟨fun σ H Q => WA X (e :: es) σ H fun vs H1 => WK X kws σ H1 fun zs H2 => zs.length = ks.length ∧ spX X.K sx vs zs H2 Q, ⟨fun pins s σ H Q I h => ?_⟩, ?_⟩
  · refine wpAny_Call_Name_kw (ld_glob I hg hm ?_ hdb)
    refine PySem.W.callWith_KW (h₀ := X.base) I.ok.mod.kin hk hall (thn (pa_wa.run pos pins s σ H _ I h) fun us s1 ⟨vs, H1, I1, r, q⟩ => ?_) hpl he
    refine thn (pk_wk.run pos pins s1 σ H1 _ I1 q) fun ws s2 ⟨zs, H2, I2, rz, l2, q2⟩ => ⟨I2.kIn, ?_⟩
    rw [hks]
    exact run_x F hr I2 r rz l2 q2
  · refine h Hi H σ ok en _ fun ds M1 vs Hi1 H1 h1 s1 ok1 r1 => ?_
    refine h1 Hi1 H1 σ ok1 (en.mono s1) _ fun zs M2 ws Hi2 H2 h2 s2 ok2 r2 => ?_
    exact ⟨r2.length.symm.trans h2.1, Hi2, M2, ds, zs, P, r1.mono s2, r2, ok2, h2.2, q.up (s1.trans s2)⟩
/-- o.m(e, .., k = v, ..) -/
theorem ae_meth {pl : Sem Bool} {fs : List (Str × Val)} (c : Cls X.K C) (hm : Meth X.K C m f) (F : FnX X.prog X.w X.K X.mg X.base n f ks (spX X.K sx)) (hr : Rm n X.A) (ho : aV X o Γ M d) (hob : Ob M C d fs) (hl : fs.lookup m = none)
    (h : aA X (e :: es) Γ M fun ds M1 => aKw X kws Γ M1 fun zs M2 => zs.length = ks.length ∧ sx (d :: ds) zs M2 P)
    (hall : (backToKw pos (keywordEach kws X.env)).all (·.1.isSome) = true := by rfl) (hks : (backToKw pos (keywordEach kws X.env)).filterMap (·.1) = ks := by rfl)
    (he : starEach (e :: es) X.env = (false, eval e X.env) :: starEach es X.env := by rfl) (hpl : ((backTo pos (starEach (e :: es) X.env)).any (·.1) || (backToKw pos (keywordEach kws X.env)).any (·.1.isNone)) = false := by rfl)
    (ht : eval (.Call (.Attribute o m apos) (e :: es) kws pos) X.env = (do
      let ov ← eval o X.env
      standAt apos.atName
      let (f, first) ← holding [ov] (getMethod ov m pl)
      callWith pos f first (backTo pos (starEach (e :: es) X.env)) (backToKw pos (keywordEach kws X.env))) := by rfl) : aE X (.Call (.Attribute o m apos) (e :: es) kws pos) Γ M P := fun Hi H σ ok en Q q => by
  refine ⟨fun σ H Q => WE X o σ H fun x H0 => ∃ a dx fs, x = .ref a ∧ H0 a = some (.ins C dx fs) ∧ fs.lookup m = none ∧ WA X (e :: es) σ H0 fun vs H1 => WK X kws σ H1 fun zs H2 => zs.length = ks.length ∧ spX X.K sx (x :: vs) zs H2 Q, ⟨fun pins s σ H Q I h => ?_⟩, ?_⟩
  · refine PySem.W.methodCall_KW (pl := pl) (thn (pe_we.run pins s σ H _ I h) fun u s1 ⟨x, H1, I1, rx, a, dx, fs, ex, ea, l, q⟩ => ?_) ht
    subst ex
    obtain rfl : u = Value.ref a := rx
    refine getmeth_ok I1 ea c hm l ?_
    refine PySem.W.callWith_KW (first := [.ref a]) (h₀ := X.base) I.ok.mod.kin hm.kp hall (thn (pa_wa.run pos pins s1 σ H1 _ I1 q) fun us s2 ⟨vs, H2, I2, r, q2⟩ => ?_) hpl he
    refine thn (pk_wk.run pos pins s2 σ H2 _ I2 q2) fun ws s3 ⟨zs, H3, I3, rz, l2, q3⟩ => ⟨I3.kIn, ?_⟩
    rw [hks]
    exact run_x (us := .ref a :: us) (vs := .ref a :: vs) F hr I3 (.cons rfl r) rz l2 q3
  · refine ho Hi H σ ok en _ fun x M0 v0 Hi0 H0 h0 s0 ok0 r0 => ?_
    obtain ⟨rfl, rfl⟩ := h0
    obtain ⟨p, dx, gs, rfl, hp, rf⟩ := hob.rep ok0 r0
    refine ⟨p, dx, gs, rfl, hp, rf.none hl, ?_⟩
    refine h Hi0 H0 σ ok0 (en.mono s0) _ fun ds M1 vs Hi1 H1 h1 s1 ok1 r1 => ?_
    refine h1 Hi1 H1 σ ok1 (en.mono (s0.trans s1)) _ fun zs M2 ws Hi2 H2 h2 s2 ok2 r2 => ?_
    exact ⟨r2.length.symm.trans h2.1, Hi2, M2, _ :: ds, zs, P, .cons (r0.mono (s1.trans s2)) (r1.mono s2), r2, ok2, h2.2, q.up ((s0.trans s1).trans s2)⟩
theorem ae_meth0 {pl : Sem Bool} {fs : List (Str × Val)} (c : Cls X.K C) (hm : Meth X.K C m f) (F : FnX X.prog X.w X.K X.mg X.base n f ks (spX X.K sx)) (hr : Rm n X.A) (ho : aV X o Γ M d) (hob : Ob M C d fs) (hl : fs.lookup m = none)
    (h : aKw X kws Γ M fun zs M2 => zs.length = ks.length ∧ sx [d] zs M2 P)
    (hall : (backToKw pos (keywordEach kws X.env)).all (·.1.isSome) = true := by rfl) (hks : (backToKw pos (keywordEach kws X.env)).filterMap (·.1) = ks := by rfl)
    (hpl : ((backTo pos (starEach [] X.env)).any (·.1) || (backToKw pos (keywordEach kws X.env)).any (·.1.isNone)) = false := by rfl)
    (ht : eval (.Call (.Attribute o m apos) [] kws pos) X.env = (do
      let ov ← eval o X.env
      standAt apos.atName
      let (f, first) ← holding [ov] (getMethod ov m pl)
      callWith pos f first (backTo pos (starEach [] X.env)) (backToKw pos (keywordEach kws X.env))) := by rfl) : aE X (.Call (.Attribute o m apos) [] kws pos) Γ M P := fun Hi H σ ok en Q q => by
  refine ⟨fun σ H Q => WE X o σ H fun x H0 => ∃ a dx fs, x = .ref a ∧ H0 a = some (.ins C dx fs) ∧ fs.lookup m = none ∧ WK X kws σ H0 fun zs H2 => zs.length = ks.length ∧ spX X.K sx [x] zs H2 Q, ⟨fun pins s σ H Q I h => ?_⟩, ?_⟩
  · refine PySem.W.methodCall_KW (pl := pl) (thn (pe_we.run pins s σ H _ I h) fun u s1 ⟨x, H1, I1, rx, a, dx, fs, ex, ea, l, q⟩ => ?_) ht
    subst ex
    obtain rfl : u = Value.ref a := rx
    refine getmeth_ok I1 ea c hm l ?_
    refine PySem.W.callWith_KW0 (first := [.ref a]) (h₀ := X.base) I.ok.mod.kin hm.kp hall ?_ hpl
    refine thn (pk_wk.run pos pins s1 σ H1 _ I1 q) fun ws s3 ⟨zs, H3, I3, rz, l2, q3⟩ => ⟨I3.kIn, ?_⟩
    rw [hks]
    exact run_x (us := [.ref a]) (vs := [.ref a]) F hr I3 (.cons rfl .nil) rz l2 q3
  · refine ho Hi H σ ok en _ fun x M0 v0 Hi0 H0 h0 s0 ok0 r0 => ?_
    obtain ⟨rfl, rfl⟩ := h0
    obtain ⟨p, dx, gs, rfl, hp, rf⟩ := hob.rep ok0 r0
    refine ⟨p, dx, gs, rfl, hp, rf.none hl, ?_⟩
    refine h Hi0 H0 σ ok0 (en.mono s0) _ fun zs M2 ws Hi2 H2 h2 s2 ok2 r2 => ?_
    exact ⟨r2.length.symm.trans h2.1, Hi2, M2, [_], zs, P, .cons (r0.mono s2) .nil, r2, ok2, h2.2, q.up (s0.trans s2)⟩
/-- C(e, .., k = v, ..) -/
theorem run_mk {pins : List (Addr × Obj)} {σ : L2.St} {H : Hp} {s : Shared} {Q : VK} {us ws : List Value} {vs zs : List V} {sp : List V → List V → Hp → VK → Prop} (Mk_ : Mk X.K C f) (F : FnX X.prog X.w X.K X.mg X.base n f ks sp) (hr : Rm (n + 1) X.A)
    (I : Inv X pins σ H s) (r : Vals vs us) (rz : Vals zs ws) (l2 : zs.length = ks.length)
    (h : ∀ x dx, H x = none → H dx = none → dx ≠ x → sp (.ref x :: vs) zs (upd (upd H dx (.own x)) x (.ins C dx [])) (fun v H2 => v = .non ∧ Q (.ref x) H2)) :
    wpAny (model X.prog X.w) X.A (call (.ref C) us (ks.zip ws)) (EP X pins σ Q) X.xe s := by
  have hq := h (s.heap.objs.size + 1) s.heap.objs.size (I.hok.fresh (Nat.le_succ _)) (I.hok.fresh (Nat.le_refl _)) (Nat.ne_of_lt (Nat.lt_succ_self _))
  have I2 := Inv.made (C := C) I
  have r1 : Vals (V.ref (s.heap.objs.size + 1) :: vs) (Value.ref (s.heap.objs.size + 1) :: us) := .cons rfl r
  refine wpAny_call (make_map (f := f) I.kIn Mk_.makes Mk_.init (beq_iff_eq.mp Mk_.fn) (codeAny_mono (F.run _ X.stack _ _ (Value.ref (s.heap.objs.size + 1) :: us) ws _ zs _ (hr.make C us (ks.zip ws))
    (I2.env0.make C us (ks.zip ws)) r1 rz l2 hq) fun r s' hq' => ?_))
  cases r with
  | error e => exact False.elim hq'
  | ok fl =>
    cases fl with
    | ret u =>
      obtain ⟨v, H', I3, rv, ev, q3⟩ := I2.after hq'
      subst ev
      exact ⟨rv, ⟨V.ref (s.heap.objs.size + 1), H', I3, rfl, q3⟩⟩
    | next => exact False.elim hq'
    | brk => exact False.elim hq'
    | cont => exact False.elim hq'
theorem ae_make (Mk_ : Mk X.K C f) (F : FnX X.prog X.w X.K X.mg X.base n f ks (spX X.K sx)) (hr : Rm (n + 1) X.A) (hm : X.mg x = some (.ref C))
    (h : aA X (e :: es) Γ M fun ds M1 => aKw X kws Γ M1 fun zs M2 => zs.length = ks.length ∧ ∀ p, p ∉ M2.map (·.1) → sx (.ptr p :: ds) zs ((p, .ins C []) :: M2) (fun v M3 => v = .non ∧ P (.ptr p) M3))
    (hg : Gl X x := by rfl) (hall : (backToKw pos (keywordEach kws X.env)).all (·.1.isSome) = true := by rfl) (hks : (backToKw pos (keywordEach kws X.env)).filterMap (·.1) = ks := by rfl) (hdb : (x == ("__debug__" : Str)) = false := by decide)
    (he : starEach (e :: es) X.env = (false, eval e X.env) :: starEach es X.env := by rfl) (hpl : ((backTo pos (starEach (e :: es) X.env)).any (·.1) || (backToKw pos (keywordEach kws X.env)).any (·.1.isNone)) = false := by rfl) : aE X (.Call (.Name x p1) (e :: es) kws pos) Γ M P := fun Hi H σ ok en Q q => by
  refine ⟨fun σ H Q => WA X (e :: es) σ H fun vs H1 => WK X kws σ H1 fun zs H2 => zs.length = ks.length ∧ ∀ x dx, H2 x = none → H2 dx = none → dx ≠ x → spX X.K sx (.ref x :: vs) zs (upd (upd H2 dx (.own x)) x (.ins C dx [])) (fun v H3 => v = .non ∧ Q (.ref x) H3), ⟨fun pins s σ H Q I h => ?_⟩, ?_⟩
  · refine wpAny_Call_Name_kw (ld_glob I hg hm ?_ hdb)
    refine PySem.W.callWith_KW (h₀ := X.base) I.ok.mod.kin Mk_.kp hall (thn (pa_wa.run pos pins s σ H _ I h) fun us s1 ⟨vs, H1, I1, r, q⟩ => ?_) hpl he
    refine thn (pk_wk.run pos pins s1 σ H1 _ I1 q) fun ws s2 ⟨zs, H2, I2, rz, l2, q2⟩ => ⟨I2.kIn, ?_⟩
    rw [hks]
    exact run_mk Mk_ F hr I2 r rz l2 q2
  · refine h Hi H σ ok en _ fun ds M1 vs Hi1 H1 h1 s1 ok1 r1 => ?_
    refine h1 Hi1 H1 σ ok1 (en.mono s1) _ fun zs M2 ws Hi2 H2 h2 s2 ok2 r2 => ?_
    refine ⟨r2.length.symm.trans h2.1, fun x dx hx hdx hne => ?_⟩
    have s3 := same_upd (o := .own x) (ok2.none hdx)
    have ok3 : Ok X.K (upd Hi2 dx (.own x)) M2 (upd H2 dx (.own x)) := ok2.imm hdx
    have hx3 : upd H2 dx (.own x) x = none := by rw [upd_ne hne.symm]; exact hx
    refine ⟨_, (x, .ins C []) :: M2, .ptr x :: ds, zs, _, .cons (.ptr x) (r1.mono (s2.trans s3)), r2.mono s3, ok3.new hx3 ⟨dx, [], rfl, .nil⟩, h2.2 x (ok2.fresh hx), ?_⟩
    rintro d M4 v Hi4 H4 ⟨rfl, hp⟩ s4 ok4 r4
    cases r4
    exact ⟨rfl, q _ _ _ Hi4 H4 hp (((s1.trans s2).trans s3).trans s4) ok4 (.ptr x)⟩
end
end Ab
namespace Ab
open PySem PySem.Spec PyProof.Rows L2
open AutoSeq1 (wpAny_loadPart')
/-! enumerate(tuple) -/
end Ab
namespace Ab
open PySem PySem.Spec PyProof.Rows L2
/-! ### comprehensions -/
theorem wipe_set (n : Nat) (x : Option V) : ∀ (vs : List Nat) (σ : L2.St), wipe (σ.set n x) vs = if n ∈ vs then wipe σ vs else (wipe σ vs).set n x
  | [], σ => by simp [wipe]
  | v :: vs, σ => by
    unfold wipe
    rw [wipe_set n x vs σ]
    by_cases h : n ∈ vs
    · rw [if_pos h, if_pos (List.mem_cons_of_mem _ h)]
    · rw [if_neg h]
      by_cases e : n = v
      · subst e
        rw [if_pos List.mem_cons_self, List.set_set]
      · rw [if_neg (by simp [e, h]), List.set_comm _ _ e]
def wipeG (Γ : Gam) : List Nat → Gam
  | [] => Γ
  | v :: vs => (wipeG Γ vs).set v none
theorem env_none {K : PySem.W.Frag} {H : Hp} {Γ : Gam} {σ : L2.St} (n : Nat) (h : EnvR K H Γ σ) : EnvR K H (Γ.set n none) (σ.set n none) := by
  refine ⟨by rw [List.length_set, List.length_set]; exact h.1, fun j e q => ?_⟩
  by_cases hij : n = j
  · subst hij
    by_cases hl : n < Γ.length
    · rw [List.getElem?_set_self hl] at q
      cases q
    · rw [List.getElem?_eq_none_iff.mpr (by rw [List.length_set]; omega)] at q
      cases q
  · rw [List.getElem?_set_ne hij] at q
    obtain ⟨w, h1, h2⟩ := h.2 j e q
    exact ⟨w, by rw [List.getElem?_set_ne hij]; exact h1, h2⟩
theorem env_wipe {K : PySem.W.Frag} {H : Hp} {Γ : Gam} {σ : L2.St} (h : EnvR K H Γ σ) : ∀ vs : List Nat, EnvR K H (wipeG Γ vs) (wipe σ vs)
  | [] => h
  | v :: vs => env_none v (env_wipe h vs)
section
variable {X : Cx} {Γ : Gam} {M : Mem} {P : Val → Mem → Prop} {e a b c o : Expr} {es : List Expr} {kws : List Keyword} {pos p1 p2 apos kpos : Pos} {k : AK} {d d1 d2 d3 : Val} {i j : Int} {x y m : Str} {n : Nat} {f C : Addr}
/-- a target within a comprehension: slots of vs alone -/
def aGw (X : Cx) (vs : List Nat) (tg : Expr) (d : Val) (Γ : Gam) (M : Mem) (R : Gam → Mem → Prop) : Prop := ∀ Hi H σ v, Ok X.K Hi M H → EnvR X.K Hi Γ σ → Rep X.K Hi d v → ∀ Q : L2.St → Hp → Prop, (∀ Γ' M' σ' Hi' H', R Γ' M' → Same Hi Hi' → Ok X.K Hi' M' H' → EnvR X.K Hi' Γ' σ' → wipe σ' vs = wipe σ vs → Q σ' H') → WG X tg v σ H Q
theorem agw_name {vs : List Nat} {R : Gam → Mem → Prop} (n : Nat) (hN : X.N.Nodup) (h : R (Γ.set n (some d)) M) (hn : n ∈ vs := by decide) (hi : X.N[n]? = some x := by rfl) (hx : Loc X.env.scope x := by first | exact Or.inl rfl | exact Or.inr rfl) (hf : X.fn x = true ∨ X.env.scope.names.lookup x = some .local := by first | exact .inl rfl | exact .inr rfl | assumption) :
    aGw X vs (.Name x pos) d Γ M R := fun Hi H σ v ok en r Q q => ⟨_, pg_name hN hi hx hf, q _ _ _ Hi H h (Same.refl _) ok (en.set r) (by rw [wipe_set, if_pos hn])⟩
def aGws (X : Cx) (vs : List Nat) (tgs : List Expr) (ds : List Val) (Γ : Gam) (M : Mem) (R : Gam → Mem → Prop) : Prop := ∀ Hi H σ ws, Ok X.K Hi M H → EnvR X.K Hi Γ σ → RepA X.K Hi ds ws → ∀ Q : L2.St → Hp → Prop, (∀ Γ' M' σ' Hi' H', R Γ' M' → Same Hi Hi' → Ok X.K Hi' M' H' → EnvR X.K Hi' Γ' σ' → wipe σ' vs = wipe σ vs → Q σ' H') → ∃ t, PGs X tgs t ∧ t ws σ H Q
theorem agws_nil {vs : List Nat} {R : Gam → Mem → Prop} (h : R Γ M) : aGws X vs [] [] Γ M R := fun Hi H σ ws ok en r Q q => by
  cases r
  exact ⟨_, pgs_nil, rfl, q _ _ _ Hi H h (Same.refl _) ok en rfl⟩
theorem agws_cons {vs : List Nat} {R : Gam → Mem → Prop} {ds : List Val} (h : aGw X vs e d Γ M fun Γ' M' => aGws X vs es ds Γ' M' R) (hs : (assignEach (e :: es) X.env).map (·.2) = assign e X.env :: (assignEach es X.env).map (·.2) := by rfl) : aGws X vs (e :: es) (d :: ds) Γ M R := fun Hi H σ ws ok en r Q q => by
  cases r with
  | cons r1 r2 =>
    refine ⟨_, pgs_cons pg_wg pgs_wgs hs, _, _, rfl, ?_⟩
    refine h Hi H σ _ ok en r1 _ fun Γ' M' σ' Hi' H' h1 s1 ok1 en1 w1 => ?_
    exact h1 Hi' H' σ' _ ok1 en1 (r2.mono s1) Q fun Γ2 M2 σ2 Hi2 H2 h2 s2 ok2 en2 w2 => q _ _ _ Hi2 H2 h2 (s1.trans s2) ok2 en2 (w2.trans w1)
theorem agw_tup {vs : List Nat} {kk : Nat} {R : Gam → Mem → Prop} {ds : List Val} (hc : X.calm = true) (h : aGws X vs es ds Γ M R) (hl : (assignEach es X.env).length = ds.length := by rfl) (hst : (assignEach es X.env).findIdx? (·.1) = none := by rfl) : aGw X vs (.Tuple es kk pos) (.tup ds) Γ M R := fun Hi H σ v ok en r Q q => by
  cases r with
  | tup hq ra => exact ⟨_, pg_tup hc pgs_wgs rfl hst, _, _, rfl, sameT ok.im hq, ra.length.symm.trans hl.symm, h Hi H σ _ ok en ra Q q⟩
def aTs (X : Cx) (ifs : List Expr) (Γ : Gam) (M : Mem) (P : Bool → Mem → Prop) : Prop := ∀ Hi H σ, Ok X.K Hi M H → EnvR X.K Hi Γ σ → ∀ Q, PostT X.K Hi P Q → ∃ t, PTs X ifs t ∧ t σ H Q
def WTs (X : Cx) (ifs : List Expr) : TT := fun σ H Q => ∃ t, PTs X ifs t ∧ t σ H Q
theorem pts_wts {ifs : List Expr} : PTs X ifs (WTs X ifs) := ⟨fun pins s σ H Q I ⟨t, p, h⟩ => p.run pins s σ H Q I h⟩
theorem ats_nil {P : Bool → Mem → Prop} (h : P true M) : aTs X [] Γ M P := fun Hi H σ ok en Q q => ⟨_, pts_nil, q _ _ Hi H h (Same.refl _) ok⟩
theorem ats_one {P : Bool → Mem → Prop} (h : aT X c Γ M P) : aTs X [c] Γ M P := fun Hi H σ ok en Q q => ⟨_, pts_one pt_wt, h Hi H σ ok en Q q⟩
/-- a comprehension's block -/
abbrev bx (X : Cx) (scope : Scope) (s : Shared) (H : Hp) (C : Addr) (cl : List (Str × Addr)) (fp : List Addr) : Cx := X.blk s H scope (compEnvC scope cl C X.env) fp
def bE (X : Cx) (scope : Scope) (e : Expr) (Γ : Gam) (M : Mem) (P : Val → Mem → Prop) : Prop := ∀ s H C cl fp, aE (bx X scope s H C cl fp) e Γ M P
def bTs (X : Cx) (scope : Scope) (es : List Expr) (Γ : Gam) (M : Mem) (P : Bool → Mem → Prop) : Prop := ∀ s H C cl fp, aTs (bx X scope s H C cl fp) es Γ M P
def bG (X : Cx) (scope : Scope) (vs : List Nat) (tg : Expr) (d : Val) (Γ : Gam) (M : Mem) (R : Gam → Mem → Prop) : Prop := ∀ s H C cl fp, aGw (bx X scope s H C cl fp) vs tg d Γ M R
theorem lc_read {tg iter elt : Expr} {ifs : List Expr} {scope : Scope} {vs : List Nat} {n : Nat} {it : Nat → Val} {G : Mem → Prop} (J : Nat → List Val → Mem → Prop)
    (hi : aI X tg iter Γ M n it G (J 0 [])) (hG : ∀ i acc M, i ≤ n → J i acc M → G M) (hGd : ∀ c M, G M → G (c :: M))
    (hs : ∀ i acc M D, i < n → acc.length ≤ i → J i acc M → bG X scope vs tg (it i) (wipeG Γ vs) ((D, .lst acc) :: M) fun Γ2 M2 => bTs X scope ifs Γ2 M2 fun b M3 =>
      (b = true → bE X scope elt Γ2 M3 fun y M4 => ∃ M5, M4 = (D, .lst acc) :: M5 ∧ J (i + 1) (acc ++ [y]) M5) ∧ (b = false → ∃ M5, M3 = (D, .lst acc) :: M5 ∧ J (i + 1) acc M5))
    (hn : n ≤ 100000) (hd : ∀ D acc M, J n acc M → P (.ptr D) ((D, .lst acc) :: M)) {Hi H : Hp} {σ : L2.St} (ok : Ok X.K Hi M H) (en : EnvR X.K Hi Γ σ) {Q : VK} (q : Post X.K Hi P Q) :
    tLc (WI X tg iter) (fun v σ H Q => ∀ s H' C cl fp, WG (bx X scope s H' C cl fp) tg v σ H Q) (fun σ H Q => ∀ s H' C cl fp, WTs (bx X scope s H' C cl fp) ifs σ H Q) (fun σ H Q => ∀ s H' C cl fp, WE (bx X scope s H' C cl fp) elt σ H Q) vs σ H Q := by
  refine hi Hi H σ ok en _ fun J' M1 Hi1 H1 h1 s1 ok1 w => ?_
  intro D hD
  refine lc_it (g := fun v σ H Q => ∀ s H' C cl fp, WG (bx X scope s H' C cl fp) tg v σ H Q) (tt := fun σ H Q => ∀ s H' C cl fp, WTs (bx X scope s H' C cl fp) ifs σ H Q) (te := fun σ H Q => ∀ s H' C cl fp, WE (bx X scope s H' C cl fp) elt σ H Q) (vs := vs) (σ := σ) (Qd := fun H => Q (V.ref D) H)
    w (fun i H' => ∃ acc M' Hi', J i acc M' ∧ acc.length ≤ i ∧ Same Hi1 Hi' ∧ Ok X.K Hi' ((D, .lst acc) :: M') H') ⟨[], M1, Hi1, h1, Nat.le_refl _, Same.refl _, ok1.new hD ⟨[], rfl, .nil⟩⟩ ?_ ?_ ?_
  · rintro i H' hi ⟨acc, M', Hi', h2, _, s2, ok2⟩
    exact ⟨Hi', M', s2, ok2.tail, hG i acc M' hi h2⟩
  · rintro i v H' H'' hi ⟨acc, M', Hi', h2, hl, s2, ok2⟩ hy
    obtain ⟨Hi3, s3, ok3, r3⟩ := hy Hi' ((D, .lst acc) :: M') s2 ok2 (hGd _ _ (hG i acc M' (Nat.le_of_lt hi) h2))
    intro s0 H0 C0 cl0 fp0
    have s13 := s2.trans s3
    refine hs i acc M' D hi hl h2 s0 H0 C0 cl0 fp0 Hi3 H'' (wipe σ vs) v ok3 (env_wipe (en.mono (s1.trans s13)) vs) r3 _ fun Γ4 M4 σ4 Hi4 H4 h4 s4 ok4 en4 w4 => ⟨?_, ?_⟩
    · rw [w4]
      clear w4 en4
      have idem : ∀ (us : List Nat) (τ : L2.St), wipe (wipe τ us) us = wipe τ us := by
        intro us
        induction us with
        | nil => intro τ; rfl
        | cons u us ih =>
          intro τ
          show (wipe ((wipe τ us).set u none) us).set u none = (wipe τ us).set u none
          rw [wipe_set]
          by_cases hu : u ∈ us
          · rw [if_pos hu, ih]
          · rw [if_neg hu, ih, List.set_set]
      exact idem vs σ
    · intro s5 H5 C5 cl5 fp5
      refine h4 s5 H5 C5 cl5 fp5 Hi4 H4 σ4 ok4 en4 _ fun b M6 Hi6 H6 h6 s6 ok6 => ?_
      cases b with
      | true =>
        refine iteT fun s7 H7 C7 cl7 fp7 => ?_
        refine h6.1 rfl s7 H7 C7 cl7 fp7 Hi6 H6 σ4 ok6 (en4.mono s6) _ fun y M8 v8 Hi8 H8 h8 s8 ok8 r8 => ?_
        obtain ⟨M9, rfl, h9⟩ := h8
        obtain ⟨_, o, ho, xs, rfl, ra⟩ := ok8.ce D _ List.mem_cons_self
        refine ⟨xs, ho, ?_, ?_⟩
        · rw [← ra.length]
          exact Nat.lt_of_lt_of_le (Nat.lt_of_le_of_lt hl (Nat.lt_of_lt_of_le hi hn)) (by decide)
        · exact ⟨acc ++ [y], M9, Hi8, h9, by rw [List.length_append]; exact Nat.succ_le_succ hl, ((s13.trans s4).trans s6).trans s8, ok8.set (i := 0) rfl ⟨_, rfl, ra.append (.cons r8 .nil)⟩⟩
      | false =>
        obtain ⟨M9, rfl, h9⟩ := h6.2 rfl
        exact iteF ⟨acc, M9, Hi6, h9, Nat.le_succ_of_le hl, (s13.trans s4).trans s6, ok6⟩
  · rintro H' ⟨acc, M', Hi', h2, hl, s2, ok2⟩
    exact q _ _ _ Hi' H' (hd D acc M' h2) (s1.trans s2) ok2 (.ptr D)
/-- [elt for tg in iter if ..]: a new cell -/
theorem ae_lcC {tg iter elt : Expr} {ifs : List Expr} {scope : Scope} (own : List (Str × Nat)) {n : Nat} {it : Nat → Val} {G : Mem → Prop} (J : Nat → List Val → Mem → Prop) (hc : X.calm = true) (hN : X.N.Nodup) (ok : BlkOk X.N X.env.scope scope own)
    (hi : aI X tg iter Γ M n it G (J 0 [])) (hG : ∀ i acc M, i ≤ n → J i acc M → G M) (hGd : ∀ c M, G M → G (c :: M))
    (hs : ∀ i acc M D, i < n → acc.length ≤ i → J i acc M → bG X scope (own.map (·.2)) tg (it i) (wipeG Γ (own.map (·.2))) ((D, .lst acc) :: M) fun Γ2 M2 => bTs X scope ifs Γ2 M2 fun b M3 =>
      (b = true → bE X scope elt Γ2 M3 fun y M4 => ∃ M5, M4 = (D, .lst acc) :: M5 ∧ J (i + 1) (acc ++ [y]) M5) ∧ (b = false → ∃ M5, M3 = (D, .lst acc) :: M5 ∧ J (i + 1) acc M5))
    (hn : n ≤ 100000) (hd : ∀ D acc M, J n acc M → P (.ptr D) ((D, .lst acc) :: M)) (hf : ∀ x, foldedSetIterable iter X.env x = pure x := by intro _; rfl) :
    aE X (.ListComp elt [⟨tg, iter, ifs, 0⟩] scope pos) Γ M P := fun Hi H σ ok' en Q q =>
  ⟨_, pe_lc hc hN pi_wi ok (fun s H C cl fp => ⟨fun pins s' σ H v u Q I r h => pg_wg.run pins s' σ H v u Q I r (h _ _ _ _ _)⟩) (fun s H C cl fp => ⟨fun pins s' σ H Q I h => pts_wts.run pins s' σ H Q I (h _ _ _ _ _)⟩) (fun s H C cl fp => ⟨fun pins s' σ H Q I h => pe_we.run pins s' σ H Q I (h _ _ _ _ _)⟩) hf,
    lc_read J hi hG hGd hs hn hd ok' en q⟩
end
end Ab
namespace Ab
open PySem PySem.Spec PyProof.Rows L2
section
variable {X : Cx} {Γ : Gam} {M : Mem} {P : Val → Mem → Prop} {e a b c o : Expr} {es : List Expr} {kws : List Keyword} {pos p1 p2 apos kpos : Pos} {k : AK} {d d1 d2 d3 : Val} {i j : Int} {x y m : Str} {n : Nat} {f C : Addr}
/-! ### a class's own things -/
/-- C.NAME -/
theorem ae_const {mc : Value} {fl : Str} {u : Value} {v : V} (hr : ClX.CRead X.K C mc) (hv : ClX.CVal X.K C mc fl v u) (ho : aV X o Γ M (.ptr C)) (rep : ∀ H, Rep X.K H d v) (h : P d M) (hb : attributeBase o fl X.env (eval o X.env) = eval o X.env := by rfl) : aE X (.Attribute o fl pos) Γ M P := fun Hi H σ ok en Q q => by
  refine ⟨_, ClX.pe_cval pe_we hb, ?_⟩
  refine ho Hi H σ ok en _ fun x M1 v1 Hi1 H1 h1 s1 ok1 r1 => ?_
  obtain ⟨rfl, rfl⟩ := h1
  cases r1
  exact ⟨C, mc, v, u, rfl, hr, hv, q _ _ _ Hi1 H1 h s1 ok1 (rep _)⟩
/-- o.f, f a property -/
theorem ae_prop {fl : Str} {p g : Addr} {fs : List (Str × Val)} {sx : ASx} (c : Cls X.K C) (hp : PropOf X.K C fl p g) (F : FnX X.prog X.w X.K X.mg X.base n g [] (spX X.K sx)) (hr : Rm (n + 1) X.A) (ho : aV X o Γ M d) (hob : Ob M C d fs) (h : sx [d] [] M P)
    (hb : attributeBase o fl X.env (eval o X.env) = eval o X.env := by rfl) : aE X (.Attribute o fl pos) Γ M P := fun Hi H σ ok en Q q => by
  refine ⟨fun σ H Q => WE X o σ H fun x H1 => ∃ a dx fs, x = .ref a ∧ H1 a = some (.ins C dx fs) ∧ spX X.K sx [.ref a] [] H1 Q, ⟨fun pins s σ H Q I h => ?_⟩, ?_⟩
  · refine attr_of hb (thn (pe_we.run pins s σ H _ I h) fun u s1 ⟨x, H1, I1, rx, a, dx, fs, ex, ea, q⟩ => ?_)
    subst ex
    obtain rfl : u = Value.ref a := rx
    obtain ⟨mA, O, _, _, _, _⟩ := ins_get I1.hok ea
    obtain ⟨od, J, _⟩ := O.look
    obtain ⟨rest, hrec⟩ := hp.rec_
    have I2 := I1.tok (s1.toks + 1)
    have hc : (PySem.W.clsIn X.K C).isSome = true := by
      obtain ⟨cd, hc, _⟩ := PySem.W.any_some c.hd
      rw [hc]
      rfl
    refine PySem.W.get_bind I1.kIn J (PySem.W.plainGet_of (c.get fl)).1 (PySem.W.findObj_data hc hp.at_ hp.get hp.tak) (PySem.W.plainGet_of (c.get fl)).2 (wpAny_call (PySem.W.prop_get (s := { s1 with toks := s1.toks + 1 }) I1.kIn hrec ?_))
    refine codeAny_mono (F.run X.A.in1 X.stack { s1 with toks := s1.toks + 1 } H1 [.ref a] [] [.ref a] [] Q hr.in1 I2.env0.in1 (.cons rfl .nil) .nil rfl q) fun r s' hq => ?_
    cases r with
    | error er => exact False.elim hq
    | ok fl =>
      cases fl with
      | ret u =>
        obtain ⟨v, H', I3, rv, q3⟩ := I2.after hq
        show wpAny _ _ (handedOut u) _ _ _
        rw [PySem.W.handedOut_of (handed_of rv)]
        exact wpAny_pure ⟨v, H', I3, rv, q3⟩
      | next => exact False.elim hq
      | brk => exact False.elim hq
      | cont => exact False.elim hq
  · refine ho Hi H σ ok en _ fun x M0 v0 Hi0 H0 h0 s0 ok0 r0 => ?_
    obtain ⟨rfl, rfl⟩ := h0
    obtain ⟨p, dx, gs, rfl, hp, rf⟩ := hob.rep ok0 r0
    exact ⟨p, dx, gs, rfl, hp, Hi0, _, [_], [], P, .cons r0 .nil, .nil, ok0, h, q.up s0⟩
/-- C.m is a staticmethod: its record at p, its def at g -/
structure SMet (K : PySem.W.Frag) (C : Addr) (mc : Value) (m : Str) (p g : Addr) : Prop where
  at_ : PySem.W.findCls K (.ref C) mc m = some (.get (.builtin "staticmethod.__get__") (.ref p) .none (.ref C))
  rc : ∃ rest, PySem.W.recIn K p "staticmethod" = some (.ref g :: rest)
  kp : PySem.W.keepIn K (.ref g) = true
theorem ae_smeth {mc : Value} {p g : Addr} {pl : Sem Bool} {ks : List Str} {sx : ASx} (r : ClX.CRead X.K C mc) (sm : SMet X.K C mc m p g) (F : FnX X.prog X.w X.K X.mg X.base n g ks (spX X.K sx)) (hr : Rm n X.A) (ho : aV X o Γ M (.ptr C))
    (h : aA X (e :: es) Γ M fun ds M1 => aKw X kws Γ M1 fun zs M2 => zs.length = ks.length ∧ sx ds zs M2 P)
    (hall : (backToKw pos (keywordEach kws X.env)).all (·.1.isSome) = true := by rfl) (hks : (backToKw pos (keywordEach kws X.env)).filterMap (·.1) = ks := by rfl)
    (he : starEach (e :: es) X.env = (false, eval e X.env) :: starEach es X.env := by rfl) (hpl : ((backTo pos (starEach (e :: es) X.env)).any (·.1) || (backToKw pos (keywordEach kws X.env)).any (·.1.isNone)) = false := by rfl)
    (ht : eval (.Call (.Attribute o m apos) (e :: es) kws pos) X.env = (do
      let ov ← eval o X.env
      standAt apos.atName
      let (f, first) ← holding [ov] (getMethod ov m pl)
      callWith pos f first (backTo pos (starEach (e :: es) X.env)) (backToKw pos (keywordEach kws X.env))) := by rfl) : aE X (.Call (.Attribute o m apos) (e :: es) kws pos) Γ M P := fun Hi H σ ok en Q q => by
  refine ⟨fun σ H Q => WE X o σ H fun x H0 => x = .ref C ∧ WA X (e :: es) σ H0 fun vs H1 => WK X kws σ H1 fun zs H2 => zs.length = ks.length ∧ spX X.K sx vs zs H2 Q, ⟨fun pins s σ H Q I h => ?_⟩, ?_⟩
  · refine PySem.W.methodCall_KW (pl := pl) (thn (pe_we.run pins s σ H _ I h) fun u s1 ⟨x, H1, I1, rx, ex, q⟩ => ?_) ht
    subst ex
    obtain rfl : u = Value.ref C := rx
    obtain ⟨rest, hp⟩ := sm.rc
    refine PySem.W.method_cls I1.kIn r.ga (PySem.W.cls_bind I1.kIn r.rd sm.at_ (wpAny_call (PySem.W.sm_get (s := { s1 with toks := s1.toks + 1 }) I1.kIn hp (PySem.W.handed_on rfl ?_))))
    have I2 := I1.tok (s1.toks + 1)
    refine PySem.W.callWith_KW (first := []) (h₀ := X.base) I.ok.mod.kin sm.kp hall (thn (pa_wa.run pos pins _ σ H1 _ I2 q) fun us s2 ⟨vs, H2, I3, r, q2⟩ => ?_) hpl he
    refine thn (pk_wk.run pos pins s2 σ H2 _ I3 q2) fun ws s3 ⟨zs, H3, I4, rz, l2, q3⟩ => ⟨I4.kIn, ?_⟩
    rw [hks]
    exact run_x F hr I4 r rz l2 q3
  · refine ho Hi H σ ok en _ fun x M0 v0 Hi0 H0 h0 s0 ok0 r0 => ?_
    obtain ⟨rfl, rfl⟩ := h0
    cases r0
    refine ⟨rfl, ?_⟩
    refine h Hi0 H0 σ ok0 (en.mono s0) _ fun ds M1 vs Hi1 H1 h1 s1 ok1 r1 => ?_
    refine h1 Hi1 H1 σ ok1 (en.mono (s0.trans s1)) _ fun zs M2 ws Hi2 H2 h2 s2 ok2 r2 => ?_
    exact ⟨r2.length.symm.trans h2.1, Hi2, M2, ds, zs, P, r1.mono s2, r2, ok2, h2.2, q.up ((s0.trans s1).trans s2)⟩
/-! ### isinstance -/
/-- a value's type -/
inductive TyV (K : PySem.W.Frag) (M : Mem) : Val → Value → Prop
  | non : TyV K M .non (.type "NoneType")
  | bl (b : Bool) : TyV K M (.bl b) (.type "bool")
  | int (i : Int) : TyV K M (.int i) (.type "int")
  | str (x : Str) : TyV K M (.str x) (.type "str")
  | tup (xs : List Val) : TyV K M (.tup xs) (.type "tuple")
  | lst {d : Val} {xs : List Val} : Vw M d (.lst xs) → TyV K M d (.type "list")
  | ob {C : Addr} {d : Val} {fs : List (Str × Val)} : Ob M C d fs → Cls K C → PySem.W.findIn K (.ref C) "__class__" = some (some (.builtin "object.__class__")) → PySem.W.specialIn K (.builtin "object.__class__") "__get__" = some (some (.builtin "getset_descriptor.__get__")) →
      PySem.W.takesIn K (.builtin "object.__class__") = some true → PySem.W.mroIn K C (.type "object") = some true → TyV K M d (.ref C)
theorem tyx_l {K : PySem.W.Frag} {H : Hp} {p : Addr} {xs : List V} (h : SqL K H p xs) : TyX K H (.ref p) (.type "list") := by
  rcases h with (h | ⟨o, h⟩) | h
  · exact .base (.lst h)
  · exact .base (.frz h)
  · obtain ⟨its, _, o, e, c, _⟩ := h
    exact .kList e c
theorem tyx_t {K : PySem.W.Frag} {H : Hp} {p : Addr} {xs : List V} (h : SqT K H p xs) : TyX K H (.ref p) (.type "tuple") := by
  rcases h with (h | ⟨o, h⟩) | h
  · exact .base (.tup h)
  · exact .fTuple h
  · obtain ⟨its, _, o, e, c, _⟩ := h
    exact .kTuple e c
theorem TyV.tyx {K : PySem.W.Frag} {Hi H : Hp} {t : Value} {v : V} (h : TyV K M d t) (ok : Ok K Hi M H) (r : Rep K Hi d v) : TyX K H v t := by
  cases h with
  | non => cases r; exact .base .non
  | bl b => cases r; exact .base (.bl b)
  | int b => cases r; exact .base (.int b)
  | str b => cases r; exact .base (.str b)
  | tup xs => cases r with
    | tup hq ra => exact tyx_t (sameT ok.im hq)
  | lst hv =>
    obtain ⟨p, ys, rfl, hq, _⟩ := hv.repL ok r
    exact tyx_l hq
  | ob ho c h1 h2 h3 h4 =>
    obtain ⟨p, dx, gs, rfl, hq, _⟩ := ho.rep ok r
    exact .base (.ins hq c h1 h2 h3 h4)
/-- a class as a value -/
inductive ClV : Val → Value → Prop
  | ty (n : String) : ClV (.ty n) (.type n)
  | own (C : Addr) : ClV (.ptr C) (.ref C)
theorem ae_isi {t u : Value} {bb : Bool} (hm : X.mg "isinstance" = none) (ha : aV X a Γ M d1) (hb : aV X b Γ M d2) (hc : ClV d2 u) (ht : TyV X.K M d1 t) (hk : PySem.W.kitOne X.K t u = some bb) (h : P (.bl bb) M) (hg : Gl X "isinstance" := by rfl)
    (hs : starEach [a, b] X.env = (false, eval a X.env) :: starEach [b] X.env := by rfl) (hs2 : starEach [b] X.env = (false, eval b X.env) :: starEach [] X.env := by rfl) (hpl : (backTo pos (starEach [b] X.env)).any (·.1) = false := by rfl) : aE X (.Call (.Name "isinstance" p1) [a, b] [] pos) Γ M P :=
  ae_callB call_isi hm (by decide +kernel) (aa_cons (ha.val (aa_cons (hb.val (aa_nil fun Hi H vs ok r Q q => by
    cases r with
    | cons r1 r2 =>
      cases r2 with
      | cons r2 r3 =>
        cases r3
        refine ⟨_, _, t, u, bb, rfl, ?_, ht.tyx ok r1, hk, q _ _ _ Hi H h (Same.refl _) ok (.bl _)⟩
        cases hc with
        | ty n => cases r2; exact .ty n
        | own C => cases r2; exact .own C)) hs2)) hs) hg (he := hs) (hpl := hpl)
/-- a built-in class by its name -/
theorem av_ty {T : String} (hm : X.mg x = none) (hv : bootBuiltins x = some (.type T)) (hg : Gl X x := by rfl) (hn : x ≠ "__name__" := by decide) (hd : (x == ("__debug__" : Str)) = false := by decide) : aV X (.Name x pos) Γ M (.ty T) :=
  ae_c (v := .ty T) (pe_bltn hg hm hv rfl hn hd) (fun _ _ => .ty T) ⟨rfl, rfl⟩
/-! ### all, sum, sorted, min, max -/
theorem ae_all (hm : X.mg "all" = none) (hc : X.calm = true) (ha : aE X a Γ M fun d M' => ∃ bs : List Bool, Vw M' d (.lst (bs.map .bl)) ∧ P (.bl (bs.all id)) M') (hg : Gl X "all" := by rfl) (hst : starEach [a] X.env = [(false, eval a X.env)] := by rfl) : aE X (.Call (.Name "all" p1) [a] [] pos) Γ M P :=
  ae_callB (cr_all hc) hm (by decide +kernel) (aa_cons (ha.mono fun d M' ⟨bs, hv, h⟩ => aa_nil fun Hi H vs ok r Q q => by
    cases r with
    | cons r1 r2 =>
      cases r2
      obtain ⟨p, ys, rfl, hq, ra⟩ := hv.repL ok r1
      rw [ra.bls] at hq
      exact ⟨p, bs, rfl, hq, q _ _ _ Hi H h (Same.refl _) ok (.bl _)⟩) hst) hg (he := hst) (hpl := rfl)
theorem ae_sum (hm : X.mg "sum" = none) (hc : X.calm = true) (ha : aE X a Γ M fun d M' => ∃ ns : List Int, Vw M' d (.lst (ns.map .int)) ∧ P (.int ns.sum) M') (hg : Gl X "sum" := by rfl) (hst : starEach [a] X.env = [(false, eval a X.env)] := by rfl) : aE X (.Call (.Name "sum" p1) [a] [] pos) Γ M P :=
  ae_callB (cr_sum hc) hm (by decide +kernel) (aa_cons (ha.mono fun d M' ⟨bs, hv, h⟩ => aa_nil fun Hi H vs ok r Q q => by
    cases r with
    | cons r1 r2 =>
      cases r2
      obtain ⟨p, ys, rfl, hq, ra⟩ := hv.repL ok r1
      rw [ra.ints] at hq
      exact ⟨p, bs, rfl, hq, q _ _ _ Hi H h (Same.refl _) ok (.int _)⟩) hst) hg (he := hst) (hpl := rfl)
theorem ae_min2 (hm : X.mg "min" = none) (hc : X.calm = true) (ha : aV X a Γ M (.int i)) (hb : aV X b Γ M (.int j)) (h : P (.int (if j < i then j else i)) M) (hg : Gl X "min" := by rfl)
    (hs : starEach [a, b] X.env = (false, eval a X.env) :: starEach [b] X.env := by rfl) (hs2 : starEach [b] X.env = (false, eval b X.env) :: starEach [] X.env := by rfl) (hpl : (backTo pos (starEach [b] X.env)).any (·.1) = false := by rfl) : aE X (.Call (.Name "min" p1) [a, b] [] pos) Γ M P :=
  ae_callB (call_min2 hc) hm (by decide +kernel) (aa_cons (ha.val (aa_cons (hb.val (aa_nil fun Hi H vs ok r Q q => by
    cases r with
    | cons r1 r2 =>
      cases r2 with
      | cons r2 r3 =>
        cases r3
        cases r1
        cases r2
        exact ⟨i, j, rfl, q _ _ _ Hi H h (Same.refl _) ok (.int _)⟩)) hs2)) hs) hg (he := hs) (hpl := hpl)
theorem ae_max2 (hm : X.mg "max" = none) (hc : X.calm = true) (ha : aV X a Γ M (.int i)) (hb : aV X b Γ M (.int j)) (h : P (.int (if j > i then j else i)) M) (hg : Gl X "max" := by rfl)
    (hs : starEach [a, b] X.env = (false, eval a X.env) :: starEach [b] X.env := by rfl) (hs2 : starEach [b] X.env = (false, eval b X.env) :: starEach [] X.env := by rfl) (hpl : (backTo pos (starEach [b] X.env)).any (·.1) = false := by rfl) : aE X (.Call (.Name "max" p1) [a, b] [] pos) Γ M P :=
  ae_callB (call_max2 hc) hm (by decide +kernel) (aa_cons (ha.val (aa_cons (hb.val (aa_nil fun Hi H vs ok r Q q => by
    cases r with
    | cons r1 r2 =>
      cases r2 with
      | cons r2 r3 =>
        cases r3
        cases r1
        cases r2
        exact ⟨i, j, rfl, q _ _ _ Hi H h (Same.refl _) ok (.int _)⟩)) hs2)) hs) hg (he := hs) (hpl := hpl)
/-! ### + and * of lists and tuples -/
def rCatL (K : PySem.W.Frag) : R2 := fun x y H Q => ∃ l b xs zs, x = .ref l ∧ y = .ref b ∧ SqL K H l xs ∧ SqL K H b zs ∧ xs.length + zs.length ≤ sizeLine ∧ ∀ p, H p = none → Q (.ref p) (upd H p (.lst (xs ++ zs)))
theorem op_catL : OpR X (binaryOp .Add) (rCatL X.K) := by
  intro pins s σ H x y v u Q I rx ry h
  obtain ⟨l, b, xs, zs, rfl, rfl, hH, hB, hz, q⟩ := h
  cases rx
  cases ry
  obtain ⟨its, r, pl, z⟩ := I.list hH
  obtain ⟨its2, r2, pl2, z2⟩ := I.list hB
  have l1 := r.length
  have l2 := r2.length
  obtain ⟨⟨cl, dd, da, sl⟩, ho, hc, n, hd⟩ := pl.isList
  obtain ⟨⟨cl2, dd2, da2, sl2⟩, ho2, hc2, n2, hd2⟩ := pl2.isList
  obtain rfl : cl = .type "list" := hc
  obtain rfl : cl2 = .type "list" := hc2
  obtain rfl : da = .seq its.toArray n := hd
  obtain rfl : da2 = .seq its2.toArray n2 := hd2
  refine concat_meets ⟨_, ho, rfl⟩ ⟨_, ho2, rfl⟩ noFill_list_add seq_list_add PySem.F.slot_list_add PySem.F.entry_list_add (PySem.F.args_list_add_2 _ _) (list_addW l b its.toArray its2.toArray n n2 dd dd2 sl sl2 (by rw [List.size_toArray, List.size_toArray]; omega)) ⟨ho, ho2, ?_⟩
  rw [show its.toArray ++ its2.toArray = (its ++ its2).toArray by simp]
  exact ⟨.ref _, _, I.lnew (t' := s.toks) (r.append r2) (by rw [List.length_append]; omega), rfl, q _ I.fresh⟩
theorem rv_catL {xs ys : List Val} (h1 : Vw M d1 (.lst xs)) (h2 : Vw M d2 (.lst ys)) (hl : xs.length + ys.length ≤ sizeLine) (h : ∀ p, P (.ptr p) ((p, .lst (xs ++ ys)) :: M)) : RV X (rCatL X.K) d1 d2 M P := fun Hi H v w ok rv rw_ Q q => by
  obtain ⟨p, us, rfl, hq, ra⟩ := h1.repL ok rv
  obtain ⟨p', ws, rfl, hq', ra'⟩ := h2.repL ok rw_
  exact ⟨p, p', us, ws, rfl, rfl, hq, hq', by rw [← ra.length, ← ra'.length]; exact hl, fun l hl => q _ _ _ _ _ (h l) (Same.refl _) (ok.new hl ⟨_, rfl, ra.append ra'⟩) (.ptr l)⟩
theorem rv_catT {xs ys : List Val} (hl : xs.length + ys.length ≤ sizeLine) (h : P (.tup (xs ++ ys)) M) : RV X (rCatA X.K) (.tup xs) (.tup ys) M P := fun Hi H v w ok rv rw_ Q q => by
  cases rv with
  | @tup p us _ hq ra =>
    cases rw_ with
    | @tup p' ws _ hq' ra' =>
      refine ⟨p, p', us, ws, rfl, rfl, sameT ok.im hq, sameT ok.im hq', by rw [← ra.length, ← ra'.length]; exact hl, fun e => ?_, fun _ e => ?_, fun _ _ l hl => ?_⟩
      · subst e
        cases ra
        exact q _ _ _ Hi H h (Same.refl _) ok (.tup hq' ra')
      · subst e
        cases ra'
        rw [List.append_nil] at h
        exact q _ _ _ Hi H h (Same.refl _) ok (.tup hq ra)
      · have s2 := same_upd (o := .tup (us ++ ws)) (ok.none hl)
        exact q _ _ _ _ _ h s2 (ok.imm hl) (.tup (SqT.of upd_same) ((ra.append ra').mono s2))
end
end Ab
namespace Ab
open PySem PySem.Spec PyProof.Rows L2
section
variable {X : Cx} {Γ : Gam} {M : Mem} {P : Val → Mem → Prop} {e a b c o : Expr} {es : List Expr} {kws : List Keyword} {pos p1 p2 apos kpos : Pos} {k : AK} {d d1 d2 d3 : Val} {i j : Int} {x y m : Str} {n : Nat} {f C : Addr}
/-! ### repr of lists and tuples -/
def rRepr (K : PySem.W.Frag) : List V → Hp → VK → Prop := fun xs H Q => ∃ (p : Addr) (d : PyData), xs = [.ref p] ∧ Dp K H (.ref p) d ∧ d.showable = true ∧ d.hasDict = false ∧ d.depth ≤ 60 ∧ d.shown.length ≤ sizeLine ∧ Q (.str d.shown) H
theorem call_repr {n : Nat} (hr : Rm n X.A) : CallR X (.builtin "repr") (rRepr X.K) := by
  intro pins s σ H xs us Q I r h
  obtain ⟨p, d, rfl, hd, h1, h2, h3, h4, q⟩ := h
  obtain ⟨u, rfl, ru⟩ := vals1 r
  obtain rfl : u = Value.ref p := ru
  obtain ⟨as, rd⟩ := Dp.reads I d (.ref p) (.ref p) hd rfl
  have hu := hr.u64
  exact repr_of_reads' rd h1 (PyData.noDict_hsm h2) hr.gd (by omega) (fun _ _ z => z) (fun h' u tk hk => ⟨.str d.shown, H, I.kept (h' := h') (t' := tk) hk, ⟨_, rfl⟩, q⟩) h4
theorem rep_ref {K : PySem.W.Frag} {H : Hp} {d : Val} {v : V} {p : PyData} (r : Rep K H d v) (h : toD d = some p) (hl : (∃ xs, p = .list xs) ∨ ∃ xs, p = .tuple xs) : ∃ a, v = .ref a := by
  cases r <;> first | exact ⟨_, rfl⟩ | (rcases hl with ⟨_, rfl⟩ | ⟨_, rfl⟩ <;> cases h)
theorem ae_repr {n : Nat} (hr : Rm n X.A) (hm : X.mg "repr" = none) (ha : aE X a Γ M fun d M' => ∃ d' p, Vw M' d d' ∧ toD d' = some p ∧ ((∃ xs, p = .list xs) ∨ ∃ xs, p = .tuple xs) ∧ p.showable = true ∧ p.hasDict = false ∧ p.depth ≤ 60 ∧ p.shown.length ≤ sizeLine ∧ P (.str p.shown) M')
    (hg : Gl X "repr" := by rfl) (hst : starEach [a] X.env = [(false, eval a X.env)] := by rfl) : aE X (.Call (.Name "repr" p1) [a] [] pos) Γ M P :=
  ae_callB (call_repr hr) hm (by decide +kernel) (aa_cons (ha.mono fun d M' ⟨d', p, hv, hd, hl, h1, h2, h3, h4, h⟩ => aa_nil fun Hi H vs ok r Q q => by
    cases r with
    | cons r1 r2 =>
      cases r2
      have rH := hv.rep ok r1
      obtain ⟨l, rfl⟩ := rep_ref rH hd hl
      exact ⟨l, p, rfl, rep_dp _ rH hd, h1, h2, h3, h4, q _ _ _ Hi H h (Same.refl _) ok (.str _)⟩) hst) hg (he := hst) (hpl := rfl)
/-! ### [x] * n -/
theorem rv_repL {xs : List Val} {p : Addr} {jj : Int} {n : Nat} (hm : M[n]? = some (p, .lst xs)) (h1 : 0 ≤ jj) (h2 : jj < 2 ^ 31) (hl : xs.length * jj.toNat ≤ sizeLine) (h : ∀ q, P (.ptr q) ((q, .lst (List.replicate jj.toNat xs).flatten) :: M)) : RV X rRep (.ptr p) (.int jj) M P := fun Hi H v w ok rv rw_ Q q => by
  cases rv
  cases rw_
  obtain ⟨_, o, ho, ys, rfl, ra⟩ := ok.get hm
  refine ⟨p, jj, ys, rfl, rfl, ho, by omega, by omega, by rw [← ra.length]; exact hl, fun l hl => q _ _ _ _ _ (h l) (Same.refl _) (ok.new hl ⟨_, rfl, ?_⟩) (.ptr l)⟩
  have : ∀ m : Nat, RepA X.K Hi (List.replicate m xs).flatten (List.replicate m ys).flatten := by
    intro m
    induction m with
    | zero => exact .nil
    | succ m ih =>
      rw [List.replicate_succ, List.replicate_succ, List.flatten_cons, List.flatten_cons]
      exact ra.append ih
  exact this _
/-! ### dict displays -/
def aPr (X : Cx) (ps : List (Expr × Expr)) (Γ : Gam) (M : Mem) (P : List (Key × Val) → Mem → Prop) : Prop := ∀ Hi H σ, Ok X.K Hi M H → EnvR X.K Hi Γ σ → ∀ Q : List (V × V) → Hp → Prop,
  (∀ kvs M' (ws : List (Key × V)) Hi' H', P kvs M' → Same Hi Hi' → Ok X.K Hi' M' H' → RepK X.K Hi' kvs ws → Q (ws.map fun kv => (kV kv.1, kv.2)) H') → tPairs (ps.map fun p => (WE X p.1, WE X p.2)) σ H Q
theorem ap_nil {P : List (Key × Val) → Mem → Prop} (h : P [] M) : aPr X [] Γ M P := fun Hi H σ ok en Q q => q [] M [] Hi H h (Same.refl _) ok .nil
theorem ap_cons {P : List (Key × Val) → Mem → Prop} {kk : Str} {ps : List (Expr × Expr)} (hk : aV X a Γ M (.str kk)) (hv : aV X e Γ M d) (h : aPr X ps Γ M fun kvs M' => P ((.inr kk, d) :: kvs) M') : aPr X ((a, e) :: ps) Γ M P := fun Hi H σ ok en Q q => by
  refine hk Hi H σ ok en _ fun x M1 v1 Hi1 H1 h1 s1 ok1 r1 => ?_
  obtain ⟨rfl, rfl⟩ := h1
  cases r1
  refine hv Hi1 H1 σ ok1 (en.mono s1) _ fun x M2 v2 Hi2 H2 h2 s2 ok2 r2 => ?_
  obtain ⟨rfl, rfl⟩ := h2
  have s12 := s1.trans s2
  refine h Hi2 H2 σ ok2 (en.mono s12) _ fun kvs M' ws Hi' H' h3 s3 ok3 r3 => ?_
  exact q ((.inr kk, _) :: kvs) M' ((.inr kk, v2) :: ws) Hi' H' h3 (s12.trans s3) ok3 (.cons (r2.mono s3) r3)
def mergeA (kvs more : List (Key × Val)) : List (Key × Val) := more.foldl (fun acc kv => dPut acc kv.1 kv.2) kvs
theorem rep_merge {K : PySem.W.Frag} {H : Hp} : ∀ {more : List (Key × Val)} {ws : List (Key × V)} {kvs : List (Key × Val)} {gs : List (Key × V)}, RepK K H more ws → RepK K H kvs gs → RepK K H (mergeA kvs more) (mergeK gs ws)
  | [], _, _, _, .nil, r => r
  | (kk, dd) :: more, _, _, _, .cons (v := v) (gs := gs) a t, r => by
    show RepK K H (mergeA (dPut _ kk dd) more) (mergeK (putK _ kk v) gs)
    exact rep_merge t (r.put a)
theorem disp_of {ps : List (Expr × Expr)} {keys : List (Option Expr)} {values : List Expr} (hpp : PPs X pos keys values (ps.map fun p => (WE X p.1, WE X p.2))) (hall : keys.all (·.isSome) = true) (hl : keys.length = values.length) (h0 : keys ≠ []) (h15 : keys.length ≤ 15)
    (h : ∀ p, aPr X ps Γ ((p, .dk []) :: M) fun kvs M' => ∃ M2, M' = (p, .dk []) :: M2 ∧ kvs.length ≤ 15 ∧ P (.ptr p) ((p, .dk (mergeA [] kvs)) :: M2)) : aE X (.Dict keys values pos) Γ M P := fun Hi H σ ok en Q q => by
  refine ⟨_, pe_disp hpp hall hl h0 h15, fun p hp => ?_⟩
  refine h p Hi _ σ (ok.new hp ⟨[], rfl, .nil⟩) en _ fun kvs M' ws Hi' H' h1 s1 ok1 r1 => ?_
  obtain ⟨M2, rfl, h15', hP⟩ := h1
  obtain ⟨_, o, ho, gs, rfl, rk⟩ := ok1.ce p _ List.mem_cons_self
  cases rk
  exact ⟨ho, ws, rfl, by rw [← r1.length]; exact h15', q _ _ _ Hi' _ hP s1 (ok1.set (i := 0) rfl ⟨_, rfl, rep_merge r1 .nil⟩) (.ptr p)⟩
theorem ae_dict3 {a1 a2 a3 e1 e2 e3 : Expr} (h : ∀ p, aPr X [(a1, e1), (a2, e2), (a3, e3)] Γ ((p, .dk []) :: M) fun kvs M' => ∃ M2, M' = (p, .dk []) :: M2 ∧ kvs.length ≤ 15 ∧ P (.ptr p) ((p, .dk (mergeA [] kvs)) :: M2)) : aE X (.Dict [some a1, some a2, some a3] [e1, e2, e3] pos) Γ M P :=
  disp_of (pps_cons pe_we pe_we (pps_cons pe_we pe_we (pps_cons pe_we pe_we pps_nil))) rfl rfl (fun z => nomatch z) (Nat.le_of_ble_eq_true rfl) h
/-! ### a, b, c = e1, e2, e3 -/
theorem ps_par3 {n1 n2 n3 : Nat} {x y z : Str} {e1 e2 e3 : Expr} {ta : TA} {px py pz pt : Pos} {kt k2 pt2} (hc : X.calm = true) (hN : X.N.Nodup) (hi : X.N[n1]? = some x) (hj : X.N[n2]? = some y) (hk : X.N[n3]? = some z) (h12 : n1 ≠ n2) (h13 : n1 ≠ n3) (h23 : n2 ≠ n3)
    (hx : X.env.scope.names.lookup x = some .local) (hy : X.env.scope.names.lookup y = some .local) (hz : X.env.scope.names.lookup z = some .local) (ha : PA X [e1, e2, e3] ta)
    (hw : swappedStores [.Tuple [.Name x px, .Name y py, .Name z pz] kt pt] (.Tuple [e1, e2, e3] k2 pt2) X.env = pure (some [x, y, z]))
    (hs : swapsWithSole [.Tuple [.Name x px, .Name y py, .Name z pz] kt pt] (.Tuple [e1, e2, e3] k2 pt2) pos.line X.env = pure false) :
    PS X (.Assign [.Tuple [.Name x px, .Name y py, .Name z pz] kt pt] (.Tuple [e1, e2, e3] k2 pt2) pos) (fun D σ H => ta σ H fun vs H1 => ∃ v1 v2 v3, vs = [v1, v2, v3] ∧ D.nx (((σ.set n1 (some v1)).set n2 (some v2)).set n3 (some v3)) H1) := by
  refine ⟨fun pins s σ H D I h => ?_⟩
  rw [exec_Assign_arm, hs]
  refine wpAny_bind (wpAny_standAt (wpAny_bind (wpAny_pure ?_)))
  rw [if_neg (by decide)]
  refine wpAny_bind (Tuple_ (thn (ha.run _ pins s σ H _ I h) fun us s1 ⟨vs, H1, I1, r1, v1, v2, v3, e1, q1⟩ => ?_))
  subst e1
  obtain ⟨u1, u2, u3, rfl, ru1, ru2, ru3⟩ : ∃ u1 u2 u3, us = [u1, u2, u3] ∧ RelV v1 u1 ∧ RelV v2 u2 ∧ RelV v3 u3 := by
    cases r1 with
    | cons p q =>
      cases q with
      | cons p' q' =>
        cases q' with
        | cons p'' q'' =>
          cases q''
          exact ⟨_, _, _, rfl, p, p', p''⟩
  refine wpAny_newObj_type ?_ (by show 3 ≤ sizeLine; decide)
  have I2 : Inv X pins σ H1 { s1 with heap := s1.heap.push { cls := .type "tuple", data := .seq [u1, u2, u3].toArray } } := I1.kept (t' := s1.toks) fun b o e => Heap.get?_push_of_some _ e
  rw [hw]
  refine wpAny_bind (wpAny_pure ?_)
  show wpAny (model X.prog X.w) X.A (do rule "assign.swapped-stores"; let items ← unpackItems (.ref s1.heap.objs.size) 3 none; assignInOrder [fun v => bindName X.env z v, fun v => bindName X.env y v, fun v => bindName X.env x v] items.reverse; pure Flow.next) _ _ _
  refine wpAny_bind (wpAny_rule (wpAny_bind (unpackItems_tuple (items := #[u1, u2, u3]) (I.ok.hd hc) (IsTup.new s1.heap _) fun h' hx' => ?_)))
  have I3 := I2.kept (h' := h') (t' := s1.toks) fun b o e => hx' b o (Nat.ne_of_lt (Heap.lt_size e)) e
  show wpAny _ _ (assignInOrder [fun v => bindName X.env z v, fun v => bindName X.env y v, fun v => bindName X.env x v] [u3, u2, u1] >>= fun _ => pure Flow.next) _ _ _
  refine wpAny_bind (assignInOrder_cons (wpAny_bindName (store_ok I3 hN hk (.inl hz) ru3 (fun s2 I4 => ?_) (.inr hz))))
  refine assignInOrder_cons (wpAny_bindName (store_ok I4 hN hj (.inl hy) ru2 (fun s3 I5 => ?_) (.inr hy)))
  refine assignInOrder_cons (wpAny_bindName (store_ok I5 hN hi (.inl hx) ru1 (fun s4 I6 => assignInOrder_nil (wpAny_pure ?_)) (.inr hx)))
  have e : ((σ.set n3 (some v3)).set n2 (some v2)).set n1 (some v1) = ((σ.set n1 (some v1)).set n2 (some v2)).set n3 (some v3) := by
    rw [List.set_comm _ _ (Ne.symm h12), List.set_comm _ _ (Ne.symm h13), List.set_comm _ _ (Ne.symm h23)]
  rw [e] at I6
  exact ⟨_, H1, I6, q1⟩
theorem as_par3 {x y z : Str} {e1 e2 e3 : Expr} {px py pz pt : Pos} {kt k2 pt2} (n1 n2 n3 : Nat) (hN : X.N.Nodup) (hc : X.calm = true) (he : aA X [e1, e2, e3] Γ M fun ds M' => ∃ d1 d2 d3, ds = [d1, d2, d3] ∧ k.nx (((Γ.set n1 (some d1)).set n2 (some d2)).set n3 (some d3)) M')
    (h12 : n1 ≠ n2 := by decide) (h13 : n1 ≠ n3 := by decide) (h23 : n2 ≠ n3 := by decide) (hi : X.N[n1]? = some x := by rfl) (hj : X.N[n2]? = some y := by rfl) (hk : X.N[n3]? = some z := by rfl) (hx : X.env.scope.names.lookup x = some .local := by rfl) (hy : X.env.scope.names.lookup y = some .local := by rfl) (hz : X.env.scope.names.lookup z = some .local := by rfl)
    (hw : swappedStores [.Tuple [.Name x px, .Name y py, .Name z pz] kt pt] (.Tuple [e1, e2, e3] k2 pt2) X.env = pure (some [x, y, z]) := by rfl)
    (hs : swapsWithSole [.Tuple [.Name x px, .Name y py, .Name z pz] kt pt] (.Tuple [e1, e2, e3] k2 pt2) pos.line X.env = pure false := by rfl) : aS X (.Assign [.Tuple [.Name x px, .Name y py, .Name z pz] kt pt] (.Tuple [e1, e2, e3] k2 pt2) pos) Γ M k := fun Hi H σ ok en D q => by
  refine ⟨_, ps_par3 hc hN hi hj hk h12 h13 h23 hx hy hz pa_wa hw hs, ?_⟩
  refine he Hi H σ ok en _ fun ds M1 vs Hi1 H1 h1 s1 ok1 r1 => ?_
  obtain ⟨d1, d2, d3, rfl, h2⟩ := h1
  cases r1 with
  | cons r1 r2 =>
    cases r2 with
    | cons r2 r3 =>
      cases r3 with
      | cons r3 r4 =>
        cases r4
        exact ⟨_, _, _, rfl, q.nx _ _ _ Hi1 H1 h2 s1 ok1 ((((en.mono s1).set r1).set r2).set r3)⟩
end
/-! ### a def with a star and keyword-only parameters -/
end Ab
namespace Ab
open PySem PySem.Spec PyProof.Rows L2
/-! the end of a law: its def runs in the claim's own surroundings, where nothing is guarded -/
/-- only the script is known of -/
def hpS (a : Addr) (o : Obj) (xs : List V) : Hp := fun b => if b = a then some (.frz o (.lst xs)) else none
end Ab
namespace Ab
open PySem PySem.Spec PyProof.Rows L2
section
variable {X : Cx} {Γ : Gam} {M : Mem} {P : Val → Mem → Prop} {e a b c o : Expr} {es : List Expr} {pos p1 p2 apos kpos : Pos} {k : AK} {d d1 d2 d3 : Val} {i j : Int} {x y m : Str} {n : Nat} {f C : Addr}
theorem av_neg (h : aV X a Γ M (.int i)) : aV X (.UnaryOp .USub a pos) Γ M (.int (-i)) := fun Hi H σ ok en Q q => by
  refine ⟨_, pe_un un_neg pe_we, ?_⟩
  refine h Hi H σ ok en _ fun x M1 v Hi1 H1 h1 s1 ok1 r1 => ?_
  obtain ⟨rfl, rfl⟩ := h1
  cases r1
  exact ⟨i, rfl, q _ _ _ Hi1 H1 ⟨rfl, rfl⟩ s1 ok1 (.int _)⟩
/-- a comprehension whose items are told by their number, and that changes nothing -/
theorem ae_lcP {tg iter elt : Expr} {scope : Scope} (own : List (Str × Nat)) {n : Nat} {it : Nat → Val} (g : Nat → Val) (hc : X.calm = true) (hN : X.N.Nodup) (ok : BlkOk X.N X.env.scope scope own)
    (hi : aI X tg iter Γ M n it (fun _ => True) (fun M' => M' = M))
    (hs : ∀ i acc D, i < n → bG X scope (own.map (·.2)) tg (it i) (wipeG Γ (own.map (·.2))) ((D, .lst acc) :: M) fun Γ2 M2 => bE X scope elt Γ2 M2 fun y M4 => y = g i ∧ M4 = (D, .lst acc) :: M)
    (hn : n ≤ 100000) (hd : P (.lst ((List.range n).map g)) M) (hf : ∀ x, foldedSetIterable iter X.env x = pure x := by intro _; rfl) :
    aE X (.ListComp elt [⟨tg, iter, [], 0⟩] scope pos) Γ M P := by
  refine ae_frz (ae_lcC (it := it) own (fun i acc M' => M' = M ∧ acc = (List.range i).map g) hc hN ok ?_ (fun _ _ _ _ _ => trivial) (fun _ _ _ => trivial) ?_ hn ?_ hf)
  · intro Hi H σ ok en R q
    exact hi Hi H σ ok en R fun J M1 Hi1 H1 h1 => q J M1 Hi1 H1 ⟨h1, rfl⟩
  · rintro i acc M' D hi' _ ⟨rfl, rfl⟩ s H C cl fp
    intro Hi1 H1 σ1 v1 ok1 en1 r1 Q1 q1
    refine hs i _ D hi' s H C cl fp Hi1 H1 σ1 v1 ok1 en1 r1 Q1 fun Γ2 M2 σ2 Hi2 H2 h2 => q1 Γ2 M2 σ2 Hi2 H2 fun s' H' C' cl' fp' => ats_nil ⟨fun _ s2 H2 C2 cl2 fp2 => (h2 s2 H2 C2 cl2 fp2).mono fun y M4 hy => ?_, fun z => nomatch z⟩
    obtain ⟨rfl, rfl⟩ := hy
    exact ⟨_, rfl, rfl, by rw [List.range_succ, List.map_append]; rfl⟩
  · rintro D acc M' ⟨rfl, rfl⟩
    exact ⟨D, _, _, rfl, rfl, hd⟩
end
end Ab
namespace Ab
open PySem PySem.Spec PyProof.Rows L2
section
variable {X : Cx} {Γ : Gam} {M : Mem} {P : Val → Mem → Prop} {e a b c o : Expr} {es : List Expr} {pos p1 p2 apos kpos : Pos} {k : AK} {d d1 d2 d3 : Val} {i j : Int} {x y m : Str} {n : Nat} {f C : Addr}
/-! ### loops whose turns are known only when what they walk has been reckoned -/
def aJ (X : Cx) (tg iter : Expr) (Γ : Gam) (M : Mem) (P : Nat → (Nat → Val) → Mem → Prop) : Prop := ∀ Hi H σ, Ok X.K Hi M H → EnvR X.K Hi Γ σ → ∀ R : It → Hp → Prop,
  (∀ J n it M1 Hi1 H1, P n it M1 → Same Hi Hi1 → Ok X.K Hi1 M1 H1 →
    Walk J n (fun H' => ∃ Hi' M', Same Hi1 Hi' ∧ Ok X.K Hi' M' H') (fun i H' v H'' => ∀ Hi' M', Same Hi1 Hi' → Ok X.K Hi' M' H' → ∃ Hi'', Same Hi' Hi'' ∧ Ok X.K Hi'' M' H'' ∧ Rep X.K Hi'' (it i) v) → R J H1) → WI X tg iter σ H R
theorem aj_ai {tg iter : Expr} {n : Nat} {it : Nat → Val} {R : Mem → Prop} {P : Nat → (Nat → Val) → Mem → Prop} (h : aI X tg iter Γ M n it (fun _ => True) R) (hp : ∀ M1, R M1 → P n it M1) : aJ X tg iter Γ M P := fun Hi H σ ok en R' q =>
  h Hi H σ ok en R' fun J M1 Hi1 H1 h1 s1 ok1 w => q J n it M1 Hi1 H1 (hp M1 h1) s1 ok1 (w.mono (fun H' ⟨Hi', M', a, b⟩ => ⟨Hi', M', a, b, trivial⟩) fun i H' v H'' _ _ hy Hi' M' a b => hy Hi' M' a b trivial)
theorem aj_lst {tg : Expr} {P : Nat → (Nat → Val) → Mem → Prop} (ha : aE X a Γ M fun d M' => ∃ xs, d = .lst xs ∧ P xs.length (fun i => xs.getD i .non) M') : aJ X tg a Γ M P := fun Hi H σ ok en R' q => by
  refine ⟨_, pi_list pe_we, ?_⟩
  refine ha Hi H σ ok en _ fun d M1 v Hi1 H1 h1 s1 ok1 r1 => ?_
  obtain ⟨xs, rfl, hp⟩ := h1
  cases r1 with
  | @lst p ys _ hq ra =>
    refine ⟨p, rfl, ⟨ys, ok1.im.seq hq⟩, q _ xs.length _ M1 Hi1 H1 hp s1 ok1 ?_⟩
    rw [ra.length]
    refine walk_list.mono (fun H' hG => ?_) fun i H' v H'' hi hG hy Hi' M' s2 ok2 => ?_
    · obtain ⟨Hi', M', s2, ok2⟩ := hG
      exact ok2.im.seq (s2.seq hq)
    · obtain ⟨rfl, hv⟩ := hy
      exact ⟨Hi', Same.refl _, ok2, (Sq.at ra hv).mono s2⟩
theorem aj_range1 {tg : Expr} {P : Nat → (Nat → Val) → Mem → Prop} (hm : X.mg "range" = none) (ha : aE X a Γ M fun d M' => ∃ j : Int, d = .int j ∧ -(2 ^ 62) ≤ j ∧ j < 2 ^ 62 ∧ P j.toNat (fun i => .int (0 + i)) M') (hg : Gl X "range" := by rfl) (hs : starEach [a] X.env = [(false, eval a X.env)] := by rfl) :
    aJ X tg (.Call (.Name "range" p1) [a] [] pos) Γ M P := fun Hi H σ ok en R' q => by
  refine ⟨_, pi_range1 hg hm (pa_cons pe_we pa_nil hs) hs, ?_⟩
  refine ha Hi H σ ok en _ fun d M1 v Hi1 H1 h1 s1 ok1 r1 => ?_
  obtain ⟨j, rfl, hl, hh, hp⟩ := h1
  cases r1
  refine ⟨j, rfl, hl, hh, q _ _ _ M1 Hi1 H1 hp s1 ok1 ?_⟩
  refine walk_range.mono (fun _ _ => trivial) fun i H' v H'' hi hG hy Hi' M' s2 ok2 => ?_
  obtain ⟨rfl, rfl⟩ := hy
  exact ⟨Hi', Same.refl _, ok2, .int _⟩
theorem aj_range2 {tg : Expr} {P : Nat → (Nat → Val) → Mem → Prop} (hm : X.mg "range" = none) (ha : aA X [a, b] Γ M fun ds M' => ∃ lo hi : Int, ds = [.int lo, .int hi] ∧ (-(2 ^ 62) ≤ lo ∧ lo < 2 ^ 62 ∧ -(2 ^ 62) ≤ hi ∧ hi < 2 ^ 62) ∧ P (hi - lo).toNat (fun i => .int (lo + i)) M') (hg : Gl X "range" := by rfl)
    (hs : starEach [a, b] X.env = [(false, eval a X.env), (false, eval b X.env)] := by rfl) (hs2 : starEach [b] X.env = [(false, eval b X.env)] := by rfl) : aJ X tg (.Call (.Name "range" p1) [a, b] [] pos) Γ M P := fun Hi H σ ok en R' q => by
  refine ⟨_, pi_range2 hg hm pa_wa hs hs2, ?_⟩
  refine ha Hi H σ ok en _ fun d M1 v Hi1 H1 h1 s1 ok1 r1 => ?_
  obtain ⟨lo, hi, rfl, hb, hp⟩ := h1
  cases r1 with
  | cons r1 r2 =>
    cases r2 with
    | cons r2 r3 =>
      cases r3
      cases r1
      cases r2
      refine ⟨lo, hi, rfl, hb, q _ _ _ M1 Hi1 H1 hp s1 ok1 ?_⟩
      refine walk_range.mono (fun _ _ => trivial) fun i H' v H'' hi hG hy Hi' M' s2 ok2 => ?_
      obtain ⟨rfl, rfl⟩ := hy
      exact ⟨Hi', Same.refl _, ok2, .int _⟩
/-- a for, its invariant told behind what it walks -/
theorem as_forJ {tg iter : Expr} {body : List Stmt} (hp : PassesOwn (model X.prog X.w) X.A X.env X.xe) (hc : X.calm = true)
    (hi : aJ X tg iter Γ M fun n it M1 => ∃ I : Nat → Gam → Mem → Prop, I 0 Γ M1 ∧ (∀ i Γ M, i < n → I i Γ M → aG X tg (it i) Γ M fun Γ2 M2 => aSs X body Γ2 M2 { k with nx := I (i + 1), ct := I (i + 1), bk := k.nx }) ∧ ∀ Γ M, I n Γ M → k.nx Γ M)
    (hf : ∀ x, foldedSetIterable iter X.env x = pure x := by intro _; rfl) : aS X (.For tg iter body [] pos) Γ M k := fun Hi H σ ok en D q => by
  refine ⟨_, ps_for hp hc pi_wi pg_wg pss_wb hf, ?_⟩
  refine hi Hi H σ ok en _ fun J n it M1 Hi1 H1 h1 s1 ok1 w => ?_
  obtain ⟨I, h0, hs, hd⟩ := h1
  refine for_it w (fun i σ' H' => ∃ Γ' M' Hi', I i Γ' M' ∧ Same Hi1 Hi' ∧ Ok X.K Hi' M' H' ∧ EnvR X.K Hi' Γ' σ') ⟨Γ, M1, Hi1, h0, Same.refl _, ok1, en.mono s1⟩ ?_ ?_ ?_
  · rintro i σ' H' hi ⟨Γ', M', Hi', h2, s2, ok2, en2⟩
    exact ⟨Hi', M', s2, ok2⟩
  · rintro i v σ' H' H'' hi ⟨Γ', M', Hi', h2, s2, ok2, en2⟩ hy
    obtain ⟨Hi3, s3, ok3, r3⟩ := hy Hi' M' s2 ok2
    have s13 := (s1.trans s2).trans s3
    refine hs i Γ' M' hi h2 Hi3 H'' σ' v ok3 (en2.mono s3) r3 _ fun Γ4 M4 σ4 Hi4 H4 h4 s4 ok4 en4 => ?_
    have s24 := (s2.trans s3).trans s4
    exact h4 Hi4 H4 σ4 ok4 en4 _ ⟨fun Γ5 M5 σ5 Hi5 H5 h5 s5 ok5 en5 => ⟨Γ5, M5, Hi5, h5, s24.trans s5, ok5, en5⟩, (q.up (s13.trans s4)).rt, (q.up (s13.trans s4)).nx, fun Γ5 M5 σ5 Hi5 H5 h5 s5 ok5 en5 => ⟨Γ5, M5, Hi5, h5, s24.trans s5, ok5, en5⟩⟩
  · rintro σ' H' ⟨Γ', M', Hi', h2, s2, ok2, en2⟩
    exact q.nx Γ' M' σ' Hi' H' (hd Γ' M' h2) (s1.trans s2) ok2 en2
/-- what a comprehension must show, behind what it walks -/
abbrev LcJ (X : Cx) (scope : Scope) (vs : List Nat) (tg elt : Expr) (ifs : List Expr) (Γ : Gam) (P : Val → Mem → Prop) : Nat → (Nat → Val) → Mem → Prop := fun n it M1 => n ≤ 100000 ∧ ∃ J : Nat → List Val → Mem → Prop, J 0 [] M1 ∧
  (∀ i acc M D, i < n → acc.length ≤ i → J i acc M → bG X scope vs tg (it i) (wipeG Γ vs) ((D, .lst acc) :: M) fun Γ2 M2 => bTs X scope ifs Γ2 M2 fun b M3 =>
    (b = true → bE X scope elt Γ2 M3 fun y M4 => ∃ M5, M4 = (D, .lst acc) :: M5 ∧ J (i + 1) (acc ++ [y]) M5) ∧ (b = false → ∃ M5, M3 = (D, .lst acc) :: M5 ∧ J (i + 1) acc M5)) ∧
  ∀ D acc M, J n acc M → P (.ptr D) ((D, .lst acc) :: M)
theorem lc_readJ {tg iter elt : Expr} {ifs : List Expr} {scope : Scope} {vs : List Nat} (hi : aJ X tg iter Γ M (LcJ X scope vs tg elt ifs Γ P)) {Hi H : Hp} {σ : L2.St} (ok : Ok X.K Hi M H) (en : EnvR X.K Hi Γ σ) {Q : VK} (q : Post X.K Hi P Q) :
    tLc (WI X tg iter) (fun v σ H Q => ∀ s H' C cl fp, WG (bx X scope s H' C cl fp) tg v σ H Q) (fun σ H Q => ∀ s H' C cl fp, WTs (bx X scope s H' C cl fp) ifs σ H Q) (fun σ H Q => ∀ s H' C cl fp, WE (bx X scope s H' C cl fp) elt σ H Q) vs σ H Q := by
  refine hi Hi H σ ok en _ fun J' n it M1 Hi1 H1 h1 s1 ok1 w => ?_
  obtain ⟨hn, J, h0, hs, hd⟩ := h1
  intro D hD
  refine lc_it (g := fun v σ H Q => ∀ s H' C cl fp, WG (bx X scope s H' C cl fp) tg v σ H Q) (tt := fun σ H Q => ∀ s H' C cl fp, WTs (bx X scope s H' C cl fp) ifs σ H Q) (te := fun σ H Q => ∀ s H' C cl fp, WE (bx X scope s H' C cl fp) elt σ H Q) (vs := vs) (σ := σ) (Qd := fun H => Q (V.ref D) H)
    w (fun i H' => ∃ acc M' Hi', J i acc M' ∧ acc.length ≤ i ∧ Same Hi1 Hi' ∧ Ok X.K Hi' ((D, .lst acc) :: M') H') ⟨[], M1, Hi1, h0, Nat.le_refl _, Same.refl _, ok1.new hD ⟨[], rfl, .nil⟩⟩ ?_ ?_ ?_
  · rintro i H' hi ⟨acc, M', Hi', h2, _, s2, ok2⟩
    exact ⟨Hi', M', s2, ok2.tail⟩
  · rintro i v H' H'' hi ⟨acc, M', Hi', h2, hl, s2, ok2⟩ hy
    obtain ⟨Hi3, s3, ok3, r3⟩ := hy Hi' ((D, .lst acc) :: M') s2 ok2
    intro s0 H0 C0 cl0 fp0
    have s13 := s2.trans s3
    refine hs i acc M' D hi hl h2 s0 H0 C0 cl0 fp0 Hi3 H'' (wipe σ vs) v ok3 (env_wipe (en.mono (s1.trans s13)) vs) r3 _ fun Γ4 M4 σ4 Hi4 H4 h4 s4 ok4 en4 w4 => ⟨?_, ?_⟩
    · rw [w4]
      clear w4 en4
      have idem : ∀ (us : List Nat) (τ : L2.St), wipe (wipe τ us) us = wipe τ us := by
        intro us
        induction us with
        | nil => intro τ; rfl
        | cons u us ih =>
          intro τ
          show (wipe ((wipe τ us).set u none) us).set u none = (wipe τ us).set u none
          rw [wipe_set]
          by_cases hu : u ∈ us
          · rw [if_pos hu, ih]
          · rw [if_neg hu, ih, List.set_set]
      exact idem vs σ
    · intro s5 H5 C5 cl5 fp5
      refine h4 s5 H5 C5 cl5 fp5 Hi4 H4 σ4 ok4 en4 _ fun b M6 Hi6 H6 h6 s6 ok6 => ?_
      cases b with
      | true =>
        refine iteT fun s7 H7 C7 cl7 fp7 => ?_
        refine h6.1 rfl s7 H7 C7 cl7 fp7 Hi6 H6 σ4 ok6 (en4.mono s6) _ fun y M8 v8 Hi8 H8 h8 s8 ok8 r8 => ?_
        obtain ⟨M9, rfl, h9⟩ := h8
        obtain ⟨_, o, ho, xs, rfl, ra⟩ := ok8.ce D _ List.mem_cons_self
        refine ⟨xs, ho, ?_, ?_⟩
        · rw [← ra.length]
          exact Nat.lt_of_lt_of_le (Nat.lt_of_le_of_lt hl (Nat.lt_of_lt_of_le hi hn)) (by decide)
        · exact ⟨acc ++ [y], M9, Hi8, h9, by rw [List.length_append]; exact Nat.succ_le_succ hl, ((s13.trans s4).trans s6).trans s8, ok8.set (i := 0) rfl ⟨_, rfl, ra.append (.cons r8 .nil)⟩⟩
      | false =>
        obtain ⟨M9, rfl, h9⟩ := h6.2 rfl
        exact iteF ⟨acc, M9, Hi6, h9, Nat.le_succ_of_le hl, (s13.trans s4).trans s6, ok6⟩
  · rintro H' ⟨acc, M', Hi', h2, hl, s2, ok2⟩
    exact q _ _ _ Hi' H' (hd D acc M' h2) (s1.trans s2) ok2 (.ptr D)
theorem ae_lcJ {tg iter elt : Expr} {ifs : List Expr} {scope : Scope} (own : List (Str × Nat)) (hc : X.calm = true) (hN : X.N.Nodup) (ok : BlkOk X.N X.env.scope scope own)
    (hi : aJ X tg iter Γ M (LcJ X scope (own.map (·.2)) tg elt ifs Γ P)) (hf : ∀ x, foldedSetIterable iter X.env x = pure x := by intro _; rfl) :
    aE X (.ListComp elt [⟨tg, iter, ifs, 0⟩] scope pos) Γ M P := fun Hi H σ ok' en Q q =>
  ⟨_, pe_lc hc hN pi_wi ok (fun s H C cl fp => ⟨fun pins s' σ H v u Q I r h => pg_wg.run pins s' σ H v u Q I r (h _ _ _ _ _)⟩) (fun s H C cl fp => ⟨fun pins s' σ H Q I h => pts_wts.run pins s' σ H Q I (h _ _ _ _ _)⟩) (fun s H C cl fp => ⟨fun pins s' σ H Q I h => pe_we.run pins s' σ H Q I (h _ _ _ _ _)⟩) hf,
    lc_readJ hi ok' en q⟩
theorem as_lcJ {tg iter elt : Expr} {ifs : List Expr} {scope : Scope} {py spos : Pos} (m : Nat) (own : List (Str × Nat)) (hc : X.calm = true) (hN : X.N.Nodup) (ok : BlkOk X.N X.env.scope scope own)
    (hi : aJ X tg iter Γ M (LcJ X scope (own.map (·.2)) tg elt ifs Γ fun d M' => k.nx (Γ.set m (some d)) M')) (hy : X.N[m]? = some y := by rfl) (hyl : X.env.scope.names.lookup y = some .local := by rfl)
    (hsw : swapsWith (.ListComp elt [⟨tg, iter, ifs, 0⟩] scope pos) (some (.Name y py)) spos.line X.env = pure true := by exact sw_true rfl rfl rfl (by decide +kernel))
    (hf : ∀ x, foldedSetIterable iter X.env x = pure x := by intro _; rfl) :
    aS X (.Assign [.Name y py] (.ListComp elt [⟨tg, iter, ifs, 0⟩] scope pos) spos) Γ M k := fun Hi H σ ok' en D q =>
  ⟨_, ps_setLc hc hN hy hyl hsw pi_wi ok (fun s H C cl fp => ⟨fun pins s' σ H v u Q I r h => pg_wg.run pins s' σ H v u Q I r (h _ _ _ _ _)⟩) (fun s H C cl fp => ⟨fun pins s' σ H Q I h => pts_wts.run pins s' σ H Q I (h _ _ _ _ _)⟩) (fun s H C cl fp => ⟨fun pins s' σ H Q I h => pe_we.run pins s' σ H Q I (h _ _ _ _ _)⟩) hf,
    lc_readJ hi ok' en fun d M' v Hi' H' h' s' ok2 r => q.nx _ _ _ Hi' H' h' s' ok2 ((en.mono s').set r)⟩
end
end Ab
namespace Ab
open PySem PySem.Spec PyProof.Rows L2
section
variable {X : Cx} {Γ : Gam} {M : Mem} {P : Val → Mem → Prop} {e a b c o : Expr} {es : List Expr} {pos p1 p2 apos kpos : Pos} {k : AK} {d d1 d2 d3 : Val} {i j : Int} {x y m : Str} {n : Nat} {f C : Addr}
/-! ### operands that change cells -/
def WC (X : Cx) (g : Value → Value → Sem Value) : R2 := fun x y H Q => ∃ r, OpR X g r ∧ r x y H Q
theorem op_wc {g : Value → Value → Sem Value} : OpR X g (WC X g) := fun pins s σ H x y v u Q I rx ry ⟨r, ho, h⟩ => ho pins s σ H x y v u Q I rx ry h
def BinV (X : Cx) (op : Operator) (M : Mem) (x y : Val) (P : Val → Mem → Prop) : Prop := ∃ r, OpR X (binaryOp op) r ∧ RV X r x y M P
theorem ae_bin {op : Operator} (h : aE X a Γ M fun x M1 => aE X b Γ M1 fun y M2 => BinV X op M2 x y P) : aE X (.BinOp a op b pos) Γ M P :=
  ae_op op_wc (h.mono fun x M1 h1 => h1.mono fun y M2 ⟨r, ho, hr⟩ Hi H v w ok rv rw_ Q q => ⟨r, ho, hr Hi H v w ok rv rw_ Q q⟩)
theorem bv_add (h : P (.int (i + j)) M) : BinV X .Add M (.int i) (.int j) P := ⟨_, op_add, rv_I0 (f := fun i j => .int (i + j)) (fun _ _ => .int _) h⟩
theorem bv_catL {xs ys : List Val} (h1 : Vw M d1 (.lst xs)) (h2 : Vw M d2 (.lst ys)) (hl : xs.length + ys.length ≤ sizeLine) (h : ∀ p, P (.ptr p) ((p, .lst (xs ++ ys)) :: M)) : BinV X .Add M d1 d2 P := ⟨_, op_catL, rv_catL h1 h2 hl h⟩
theorem bv_catT {xs ys : List Val} (hl : xs.length + ys.length ≤ sizeLine) (h : P (.tup (xs ++ ys)) M) : BinV X .Add M (.tup xs) (.tup ys) P := ⟨_, op_catA, rv_catT hl h⟩
theorem bv_mulI (hc : CMul i j) (h : P (.int (i * j)) M) : BinV X .Mult M (.int i) (.int j) P := ⟨_, op_mul, rv_I (f := fun i j => .int (i * j)) hc (fun _ _ => .int _) h⟩
theorem bv_repL {xs : List Val} {p : Addr} {jj : Int} {n : Nat} (hm : M[n]? = some (p, .lst xs)) (h1 : 0 ≤ jj) (h2 : jj < 2 ^ 31) (hl : xs.length * jj.toNat ≤ sizeLine) (h : ∀ q, P (.ptr q) ((q, .lst (List.replicate jj.toNat xs).flatten) :: M)) : BinV X .Mult M (.ptr p) (.int jj) P := ⟨_, op_rep, rv_repL hm h1 h2 hl h⟩
theorem at_cmpM {op : CmpOp} {P : Bool → Mem → Prop} (h : aE X a Γ M fun x M1 => aE X b Γ M1 fun y M2 => ∃ k, Cmp X op M2 x y k ∧ P k M2) (hm : behindInMarks op b = false := by first | exact nomark _ | rfl) : aT X (.Compare a [op] [b] pos) Γ M P := fun Hi H σ ok en Q q => by
  refine ⟨_, pt_cmpR op_wc pe_we pe_we hm, ?_⟩
  refine h Hi H σ ok en _ fun x M1 v Hi1 H1 h1 s1 ok1 r1 => ?_
  refine h1 Hi1 H1 σ ok1 (en.mono s1) _ fun y M2 w Hi2 H2 h2 s2 ok2 r2 => ?_
  obtain ⟨kk, ⟨r, ho, hr⟩, hp⟩ := h2
  refine ⟨r, ho, hr Hi2 H2 v w ok2 (r1.mono s2) r2 _ fun z M' v' Hi3 H3 h3 s3 ok3 r3 => ?_⟩
  obtain ⟨rfl, rfl⟩ := h3
  cases r3
  exact ⟨kk, rfl, q _ _ Hi3 H3 hp ((s1.trans s2).trans s3) ok3⟩
theorem ae_cmpM {op : CmpOp} (h : aE X a Γ M fun x M1 => aE X b Γ M1 fun y M2 => ∃ k, Cmp X op M2 x y k ∧ P (.bl k) M2) (hm : behindInMarks op b = false := by first | exact nomark _ | rfl) : aE X (.Compare a [op] [b] pos) Γ M P := fun Hi H σ ok en Q q => by
  refine ⟨_, pe_cmpR op_wc pe_we pe_we hm, ?_⟩
  refine h Hi H σ ok en _ fun x M1 v Hi1 H1 h1 s1 ok1 r1 => ?_
  refine h1 Hi1 H1 σ ok1 (en.mono s1) _ fun y M2 w Hi2 H2 h2 s2 ok2 r2 => ?_
  obtain ⟨kk, ⟨r, ho, hr⟩, hp⟩ := h2
  refine ⟨r, ho, hr Hi2 H2 v w ok2 (r1.mono s2) r2 _ fun z M' v' Hi3 H3 h3 s3 ok3 r3 => ?_⟩
  obtain ⟨rfl, rfl⟩ := h3
  exact q _ _ v' Hi3 H3 hp ((s1.trans s2).trans s3) ok3 r3
/-- ints as data -/
theorem toDs_ints : ∀ ns : List Int, toDs (ns.map .int) = some (ns.map PyData.int)
  | [] => rfl
  | n :: ns => by
    rw [List.map_cons, List.map_cons]
    unfold toDs
    rw [toDs_ints ns]
    rfl
theorem toD_tup {xs : List Val} {ds : List PyData} (h : toDs xs = some ds) : toD (.tup xs) = some (.tuple ds) := by
  unfold toD
  rw [h]
  rfl
theorem toD_lst {xs : List Val} {ds : List PyData} (h : toDs xs = some ds) : toD (.lst xs) = some (.list ds) := by
  unfold toD
  rw [h]
  rfl
theorem lay_ints : ∀ ns : List Int, PyData.canLayAll0 (ns.map PyData.int) = true
  | [] => rfl
  | n :: ns => by
    rw [List.map_cons]
    unfold PyData.canLayAll0
    rw [lay_ints ns]
    rfl
theorem dep_ints : ∀ ns : List Int, PyData.depthAll (ns.map PyData.int) = 0
  | [] => rfl
  | n :: ns => by
    rw [List.map_cons]
    unfold PyData.depthAll
    rw [dep_ints ns]
    rfl
theorem shaped_tupI (ns : List Int) : SeqAt.shaped (.tuple (ns.map PyData.int)) = true := by
  unfold SeqAt.shaped PyData.canLay0 PyData.depth
  rw [lay_ints, dep_ints]
  rfl
theorem shaped_lstI (ns : List Int) : SeqAt.shaped (.list (ns.map PyData.int)) = true := by
  unfold SeqAt.shaped PyData.canLay0 PyData.depth
  rw [lay_ints, dep_ints]
  rfl
theorem eqv_ints : ∀ ns ms : List Int, PyData.eqvAll (ns.map PyData.int) (ms.map PyData.int) = decide (ns = ms)
  | [], [] => rfl
  | [], _ :: _ => rfl
  | _ :: _, [] => rfl
  | n :: ns, m :: ms => by
    rw [List.map_cons, List.map_cons]
    unfold PyData.eqvAll PyData.eqv
    rw [eqv_ints ns ms]
    by_cases h : n = m
    · subst h
      simp
    · simp [h]
/-- lists, tuples of ints compared -/
theorem cmp_eqLI {ns ms : List Int} (v1 : Vw M d1 (.lst (ns.map .int))) (v2 : Vw M d2 (.lst (ms.map .int))) (hu : X.A.units + 64 < cLine) : Cmp X .Eq M d1 d2 (decide (ns = ms)) := by
  have h := cmp_eqD v1 v2 (toD_lst (toDs_ints ns)) (toD_lst (toDs_ints ms)) (shaped_lstI ns) (shaped_lstI ms) hu
  rw [show PyData.eqv (.list (ns.map PyData.int)) (.list (ms.map PyData.int)) = decide (ns = ms) from eqv_ints ns ms] at h
  exact h
theorem cmp_neLI {ns ms : List Int} (v1 : Vw M d1 (.lst (ns.map .int))) (v2 : Vw M d2 (.lst (ms.map .int))) (hu : X.A.units + 64 < cLine) : Cmp X .NotEq M d1 d2 (!decide (ns = ms)) := by
  have h := cmp_neD v1 v2 (toD_lst (toDs_ints ns)) (toD_lst (toDs_ints ms)) (shaped_lstI ns) (shaped_lstI ms) hu
  rw [show PyData.eqv (.list (ns.map PyData.int)) (.list (ms.map PyData.int)) = decide (ns = ms) from eqv_ints ns ms] at h
  exact h
theorem cmp_eqTI {ns ms : List Int} (hu : X.A.units + 64 < cLine) : Cmp X .Eq M (.tup (ns.map .int)) (.tup (ms.map .int)) (decide (ns = ms)) := by
  have h := cmp_eqD (X := X) (M := M) (.self (.tup (ns.map .int))) (.self (.tup (ms.map .int))) (toD_tup (toDs_ints ns)) (toD_tup (toDs_ints ms)) (shaped_tupI ns) (shaped_tupI ms) hu
  rw [show PyData.eqv (.tuple (ns.map PyData.int)) (.tuple (ms.map PyData.int)) = decide (ns = ms) from eqv_ints ns ms] at h
  exact h
theorem cmp_neTI {ns ms : List Int} (hu : X.A.units + 64 < cLine) : Cmp X .NotEq M (.tup (ns.map .int)) (.tup (ms.map .int)) (!decide (ns = ms)) := by
  have h := cmp_neD (X := X) (M := M) (.self (.tup (ns.map .int))) (.self (.tup (ms.map .int))) (toD_tup (toDs_ints ns)) (toD_tup (toDs_ints ms)) (shaped_tupI ns) (shaped_tupI ms) hu
  rw [show PyData.eqv (.tuple (ns.map PyData.int)) (.tuple (ms.map PyData.int)) = decide (ns = ms) from eqv_ints ns ms] at h
  exact h
end
end Ab
namespace Ab
open PySem PySem.Spec PyProof.Rows L2
section
variable {X : Cx} {Γ : Gam} {M : Mem} {P : Val → Mem → Prop} {e a b c o : Expr} {es : List Expr} {pos p1 p2 apos kpos : Pos} {k : AK} {d d1 d2 d3 : Val} {i j : Int} {x y m : Str} {n : Nat} {f C : Addr}
/-! ### lists that are never changed, as values -/
theorem av_lst {ds : List Val} (h : aVs X es Γ M ds) (hl : ds.length ≤ sizeLine) : aV X (.List es pos) Γ M (.lst ds) := ae_lst (h.val ⟨hl, rfl, rfl⟩)
theorem av_sliceL {xs : List Val} {elo ehi : Option Expr} {lo hi : Option Int} (ha : aV X a Γ M d) (hl : aO X elo Γ M lo) (hh : aO X ehi Γ M hi) (hv : Vw M d (.lst xs)) : aV X (.Subscript a (.Slice elo ehi none p2) pos) Γ M (.lst (cutA xs lo hi)) :=
  ae_frz (ae_sliceL ha hl hh hv fun p => ⟨p, _, _, rfl, rfl, rfl, rfl⟩)
theorem av_sliceT {xs : List Val} {elo ehi : Option Expr} {lo hi : Option Int} (ha : aV X a Γ M (.tup xs)) (hl : aO X elo Γ M lo) (hh : aO X ehi Γ M hi) : aV X (.Subscript a (.Slice elo ehi none p2) pos) Γ M (.tup (cutA xs lo hi)) :=
  ae_sliceT ha hl hh ⟨rfl, rfl⟩
theorem av_catT {xs ys : List Val} (ha : aV X a Γ M (.tup xs)) (hb : aV X b Γ M (.tup ys)) (hl : xs.length + ys.length ≤ sizeLine) : aV X (.BinOp a .Add b pos) Γ M (.tup (xs ++ ys)) :=
  ae_bin (ha.val (hb.val (bv_catT hl ⟨rfl, rfl⟩)))
theorem av_tuple {xs : List Val} (hm : X.mg "tuple" = none) (ha : aV X a Γ M d) (hs : Sq M d xs) (hg : Gl X "tuple" := by rfl) (hst : starEach [a] X.env = [(false, eval a X.env)] := by rfl) : aV X (.Call (.Name "tuple" p1) [a] [] pos) Γ M (.tup xs) :=
  ae_tuple hm (ha.val ⟨xs, hs, rfl, rfl⟩) hg hst
/-! ### slices of lists of ints -/
def cutI (g : List Int) (lo hi : Option Int) : List Int := (g.drop (HT.sIx g.length 0 lo)).take (HT.sIx g.length g.length hi - HT.sIx g.length 0 lo)
theorem cut_map {g : List Int} {lo hi : Option Int} : cutA (g.map Val.int) lo hi = (cutI g lo hi).map Val.int := by
  unfold cutA cutI
  rw [List.length_map, ← List.map_drop, ← List.map_take]
theorem cut_len {g : List Int} {lo hi : Option Int} : (cutI g lo hi).length ≤ g.length := by
  unfold cutI
  rw [List.length_take, List.length_drop]
  omega
theorem cut_hi {g : List Int} {j : Int} (h0 : 0 ≤ j) (h1 : j ≤ g.length) : cutI g none (some j) = g.take j.toNat := by
  obtain ⟨n, rfl⟩ := Int.eq_ofNat_of_zero_le h0
  unfold cutI
  rw [HT.sIx_nat, HT.sIx_none, List.drop_zero, Nat.sub_zero, Nat.min_eq_left (by omega), Int.toNat_natCast]
theorem cut_lo {g : List Int} {j : Int} (h0 : 0 ≤ j) (h1 : j ≤ g.length) : cutI g (some j) none = g.drop j.toNat := by
  obtain ⟨n, rfl⟩ := Int.eq_ofNat_of_zero_le h0
  unfold cutI
  rw [HT.sIx_nat, HT.sIx_none, Nat.min_eq_left (by omega), Int.toNat_natCast]
  exact List.take_of_length_le (by rw [List.length_drop]; omega)
end
end Ab
namespace Ab
open PySem PySem.Spec PyProof.Rows L2
section
variable {X : Cx} {Γ : Gam} {M : Mem} {P : Val → Mem → Prop} {e a b c o : Expr} {es : List Expr} {pos p1 p2 apos kpos : Pos} {k : AK} {d d1 d2 d3 : Val} {i j : Int} {x y m : Str} {n : Nat} {f C : Addr}
/-- a cell of the expression's own is forgotten -/
theorem ae_dropc (h : aE X e Γ M fun d M' => ∃ c M'', M' = c :: M'' ∧ P d M'') : aE X e Γ M P := fun Hi H σ ok en Q q => by
  refine h Hi H σ ok en _ fun d M1 v Hi1 H1 h1 s1 ok1 r1 => ?_
  obtain ⟨c, M2, rfl, hp⟩ := h1
  exact q _ _ _ Hi1 H1 hp s1 (Ok.tail (p := c.1) (c := c.2) ok1) r1
/-- an instance that will change no more -/
theorem ae_frzO (h : aE X e Γ M fun d M' => ∃ p C fs M'', d = .ptr p ∧ M' = (p, .ins C fs) :: M'' ∧ P (.obj C fs) M'') : aE X e Γ M P := fun Hi H σ ok en Q q => by
  refine h Hi H σ ok en _ fun d M1 v Hi1 H1 h1 s1 ok1 r1 => ?_
  obtain ⟨p, C, fs, M2, rfl, rfl, hp⟩ := h1
  obtain ⟨e0, o, ho, dx, gs, rfl, ra⟩ := ok1.ce p _ List.mem_cons_self
  cases r1
  have s2 := same_upd (o := .ins C dx gs) e0
  exact q _ _ _ _ _ hp (s1.trans s2) (ok1.freeze ho) (.obj upd_same (ra.mono s2))
/-- [x, ..] * n -/
theorem av_repL {ds : List Val} (h : aVs X es Γ M ds) (hl : ds.length ≤ sizeLine) (hb : ∀ M', aV X b Γ M' (.int j)) (h1 : 0 ≤ j) (h2 : j < 2 ^ 31) (hl2 : ds.length * j.toNat ≤ sizeLine) : aV X (.BinOp (.List es p1) .Mult b pos) Γ M (.lst (List.replicate j.toNat ds).flatten) :=
  ae_dropc (ae_frz (ae_bin (ae_lstC (h.val ⟨hl, fun q => (hb _).val (bv_repL (n := 0) rfl h1 h2 hl2 fun z => ⟨z, _, _, rfl, rfl, _, _, rfl, rfl, rfl⟩)⟩))))
/-! ### ints are shown -/
theorem log_lt {n : Nat} (h : n < 2 ^ 1920) : n.log2 < 1920 := by
  by_cases h0 : n = 0
  · subst h0
    decide
  · exact (Nat.log2_lt h0).mpr h
def showI (v : Int) : Prop := v.natAbs.log2 < 1920
theorem shownI_le {v : Int} (h : showI v) : (PyData.shown (.int v)).length ≤ 1921 := int_text_len_1921 h
end
end Ab
namespace Ab
open PySem PySem.Spec PyProof.Rows L2
/-! defs out of the head's facts -/
section
variable {P : Program} {w : World} {K : PySem.W.Frag} {mg : Str → Option Value} {base : Heap} {x qual : Str} {st : Stmt} {f : Addr} {oc : Value} {od an : Option Addr} {osl : Array (Option Value)} {kV doc pm cdv ct : Value} {fd : FuncData}
theorem fd_mk (l : K.lookup f = some ⟨oc, od, .func (PySem.W.fnOf x qual (defArgs st) (defBody st) (defScope st) .none kV doc pm an cdv ct), osl⟩)
    (c : PySem.W.codeIn K cdv qual = true) (k : PySem.W.keepIn K (.ref f) = true) : FunD K x qual (defArgs st) (defBody st) (defScope st) [] [] f (PySem.W.fnOf x qual (defArgs st) (defBody st) (defScope st) .none kV doc pm an cdv ct) :=
  fun_d (fun_mk l c k)
/-- two keyword-only defaults -/
theorem fd_kw2 {D : Addr} {k1 k2 : Str} {v1 v2 : V} {u1 u2 : Value} (l : K.lookup f = some ⟨oc, od, .func (PySem.W.fnOf x qual (defArgs st) (defBody st) (defScope st) .none (.ref D) doc pm an cdv ct), osl⟩)
    (c : PySem.W.codeIn K cdv qual = true) (k : PySem.W.keepIn K (.ref f) = true) (n1 : PySem.W.nsIn K D k1 = some (some u1)) (n2 : PySem.W.nsIn K D k2 = some (some u2)) (r1 : RelV v1 u1) (r2 : RelV v2 u2) :
    FunD K x qual (defArgs st) (defBody st) (defScope st) [] [(k1, v1), (k2, v2)] f (PySem.W.fnOf x qual (defArgs st) (defBody st) (defScope st) .none (.ref D) doc pm an cdv ct) :=
  ⟨⟨oc, od, .none, .ref D, doc, pm, an, cdv, ct, osl, rfl, l, c, .inl ⟨rfl, rfl⟩, .inr ⟨D, rfl, fun q hq => by
    rcases List.mem_cons.mp hq with e | hq
    · subst e
      exact ⟨u1, n1, r1⟩
    · rcases List.mem_cons.mp hq with e | hq
      · subst e
        exact ⟨u2, n2, r2⟩
      · cases hq⟩⟩, k⟩
/-- a def called by positions and keywords, every parameter written -/
theorem kbn_kw {params : Arguments} {body : List Stmt} {sc : Scope} {kws : List (Str × V)} {ps ks : List Str} {n : Nat} (F : FunD K x qual params body sc [] kws f fd)
    (h : ∀ (kV doc pm : Value) (an : Option Addr) (cdv ct : Value) (us ws : List Value), us.length = n → ws.length = ks.length → bindArgs (PySem.W.fnOf x qual params body sc .none kV doc pm an cdv ct) ⟨us, ks.zip ws⟩ = pure (ps.zip (us ++ ws))) :
    KBn K fd ps n ks (fun us ws => us ++ ws) (fun vs zs => vs ++ zs) := by
  obtain ⟨oc, od, dV, kV, doc, pm, an, cdv, ct, osl, rfl, lk, hcd, hD, _⟩ := F.ex
  obtain ⟨_, rfl⟩ : ([] : List V) = [] ∧ dV = .none := by
    rcases hD with h | ⟨e, _⟩
    · exact h
    · exact absurd rfl e
  exact ⟨fun s us ws _ h1 h2 => .of_eq (h kV doc pm an cdv ct us ws h1 h2), fun r1 r2 => r1.append r2⟩
/-- .. and its promise -/
theorem fnx_kw {params : Arguments} {body : List Stmt} {sc : Scope} {kws : List (Str × V)} {N ps ks : List Str} {k n : Nat} {s0 : ASp} (F : FunD K x qual params body sc [] kws f fd) (S : FnScope N ps sc)
    (h : ∀ (kV doc pm : Value) (an : Option Addr) (cdv ct : Value) (us ws : List Value), us.length = n → ws.length = ks.length → bindArgs (PySem.W.fnOf x qual params body sc .none kV doc pm an cdv ct) ⟨us, ks.zip ws⟩ = pure (ps.zip (us ++ ws)))
    (len : ∀ ds M R, s0 ds M R → ds.length = ps.length) (hb : BodyOk P w K mg base k f N qual sc body s0) : FnX P w K mg base (k + 1) f ks (spX K fun ds es M R => ds.length = n ∧ s0 (ds ++ es) M R) :=
  fnx_kbn (fun ds es => ds ++ es) F S (kbn_kw F h) (fun H ds vs es zs r1 r2 _ _ => r1.append r2) len hb
/-- .. by positions alone -/
theorem fnx_pos' {params : Arguments} {body : List Stmt} {sc : Scope} {kws : List (Str × V)} {N ps : List Str} {k : Nat} {s0 : ASp} (F : FunD K x qual params body sc [] kws f fd) (S : FnScope N ps sc)
    (h : ∀ (kV doc pm : Value) (an : Option Addr) (cdv ct : Value) (us : List Value), us.length = ps.length → bindArgs (PySem.W.fnOf x qual params body sc .none kV doc pm an cdv ct) ⟨us, []⟩ = pure (ps.zip us))
    (len : ∀ ds M R, s0 ds M R → ds.length = ps.length) (hb : BodyOk P w K mg base k f N qual sc body s0) : FnX P w K mg base (k + 1) f [] (spX K fun ds _ => s0 ds) := by
  have F1 := fnx_kbn (n := ps.length) (ks := []) (fun ds _ => ds) F S (g := fun us _ => us) (gV := fun vs _ => vs) (by
    obtain ⟨oc, od, dV, kV, doc, pm, an, cdv, ct, osl, rfl, lk, hcd, hD, _⟩ := F.ex
    obtain ⟨_, rfl⟩ : ([] : List V) = [] ∧ dV = .none := by
      rcases hD with h | ⟨e, _⟩
      · exact h
      · exact absurd rfl e
    refine ⟨fun s us ws _ h1 h2 => .of_eq ?_, fun r1 _ => r1⟩
    obtain rfl := List.length_eq_zero_iff.mp h2
    exact h kV doc pm an cdv ct us h1) (fun H ds vs es zs r _ _ _ => r) len hb
  exact ⟨fun A outer s H us ws vs zs Q hr e0 r rz hz ⟨Hi, M, ds, es, R, ra, re, ok, hs, q⟩ => F1.run A outer s H us ws vs zs Q hr e0 r rz hz ⟨Hi, M, ds, es, R, ra, re, ok, ⟨len _ _ _ hs, hs⟩, q⟩⟩
end
end Ab
namespace Ab
open PySem PySem.Spec PyProof.Rows L2 Builtin
/-! ### == and != of instances by their own __eq__ -/
end Ab
namespace Ab
open PySem PySem.Spec PyProof.Rows L2
/-- a call somewhere below the running body -/
theorem run_at {X : Cx} {A : Around} {n : Nat} {f : Addr} {pins : List (Addr × Obj)} {σ : L2.St} {H : Hp} {s : Shared} {Q : VK} {us : List Value} {vs : List V} {sp : List V → List V → Hp → VK → Prop} (F : FnX X.prog X.w X.K X.mg X.base n f [] sp) (hr : Rm n A) (hf : A.frames = X.A.frames)
    (I : Inv X pins σ H s) (r : Vals vs us) (h : sp vs [] H Q) : wpAny (model X.prog X.w) A (call (.ref f) us) (EP X pins σ Q) X.xe s := by
  have e0 : Env0 X.prog X.w X.K X.mg X.base A X.stack s H := by
    have e := I.env0
    exact ⟨by rw [hf]; exact e.frames, e.mod, e.bs, e.bsz, e.funs, e.frf, e.hok, e.bare⟩
  refine wpAny_call (codeAny_mono (F.run A X.stack s H us [] vs [] Q hr e0 r .nil rfl h) fun r s' hq => ?_)
  cases r with
  | error e => exact False.elim hq
  | ok fl =>
    cases fl with
    | ret u => exact I.after hq
    | next => exact False.elim hq
    | brk => exact False.elim hq
    | cont => exact False.elim hq
/-- == of the class at C by the def at f: what it answers of the fields -/
structure OwnE (P : Program) (w : World) (K : PySem.W.Frag) (mg : Str → Option Value) (base : Heap) (n : Nat) (C f : Addr) (good : List (Str × Val) → Prop) (rel : List (Str × Val) → List (Str × Val) → Bool) : Prop where
  fx : FnX P w K mg base n f [] (spX K fun ds _ M R => ∃ fs gs, ds = [.obj C fs, .obj C gs] ∧ good fs ∧ good gs ∧ R (.bl (rel fs gs)) M)
  at_ : PySem.W.findIn K (.ref C) "__eq__" = some (some (.ref f))
  fn : PySem.W.isFn K (.ref f) = true
  ne : PySem.W.findIn K (.ref C) "__ne__" = some (some (.builtin "object.__ne__"))
  ob : PySem.W.subIn K (.ref C) (.type "object") = some true
section
variable {X : Cx} {n : Nat} {C f : Addr} {good : List (Str × Val) → Prop} {rel : List (Str × Val) → List (Str × Val) → Bool} {M : Mem} {fs gs : List (Str × Val)}
def rO (K : PySem.W.Frag) (C : Addr) (good : List (Str × Val) → Prop) (rel : List (Str × Val) → List (Str × Val) → Bool) (neg : Bool) : R2 := fun x y H Q => ∃ a b dx dy fs gs, x = .ref a ∧ y = .ref b ∧ H a = some (.ins C dx fs) ∧ H b = some (.ins C dy gs) ∧
  spX K (fun ds _ M R => ∃ fs gs, ds = [.obj C fs, .obj C gs] ∧ good fs ∧ good gs ∧ R (.bl (rel fs gs)) M) [x, y] [] H (fun v H' => ∃ bb, v = .bl bb ∧ Q (.bl (if neg then !bb else bb)) H')
theorem op_eqO (O : OwnE X.prog X.w X.K X.mg X.base n C f good rel) (hr : Rm n X.A) : OpR X (compareOp .Eq) (rO X.K C good rel false) := by
  intro pins s σ H x y v u Q I rx ry h
  obtain ⟨a, b, dx, dy, fs, gs, rfl, rfl, ha, hb, hsp⟩ := h
  cases rx
  cases ry
  obtain ⟨mA, J, _⟩ := ins_get I.hok ha
  obtain ⟨mB, J', _⟩ := ins_get I.hok hb
  obtain ⟨od, J, _⟩ := J.look
  obtain ⟨od', J', _⟩ := J'.look
  obtain ⟨m, hF⟩ := I.fr
  show wpAny (model X.prog X.w) X.A (richCompare .Eq (.ref a) (.ref b)) (EP X pins σ Q) X.xe s
  refine PySem.W.cmp_K (op := .Eq) (tb := .ref C) hr.room.units0 hF I.ok.mod.kin J J'.type (by simp [PySem.W.notFirst]) O.at_ O.fn ?_
  refine wpAny_mono (run_at O.fx hr rfl I (vs := [.ref a, .ref b]) (.cons rfl (.cons rfl .nil)) hsp) (fun r s' z => ?_) fun _ _ x => x
  obtain ⟨v', H', I', rv, bb, rfl, q⟩ := z
  cases rv
  exact ⟨.bl bb, H', I', rfl, q⟩
theorem rv_O {neg : Bool} (hf : good fs) (hg : good gs) : RV X (rO X.K C good rel neg) (.obj C fs) (.obj C gs) M fun z M' => z = .bl (if neg then !rel fs gs else rel fs gs) ∧ M' = M := fun Hi H v w ok rv rw_ Q q => by
  cases id rv with
  | @obj a _ dx vs _ ha ra =>
    cases id rw_ with
    | @obj b _ dy ws _ hb rb =>
      refine ⟨a, b, dx, dy, vs, ws, rfl, rfl, ok.im _ _ ha, ok.im _ _ hb, Hi, M, [.obj C fs, .obj C gs], [], fun z M' => z = .bl (rel fs gs) ∧ M' = M, .cons rv (.cons rw_ .nil), .nil, ok, ⟨fs, gs, rfl, hf, hg, rfl, rfl⟩, ?_⟩
      intro d M' v Hi' H' h s' ok' r
      obtain ⟨rfl, rfl⟩ := h
      cases r
      exact ⟨_, rfl, q _ _ _ Hi' H' ⟨rfl, rfl⟩ s' ok' (.bl _)⟩
theorem cmp_eqO (O : OwnE X.prog X.w X.K X.mg X.base n C f good rel) (hr : Rm n X.A) (hf : good fs) (hg : good gs) : Cmp X .Eq M (.obj C fs) (.obj C gs) (rel fs gs) := ⟨_, op_eqO O hr, rv_O (neg := false) hf hg⟩
end
end Ab
namespace Ab
open PySem PySem.Spec PyProof.Rows L2
open AutoSeq1 (wpAny_loadPart')
open PySem.SeqAt MeetsSeq MeetsSeq2 MeetsSeq3 SeqRoads2
/-! ### lists whose items are equal: == and != (neg) -/
/-! ### items by their own == -/
def DV (K : PySem.W.Frag) (ed : Val → Val → Prop) : Eqv := fun x y H => ∃ d e, Rep K H d x ∧ Rep K H e y ∧ ed d e
theorem DV.mono {K : PySem.W.Frag} {ed : Val → Val → Prop} {x y : V} {H H' : Hp} (s : Same H H') (h : DV K ed x y H) : DV K ed x y H' := by
  obtain ⟨d, e, r1, r2, h⟩ := h
  exact ⟨d, e, r1.mono s, r2.mono s, h⟩
end Ab
namespace Ab
open PySem PySem.Spec PyProof.Rows L2
section
variable {X : Cx} {Γ : Gam} {M : Mem} {P : Val → Mem → Prop} {e a b c o : Expr} {es : List Expr} {pos p1 p2 apos kpos : Pos} {k : AK} {d d1 d2 d3 : Val} {i j : Int} {x y m : Str} {n : Nat} {f C : Addr}
/-- a global name that holds an int -/
theorem av_gint {t : Tok} (hm : X.mg x = some (.int i t)) (hg : Gl X x := by rfl) (hd : (x == ("__debug__" : Str)) = false := by decide) : aV X (.Name x pos) Γ M (.int i) := fun Hi H σ ok en Q q =>
  ⟨fun σ H Q => Q (.int i) H, ⟨fun pins s σ H Q I h => ld_glob I hg hm ⟨.int i, H, I, ⟨t, rfl⟩, h⟩ hd⟩, q _ _ _ Hi H ⟨rfl, rfl⟩ (Same.refl _) ok (.int i)⟩
/-- max, min of a list of ints -/
theorem ae_maxL (hm : X.mg "max" = none) (hc : X.calm = true) (ha : aE X a Γ M fun d M' => ∃ ns : List Int, Vw M' d (.lst (ns.map .int)) ∧ 0 < ns.length ∧ ∀ m, m ∈ ns → (∀ y, y ∈ ns → y ≤ m) → P (.int m) M') (hg : Gl X "max" := by rfl) (hst : starEach [a] X.env = [(false, eval a X.env)] := by rfl) : aE X (.Call (.Name "max" p1) [a] [] pos) Γ M P :=
  ae_callB (cr_max hc) hm (by decide +kernel) (aa_cons (ha.mono fun d M' ⟨ns, hv, hl, h⟩ => aa_nil fun Hi H vs ok r Q q => by
    cases r with
    | cons r1 r2 =>
      cases r2
      obtain ⟨p, ys, rfl, hq, ra⟩ := hv.repL ok r1
      obtain rfl := ra.ints
      exact ⟨p, ns, rfl, hq, hl, fun m h1 h2 => q _ _ _ Hi H (h m h1 h2) (Same.refl _) ok (.int _)⟩) hst) hg (he := hst) (hpl := rfl)
theorem ae_minL (hm : X.mg "min" = none) (hc : X.calm = true) (ha : aE X a Γ M fun d M' => ∃ ns : List Int, Vw M' d (.lst (ns.map .int)) ∧ 0 < ns.length ∧ ∀ m, m ∈ ns → (∀ y, y ∈ ns → m ≤ y) → P (.int m) M') (hg : Gl X "min" := by rfl) (hst : starEach [a] X.env = [(false, eval a X.env)] := by rfl) : aE X (.Call (.Name "min" p1) [a] [] pos) Γ M P :=
  ae_callB (cr_min hc) hm (by decide +kernel) (aa_cons (ha.mono fun d M' ⟨ns, hv, hl, h⟩ => aa_nil fun Hi H vs ok r Q q => by
    cases r with
    | cons r1 r2 =>
      cases r2
      obtain ⟨p, ys, rfl, hq, ra⟩ := hv.repL ok r1
      obtain rfl := ra.ints
      exact ⟨p, ns, rfl, hq, hl, fun m h1 h2 => q _ _ _ Hi H (h m h1 h2) (Same.refl _) ok (.int _)⟩) hst) hg (he := hst) (hpl := rfl)
/-- max of a tuple of ints -/
def rMaxT (K : PySem.W.Frag) : List V → Hp → VK → Prop := fun vs H Q => ∃ (a : Addr) (ns : List Int), vs = [V.ref a] ∧ SqT K H a (ns.map V.int) ∧ 0 < ns.length ∧ ∀ m, m ∈ ns → (∀ y, y ∈ ns → y ≤ m) → Q (.int m) H
theorem maxOf_spec : ∀ (ns : List Int) (n : Int), PySem.W.maxOf n ns ∈ n :: ns ∧ ∀ y ∈ n :: ns, y ≤ PySem.W.maxOf n ns
  | [], n => ⟨List.mem_cons_self, fun y hy => by
    have : y = n := by simpa using hy
    subst this
    exact Int.le_refl _⟩
  | m :: ns, n => by
    show PySem.W.maxOf (if PySem.W.DatumOrd.lt n m = true then m else n) ns ∈ _ ∧ _
    have e : PySem.W.maxOf n (m :: ns) = PySem.W.maxOf (if PySem.W.DatumOrd.lt n m = true then m else n) ns := rfl
    rw [e]
    have hlt : PySem.W.DatumOrd.lt n m = true ↔ n < m := by
      show decide (n < m) = true ↔ n < m
      exact decide_eq_true_iff
    by_cases h : PySem.W.DatumOrd.lt n m = true
    · rw [if_pos h]
      obtain ⟨h1, h2⟩ := maxOf_spec ns m
      have hnm := hlt.mp h
      refine ⟨List.mem_cons_of_mem _ h1, fun y hy => ?_⟩
      rcases List.mem_cons.mp hy with rfl | hy
      · exact Int.le_trans (Int.le_of_lt hnm) (h2 m List.mem_cons_self)
      · exact h2 y hy
    · rw [if_neg h]
      obtain ⟨h1, h2⟩ := maxOf_spec ns n
      have hnm : m ≤ n := by
        have : ¬ n < m := fun z => h (hlt.mpr z)
        omega
      refine ⟨?_, fun y hy => ?_⟩
      · rcases List.mem_cons.mp h1 with h1 | h1
        · rw [h1]
          exact List.mem_cons_self
        · exact List.mem_cons_of_mem _ (List.mem_cons_of_mem _ h1)
      · rcases List.mem_cons.mp hy with rfl | hy
        · exact h2 y List.mem_cons_self
        · rcases List.mem_cons.mp hy with rfl | hy
          · exact Int.le_trans hnm (h2 n List.mem_cons_self)
          · exact h2 y (List.mem_cons_of_mem _ hy)
theorem cr_maxT (hc : X.calm = true) (hu : X.A.units + 64 < cLine) : CallR X (.builtin "max") (rMaxT X.K) := by
  intro pins s σ H vs us Q I r h
  obtain ⟨a, ns, rfl, hs, hne, q⟩ := h
  obtain ⟨its, rv, hl, _⟩ := I.tuple hs
  obtain ⟨u, rfl, ru⟩ := vals1 r
  obtain rfl : u = Value.ref a := ru
  cases ns with
  | nil => simp at hne
  | cons m ns =>
    have dp : ∀ l : List Int, DpAll X.K H (l.map V.int) (l.map PyData.int) := fun l => by
      induction l with
      | nil => exact .nil
      | cons z l ih => exact .cons (.int z) ih
    obtain ⟨as, ra⟩ := Dp.readsAll I _ _ _ (dp (m :: ns)) rv
    refine PySem.W.max_tuple_datum (α := Int) (x := m) (xs := ns) (I.ok.hd hc) hl ⟨as, by rw [List.toList_toArray]; exact ra⟩ (by show X.A.units + 1 + 0 < cLine; omega) fun i v h' tk hv ho hk => ?_
    obtain ⟨bs, rd⟩ := ho
    obtain ⟨h1, h2⟩ := maxOf_spec ns m
    have e : ∃ t, v = Value.int (PySem.W.maxOf m ns) t := by
      have rd' : Reads h' v (.int (PySem.W.maxOf m ns)) bs := rd
      cases rd'
      exact ⟨_, rfl⟩
    obtain ⟨t, rfl⟩ := e
    exact ⟨.int (PySem.W.maxOf m ns), H, I.kept (h' := h') (t' := tk) hk, ⟨t, rfl⟩, q _ h1 h2⟩
theorem ae_maxT (hm : X.mg "max" = none) (hc : X.calm = true) (hu : X.A.units + 64 < cLine) (ha : aE X a Γ M fun d M' => ∃ ns : List Int, d = .tup (ns.map .int) ∧ 0 < ns.length ∧ ∀ m, m ∈ ns → (∀ y, y ∈ ns → y ≤ m) → P (.int m) M') (hg : Gl X "max" := by rfl) (hst : starEach [a] X.env = [(false, eval a X.env)] := by rfl) : aE X (.Call (.Name "max" p1) [a] [] pos) Γ M P :=
  ae_callB (cr_maxT hc hu) hm (by decide +kernel) (aa_cons (ha.mono fun d M' ⟨ns, hv, hl, h⟩ => aa_nil fun Hi H vs ok r Q q => by
    subst hv
    cases r with
    | cons r1 r2 =>
      cases r2
      cases r1 with
      | @tup p ys _ hq ra =>
        obtain rfl := ra.ints
        exact ⟨p, ns, rfl, sameT ok.im hq, hl, fun m h1 h2 => q _ _ _ Hi H (h m h1 h2) (Same.refl _) ok (.int _)⟩) hst) hg (he := hst) (hpl := rfl)
/-- t * n -/
theorem av_repT {xs : List Val} (ha : aV X a Γ M (.tup xs)) (hb : aV X b Γ M (.int j)) (hx : xs ≠ []) (h1 : 2 ≤ j) (h2 : j ≤ 1000) (hl : xs.length ≤ 1000) : aV X (.BinOp a .Mult b pos) Γ M (.tup (List.replicate j.toNat xs).flatten) :=
  av_op op_repT ha hb fun Hi H v w ok rv rw_ Q q => by
    cases rw_
    cases rv with
    | @tup p ys _ hq ra =>
      have rep : ∀ m : Nat, RepA X.K Hi (List.replicate m xs).flatten (List.replicate m ys).flatten := by
        intro m
        induction m with
        | zero => exact .nil
        | succ m ih =>
          rw [List.replicate_succ, List.replicate_succ, List.flatten_cons, List.flatten_cons]
          exact ra.append ih
      refine ⟨p, j, ys, rfl, rfl, sameT ok.im hq, fun z => hx ?_, h1, h2, by rw [← ra.length]; exact hl, fun l hl => ?_⟩
      · subst z
        cases ra
        rfl
      · have s2 := same_upd (o := .tup (List.replicate j.toNat ys).flatten) (ok.none hl)
        exact q _ _ _ _ _ ⟨rfl, rfl⟩ s2 (ok.imm hl) (.tup (SqT.of upd_same) ((rep _).mono s2))
end
/-! ### def f( *v) -/
section
variable {P : Program} {w : World} {K : PySem.W.Frag} {mg : Str → Option Value} {base : Heap}
/-- positional defaults fill up -/
theorem fnx_dfl {x qual : Str} {params : Arguments} {body : List Stmt} {sc : Scope} {dvs : List V} {kws : List (Str × V)} {f : Addr} {fd : FuncData} {N ps : List Str} {k n : Nat} {s0 : ASp} (F : FunD K x qual params body sc dvs kws f fd) (S : FnScope N ps sc) (hd : dvs ≠ []) (dd : List Val) (hdd : ∀ H, RepA K H dd dvs)
    (h : ∀ (T : Addr) (kV doc pm : Value) (an : Option Addr) (cdv ct : Value) (us its : List Value), us.length = n → its.length = dvs.length →
      ∃ k, bindArgs (PySem.W.fnOf x qual params body sc (.ref T) kV doc pm an cdv ct) ⟨us, []⟩ = seqItems? (.ref T) >>= k ∧ k (some its.toArray) = pure (ps.zip (us ++ its)))
    (len : ∀ ds M R, s0 ds M R → ds.length = ps.length) (hb : BodyOk P w K mg base k f N qual sc body s0) : FnX P w K mg base (k + 1) f [] (spX K fun ds _ M R => ds.length = n ∧ s0 (ds ++ dd) M R) := by
  obtain ⟨oc, od, dV, kV, doc, pm, an, cdv, ct, osl, e, lk, hcd, hD, hK⟩ := F.ex
  rcases hD with ⟨e, _⟩ | ⟨_, T, o, its, m, e2, lT, oT, rT⟩
  · exact absurd e hd
  · subst e2
    subst e
    have l1 : its.length = dvs.length := rT.length.symm
    refine fnx_kbn (n := n) (ks := []) (fun ds _ => ds ++ dd) F S (g := fun us _ => us ++ its) (gV := fun vs _ => vs ++ dvs) ⟨fun s us ws X l2 h2 => ?_, fun r1 _ => r1.append rT⟩ (fun H ds vs es zs r _ _ _ => r.append (hdd H)) len hb
    obtain rfl := List.length_eq_zero_iff.mp h2
    obtain ⟨k', e1, e2⟩ := h T kV doc pm an cdv ct us its l2 l1
    refine BindsTo.of_looks fun M => ?_
    show PySem.W.Looks M s.heap (bindArgs _ ⟨us, []⟩) _
    rw [e1]
    exact looks_items X lT oT (.of_pure e2)
end
end Ab
/-! streams: a front and a loop; the normal form is one -/
namespace Sm
abbrev Stm := List Int × List Int
def lp (l : List Int) (i : Nat) : Int := l.getD (i % l.length) 0
def item (s : Stm) (i : Nat) : Int := if i < s.1.length then s.1.getD i 0 else lp s.2 (i - s.1.length)
theorem gd_eq {l : List Int} {i : Nat} (h : i < l.length) : l.getD i 0 = l[i] := by
  rw [List.getD_eq_getElem?_getD, List.getElem?_eq_getElem h]
  rfl
theorem ext_gd {l m : List Int} (hl : l.length = m.length) (h : ∀ i, i < l.length → l.getD i 0 = m.getD i 0) : l = m := by
  apply List.ext_getElem hl
  intro i h1 h2
  have := h i h1
  rwa [gd_eq h1, gd_eq h2] at this
theorem lp_add {l : List Int} (i : Nat) : lp l (i + l.length) = lp l i := by
  unfold lp
  rw [Nat.add_mod_right]
theorem lp_lt {l : List Int} {i : Nat} (h : i < l.length) : lp l i = l.getD i 0 := by
  unfold lp
  rw [Nat.mod_eq_of_lt h]
/-! ### periods -/
theorem per_mul {h : Nat → Int} {p : Nat} (hp : ∀ i, h (i + p) = h i) : ∀ (k i : Nat), h (i + p * k) = h i
  | 0, i => by rw [Nat.mul_zero, Nat.add_zero]
  | k + 1, i => by
    rw [Nat.mul_succ, ← Nat.add_assoc, hp, per_mul hp k]
theorem per_mod {h : Nat → Int} {p : Nat} (hp : ∀ i, h (i + p) = h i) (i : Nat) : h (i % p) = h i := by
  have := per_mul hp (i / p) (i % p)
  rw [Nat.mod_add_div] at this
  exact this.symm
theorem per_gcd {h : Nat → Int} (p q : Nat) (hp : ∀ i, h (i + p) = h i) (hq : ∀ i, h (i + q) = h i) : ∀ i, h (i + Nat.gcd p q) = h i := by
  induction p, q using Nat.gcd.induction with
  | H0 q => rw [Nat.gcd_zero_left]; exact hq
  | H1 m n hm ih =>
    rw [Nat.gcd_rec]
    refine ih (fun i => ?_) hp
    have e := per_mul hp (n / m) (i + n % m)
    rw [Nat.add_assoc, Nat.mod_add_div] at e
    rw [← e]
    exact hq i
/-- no smaller period that divides the length -/
def prim (l : List Int) : Prop := ∀ p, 0 < p → p < l.length → p ∣ l.length → ¬ ∀ i, lp l (i + p) = lp l i
def last0 (l : List Int) : Int := l.getD (l.length - 1) 0
structure NF (s : Stm) : Prop where
  ne : s.2 ≠ []
  pr : prim s.2
  fr : s.1 = [] ∨ last0 s.1 ≠ last0 s.2
theorem prim_per {l : List Int} (hn : l ≠ []) (hp : prim l) {d : Nat} (h0 : 0 < d) (hd : d ∣ l.length) (h : ∀ i, lp l (i + d) = lp l i) : d = l.length := by
  have hl : 0 < l.length := List.length_pos_iff.mpr hn
  have := Nat.le_of_dvd hl hd
  rcases Nat.lt_or_ge d l.length with h1 | h1
  · exact absurd h (hp d h0 h1 hd)
  · omega
theorem item_ge {s : Stm} {i : Nat} (h : s.1.length ≤ i) : item s i = lp s.2 (i - s.1.length) := by
  unfold item
  rw [if_neg (by omega)]
theorem item_lt {s : Stm} {i : Nat} (h : i < s.1.length) : item s i = s.1.getD i 0 := by
  unfold item
  rw [if_pos h]
theorem uniq_le {s t : Stm} (hs : NF s) (ht : NF t) (h : ∀ i, item s i = item t i) (hle : s.1.length ≤ t.1.length) : s = t := by
  have ps : 0 < s.2.length := List.length_pos_iff.mpr hs.ne
  have pt : 0 < t.2.length := List.length_pos_iff.mpr ht.ne
  generalize hc : t.1.length - s.1.length = c
  -- behind t's front
  have hh : ∀ i, lp s.2 (i + c) = lp t.2 i := fun i => by
    have := h (i + t.1.length)
    rw [item_ge (by omega), item_ge (by omega)] at this
    rw [show i + t.1.length - s.1.length = i + c by omega, Nat.add_sub_cancel] at this
    exact this
  have per1 : ∀ i, lp t.2 (i + s.2.length) = lp t.2 i := fun i => by
    rw [← hh, ← hh, show i + s.2.length + c = i + c + s.2.length by omega, lp_add]
  have d1 := per_gcd _ _ per1 (fun i => lp_add (l := t.2) i)
  have dpos : 0 < Nat.gcd s.2.length t.2.length := Nat.gcd_pos_of_pos_left _ ps
  have e1 := prim_per ht.ne ht.pr dpos (Nat.gcd_dvd_right _ _) d1
  have d2 : ∀ i, lp s.2 (i + Nat.gcd s.2.length t.2.length) = lp s.2 i := fun i => by
    have k : ∀ j, lp s.2 j = lp t.2 (j + s.2.length * c - c) := fun j => by
      have hc' : c ≤ s.2.length * c := Nat.le_mul_of_pos_left _ ps
      rw [← hh, show j + s.2.length * c - c + c = j + s.2.length * c by omega]
      exact (per_mul (fun i => lp_add (l := s.2) i) c j).symm
    have hc' : c ≤ s.2.length * c := Nat.le_mul_of_pos_left _ ps
    rw [k, k, show i + Nat.gcd s.2.length t.2.length + s.2.length * c - c = (i + s.2.length * c - c) + Nat.gcd s.2.length t.2.length by omega, d1]
  have e2 := prim_per hs.ne hs.pr dpos (Nat.gcd_dvd_left _ _) d2
  have hpq : s.2.length = t.2.length := e2.symm.trans e1
  have hc0 : c = 0 := by
    rcases Nat.eq_zero_or_pos c with z | z
    · exact z
    · exfalso
      have hN : 0 < t.1.length := by omega
      rcases ht.fr with q | q
      · rw [q] at hN
        exact absurd hN (by simp)
      · refine q ?_
        have a1 := h (t.1.length - 1)
        rw [item_ge (by omega), item_lt (by omega)] at a1
        have a2 := hh (t.2.length - 1)
        rw [show t.2.length - 1 + c = (c - 1) + s.2.length by omega, lp_add, lp_lt (l := t.2) (by omega)] at a2
        rw [show t.1.length - 1 - s.1.length = c - 1 by omega] at a1
        show t.1.getD (t.1.length - 1) 0 = t.2.getD (t.2.length - 1) 0
        rw [← a1, ← a2]
  have hl : s.1.length = t.1.length := by omega
  have f1 : s.1 = t.1 := ext_gd hl fun i hi => by
    have := h i
    rwa [item_lt hi, item_lt (hl ▸ hi)] at this
  have f2 : s.2 = t.2 := ext_gd hpq fun i hi => by
    have := hh i
    rw [hc0, Nat.add_zero, lp_lt hi, lp_lt (hpq ▸ hi)] at this
    exact this
  exact Prod.ext f1 f2
theorem uniq {s t : Stm} (hs : NF s) (ht : NF t) (h : ∀ i, item s i = item t i) : s = t := by
  rcases Nat.le_total s.1.length t.1.length with q | q
  · exact uniq_le hs ht h q
  · exact (uniq_le ht hs (fun i => (h i).symm) q).symm
/-! ### the program's way there -/
def cyc (t : List Int) (m : Nat) : List Int := (List.replicate m t).flatten
theorem cyc_succ (t : List Int) (m : Nat) : cyc t (m + 1) = t ++ cyc t m := by
  unfold cyc
  rw [List.replicate_succ, List.flatten_cons]
theorem cyc_len (t : List Int) : ∀ m, (cyc t m).length = m * t.length
  | 0 => by simp [cyc]
  | m + 1 => by
    rw [cyc_succ, List.length_append, cyc_len t m, Nat.succ_mul, Nat.add_comm]
theorem cyc_get (t : List Int) : ∀ (m i : Nat), i < m * t.length → (cyc t m).getD i 0 = lp t i
  | 0, i, h => by simp at h
  | m + 1, i, h => by
    rw [cyc_succ, List.getD_eq_getElem?_getD]
    by_cases hi : i < t.length
    · rw [List.getElem?_append_left hi, lp_lt hi, List.getD_eq_getElem?_getD]
    · have hi' : t.length ≤ i := by omega
      rw [List.getElem?_append_right hi', ← List.getD_eq_getElem?_getD, cyc_get t m (i - t.length) (by rw [Nat.succ_mul] at h; omega)]
      have := lp_add (l := t) (i - t.length)
      rw [Nat.sub_add_cancel hi'] at this
      exact this.symm
/-- the loop is its first p items over and over -/
def isRep (l : List Int) (p : Nat) : Bool := decide (l.length % p = 0) && decide (l = cyc (l.take p) (l.length / p))
def slFrom (l : List Int) : Nat → Nat → List Int
  | 0, _ => l
  | c + 1, p => if isRep l p = true then l.take p else slFrom l c (p + 1)
def sloop (l : List Int) : List Int := slFrom l (l.length - 1) 1
theorem take_len {l : List Int} {p : Nat} (h : p ≤ l.length) : (l.take p).length = p := by rw [List.length_take]; omega
theorem isRep_iff {l : List Int} {p : Nat} (h0 : 0 < p) (h1 : p < l.length) : isRep l p = true ↔ p ∣ l.length ∧ ∀ i, lp l (i + p) = lp l i := by
  unfold isRep
  rw [Bool.and_eq_true, decide_eq_true_iff, decide_eq_true_iff, ← Nat.dvd_iff_mod_eq_zero]
  have tl := take_len (Nat.le_of_lt h1)
  refine ⟨fun ⟨hd, he⟩ => ⟨hd, ?_⟩, fun ⟨hd, hp⟩ => ⟨hd, ?_⟩⟩
  · have hm : l.length / p * p = l.length := Nat.div_mul_cancel hd
    have g : ∀ i, i < l.length → l.getD i 0 = lp (l.take p) i := fun i hi => by
      have := cyc_get (l.take p) (l.length / p) i (by rw [tl, hm]; exact hi)
      rw [← he] at this
      exact this
    have g2 : ∀ i, lp l i = lp (l.take p) i := fun i => by
      unfold lp
      have hl : 0 < l.length := by omega
      have hi := Nat.mod_lt i hl
      have := g _ hi
      unfold lp at this
      rw [this, tl, Nat.mod_mod_of_dvd _ hd]
    intro i
    rw [g2, g2]
    have := lp_add (l := l.take p) i
    rw [tl] at this
    exact this
  · have hm : l.length / p * p = l.length := Nat.div_mul_cancel hd
    refine ext_gd (by rw [cyc_len, tl, hm]) fun i hi => ?_
    rw [cyc_get _ _ _ (by rw [tl, hm]; exact hi)]
    have := per_mod hp i
    rw [lp_lt hi, lp_lt (Nat.lt_trans (Nat.mod_lt i h0) h1)] at this
    rw [← this]
    unfold lp
    rw [tl, List.getD_eq_getElem?_getD, List.getD_eq_getElem?_getD, List.getElem?_take_of_lt (Nat.mod_lt i h0)]
theorem lp_take {l : List Int} {p : Nat} (h0 : 0 < p) (h1 : p < l.length) (hp : ∀ i, lp l (i + p) = lp l i) (i : Nat) : lp (l.take p) i = lp l i := by
  have tl := take_len (Nat.le_of_lt h1)
  have hm := Nat.mod_lt i h0
  rw [← per_mod hp i, lp_lt (Nat.lt_trans hm h1)]
  unfold lp
  rw [tl, List.getD_eq_getElem?_getD, List.getD_eq_getElem?_getD, List.getElem?_take_of_lt hm]
/-- what the search has behind it -/
theorem slFrom_spec {l : List Int} (hn : l ≠ []) : ∀ (c p : Nat), 0 < p → c + p = l.length → (∀ q, 0 < q → q < p → q ∣ l.length → ¬ ∀ i, lp l (i + q) = lp l i) →
    slFrom l c p ≠ [] ∧ prim (slFrom l c p) ∧ (∀ i, lp (slFrom l c p) i = lp l i) ∧ (slFrom l c p).length ≤ l.length ∧ ∀ v ∈ slFrom l c p, v ∈ l
  | 0, p, h0, hc, hb => by
    refine ⟨hn, fun q q0 q1 => hb q q0 ?_, fun _ => rfl, Nat.le_refl _, fun v h => h⟩
    have : slFrom l 0 p = l := rfl
    rw [this] at q1
    omega
  | c + 1, p, h0, hc, hb => by
    unfold slFrom
    have h1 : p < l.length := by omega
    by_cases hr : isRep l p = true
    · rw [if_pos hr]
      obtain ⟨hd, hp⟩ := (isRep_iff h0 h1).mp hr
      have tl := take_len (Nat.le_of_lt h1)
      refine ⟨fun z => ?_, fun q q0 q1 qd hq => ?_, lp_take h0 h1 hp, by omega, fun v hv => List.mem_of_mem_take hv⟩
      · rw [z] at tl
        simp at tl
        omega
      · rw [tl] at q1 qd
        refine hb q q0 q1 (Nat.dvd_trans qd hd) fun i => ?_
        have := hq i
        rwa [lp_take h0 h1 hp, lp_take h0 h1 hp] at this
    · rw [if_neg hr]
      refine slFrom_spec hn c (p + 1) (by omega) (by omega) fun q q0 q1 qd hq => ?_
      rcases Nat.lt_or_ge q p with z | z
      · exact hb q q0 z qd hq
      · have : q = p := by omega
        subst this
        exact hr ((isRep_iff h0 h1).mpr ⟨qd, hq⟩)
theorem sloop_spec {l : List Int} (hn : l ≠ []) : sloop l ≠ [] ∧ prim (sloop l) ∧ (∀ i, lp (sloop l) i = lp l i) ∧ (sloop l).length ≤ l.length ∧ ∀ v ∈ sloop l, v ∈ l := by
  have hl : 0 < l.length := List.length_pos_iff.mpr hn
  exact slFrom_spec hn _ _ (by decide) (by omega) fun q q0 q1 => by omega
def rotR (l : List Int) : List Int := last0 l :: l.dropLast
def nfGo : Nat → List Int → List Int → Stm
  | 0, f, l => (f, l)
  | c + 1, f, l => if f ≠ [] ∧ last0 f = last0 l then nfGo c f.dropLast (rotR l) else (f, l)
def nf (s : Stm) : Stm := nfGo s.1.length s.1 (sloop s.2)
theorem rot_len {l : List Int} (hn : l ≠ []) : (rotR l).length = l.length := by
  have hl : 0 < l.length := List.length_pos_iff.mpr hn
  unfold rotR
  rw [List.length_cons, List.length_dropLast]
  omega
theorem last_mem {l : List Int} (hn : l ≠ []) : last0 l ∈ l := by
  have hl : 0 < l.length := List.length_pos_iff.mpr hn
  unfold last0
  rw [gd_eq (by omega)]
  exact List.getElem_mem _
theorem mem_dl {l : List Int} {v : Int} (h : v ∈ l.dropLast) : v ∈ l := by
  rw [List.dropLast_eq_take] at h
  exact List.mem_of_mem_take h
theorem rot_mem {l : List Int} (hn : l ≠ []) {v : Int} (h : v ∈ rotR l) : v ∈ l := by
  rcases List.mem_cons.mp h with rfl | h
  · exact last_mem hn
  · exact mem_dl h
theorem gd_dropLast {l : List Int} {i : Nat} (h : i < l.length - 1) : l.dropLast.getD i 0 = l.getD i 0 := by
  rw [gd_eq (by rw [List.length_dropLast]; exact h), gd_eq (by omega), List.getElem_dropLast]
theorem rot_lp {l : List Int} (hn : l ≠ []) (i : Nat) : lp (rotR l) (i + 1) = lp l i := by
  have hl : 0 < l.length := List.length_pos_iff.mpr hn
  have hr := rot_len hn
  have hm := Nat.mod_lt i hl
  have k : ∀ j, j < l.length → lp (rotR l) (j + 1) = lp l j := fun j hj => by
    by_cases z : j + 1 < l.length
    · rw [lp_lt (by omega), lp_lt hj]
      show (last0 l :: l.dropLast).getD (j + 1) 0 = _
      rw [List.getD_cons_succ, gd_dropLast (by omega)]
    · have e : j = l.length - 1 := by omega
      subst e
      have : lp (rotR l) (l.length - 1 + 1) = lp (rotR l) 0 := by
        have := lp_add (l := rotR l) 0
        rw [hr] at this
        rw [show l.length - 1 + 1 = 0 + l.length by omega]
        exact this
      rw [this, lp_lt (by omega), lp_lt hj]
      rfl
  have e1 : lp l i = lp l (i % l.length) := (per_mod (fun i => lp_add (l := l) i) i).symm
  rw [e1, ← k _ hm]
  have := per_mul (h := fun j => lp (rotR l) (j + 1)) (p := l.length) (fun j => by
    have := lp_add (l := rotR l) (j + 1)
    rw [hr] at this
    show lp (rotR l) (j + l.length + 1) = _
    rw [show j + l.length + 1 = j + 1 + l.length by omega]
    exact this) (i / l.length) (i % l.length)
  rw [Nat.mod_add_div] at this
  exact this
theorem rot_prim {l : List Int} (hn : l ≠ []) (hp : prim l) : prim (rotR l) := fun q q0 q1 qd hq => by
  rw [rot_len hn] at q1 qd
  refine hp q q0 q1 qd fun i => ?_
  have := hq (i + 1)
  rw [show i + 1 + q = i + q + 1 by omega, rot_lp hn, rot_lp hn] at this
  exact this
theorem step_item {f l : List Int} (hf : f ≠ []) (hn : l ≠ []) (he : last0 f = last0 l) (i : Nat) : item (f.dropLast, rotR l) i = item (f, l) i := by
  have hl : 0 < f.length := List.length_pos_iff.mpr hf
  have h2 : 0 < l.length := List.length_pos_iff.mpr hn
  have hd : f.dropLast.length = f.length - 1 := List.length_dropLast
  by_cases h : i < f.length - 1
  · rw [item_lt (by show i < f.dropLast.length; omega), item_lt (by show i < f.length; omega)]
    exact gd_dropLast h
  · rw [item_ge (by show f.dropLast.length ≤ i; omega)]
    show lp (rotR l) (i - f.dropLast.length) = _
    rw [hd]
    by_cases z : i = f.length - 1
    · subst z
      rw [Nat.sub_self, item_lt (by show f.length - 1 < f.length; omega), lp_lt (by rw [rot_len hn]; exact h2)]
      exact he.symm
    · rw [item_ge (by show f.length ≤ i; omega), show i - (f.length - 1) = (i - f.length) + 1 by omega, rot_lp hn]
theorem nfGo_spec : ∀ (c : Nat) (f l : List Int), f.length ≤ c → l ≠ [] → prim l → NF (nfGo c f l) ∧ (∀ i, item (nfGo c f l) i = item (f, l) i) ∧ (nfGo c f l).1.length ≤ f.length ∧ (nfGo c f l).2.length = l.length ∧ (∀ v ∈ (nfGo c f l).1, v ∈ f) ∧ ∀ v ∈ (nfGo c f l).2, v ∈ l
  | 0, f, l, hc, hn, hp => by
    have e : f = [] := List.length_eq_zero_iff.mp (Nat.le_zero.mp hc)
    subst e
    exact ⟨⟨hn, hp, .inl rfl⟩, fun _ => rfl, Nat.le_refl _, rfl, fun _ h => h, fun _ h => h⟩
  | c + 1, f, l, hc, hn, hp => by
    unfold nfGo
    by_cases h : f ≠ [] ∧ last0 f = last0 l
    · rw [if_pos h]
      have hl : 0 < f.length := List.length_pos_iff.mpr h.1
      have hr : rotR l ≠ [] := fun z => by
        unfold rotR at z
        cases z
      obtain ⟨h1, h2, h3, h4, h5, h6⟩ := nfGo_spec c f.dropLast (rotR l) (by rw [List.length_dropLast]; omega) hr (rot_prim hn hp)
      exact ⟨h1, fun i => (h2 i).trans (step_item h.1 hn h.2 i), by rw [List.length_dropLast] at h3; omega, h4.trans (rot_len hn), fun v hv => mem_dl (h5 v hv), fun v hv => rot_mem hn (h6 v hv)⟩
    · rw [if_neg h]
      refine ⟨⟨hn, hp, ?_⟩, fun _ => rfl, Nat.le_refl _, rfl, fun _ h => h, fun _ h => h⟩
      by_cases z : f = []
      · exact .inl z
      · exact .inr fun e => h ⟨z, e⟩
structure NfS (s t : Stm) : Prop where
  nf : NF t
  it : ∀ i, item t i = item s i
  l1 : t.1.length ≤ s.1.length
  l2 : t.2.length ≤ s.2.length
  m1 : ∀ v ∈ t.1, v ∈ s.1
  m2 : ∀ v ∈ t.2, v ∈ s.2
theorem nf_spec {s : Stm} (hn : s.2 ≠ []) : NfS s (nf s) := by
  obtain ⟨a1, a2, a3, a4, a5⟩ := sloop_spec hn
  obtain ⟨h1, h2, h3, h4, h5, h6⟩ := nfGo_spec s.1.length s.1 (sloop s.2) (Nat.le_refl _) a1 a2
  refine ⟨h1, fun i => (h2 i).trans ?_, h3, h4 ▸ a4, h5, fun v hv => a5 v (h6 v hv)⟩
  unfold item
  by_cases z : i < s.1.length
  · rw [if_pos z, if_pos z]
  · rw [if_neg z, if_neg z]
    exact a3 _
theorem nf_of {s t : Stm} (hs : s.2 ≠ []) (ht : NF t) (h : ∀ i, item s i = item t i) : nf s = t :=
  uniq (nf_spec hs).nf ht fun i => by rw [(nf_spec hs).it, h]
theorem nf_nf {s : Stm} (h : NF s) : nf s = s := nf_of h.ne h fun _ => rfl
end Sm
namespace K39
open PySem L2 Ab
def topS (i : Nat) : Stmt := PySem.Challenge.pw_nestcount_k39_places_read.main.body.getD i (.Pass ⟨0, 0, 0, 0⟩)
abbrev c_InvalidNumber___init__ : Stmt := inClass (topS 4) 0
abbrev n_InvalidNumber___init__ : List Str := ["self", "number"]
theorem q_InvalidNumber___init__ : FnScope n_InvalidNumber___init__ ["self", "number"] (defScope c_InvalidNumber___init__) := ⟨rfl, rfl, rfl, by decide +kernel, rfl, by decide +kernel, by decide +kernel⟩
abbrev c_InvalidValues___init__ : Stmt := inClass (topS 5) 0
abbrev n_InvalidValues___init__ : List Str := ["self", "index"]
theorem q_InvalidValues___init__ : FnScope n_InvalidValues___init__ ["self", "index"] (defScope c_InvalidValues___init__) := ⟨rfl, rfl, rfl, by decide +kernel, rfl, by decide +kernel, by decide +kernel⟩
abbrev c_InvalidRecurrence___init__ : Stmt := inClass (topS 6) 0
abbrev n_InvalidRecurrence___init__ : List Str := ["self", "part"]
theorem q_InvalidRecurrence___init__ : FnScope n_InvalidRecurrence___init__ ["self", "part"] (defScope c_InvalidRecurrence___init__) := ⟨rfl, rfl, rfl, by decide +kernel, rfl, by decide +kernel, by decide +kernel⟩
abbrev c_Dead___init__ : Stmt := inClass (topS 9) 0
abbrev n_Dead___init__ : List Str := ["self", "index"]
theorem q_Dead___init__ : FnScope n_Dead___init__ ["self", "index"] (defScope c_Dead___init__) := ⟨rfl, rfl, rfl, by decide +kernel, rfl, by decide +kernel, by decide +kernel⟩
abbrev s_is_integer : Stmt := topS 17
abbrev n_is_integer : List Str := ["value", "low", "high"]
theorem q_is_integer : FnScope n_is_integer ["value", "low", "high"] (defScope s_is_integer) := ⟨rfl, rfl, rfl, by decide +kernel, rfl, by decide +kernel, by decide +kernel⟩
abbrev s_check_integer : Stmt := topS 18
abbrev n_check_integer : List Str := ["value", "low", "high"]
theorem q_check_integer : FnScope n_check_integer ["value", "low", "high"] (defScope s_check_integer) := ⟨rfl, rfl, rfl, by decide +kernel, rfl, by decide +kernel, by decide +kernel⟩
abbrev s_are_items : Stmt := topS 19
abbrev n_are_items : List Str := ["value", "least_size", "most_size", "item"]
theorem q_are_items : FnScope n_are_items ["value", "least_size", "most_size"] (defScope s_are_items) := ⟨rfl, rfl, rfl, by decide +kernel, rfl, by decide +kernel, by decide +kernel⟩
abbrev s_shortest_loop : Stmt := topS 20
abbrev n_shortest_loop : List Str := ["loop", "size"]
theorem q_shortest_loop : FnScope n_shortest_loop ["loop"] (defScope s_shortest_loop) := ⟨rfl, rfl, rfl, by decide +kernel, rfl, by decide +kernel, by decide +kernel⟩
abbrev s_normal_form : Stmt := topS 21
abbrev n_normal_form : List Str := ["front", "loop"]
theorem q_normal_form : FnScope n_normal_form ["front", "loop"] (defScope s_normal_form) := ⟨rfl, rfl, rfl, by decide +kernel, rfl, by decide +kernel, by decide +kernel⟩
abbrev s_stream_item : Stmt := topS 22
abbrev n_stream_item : List Str := ["stream", "index", "front", "loop"]
theorem q_stream_item : FnScope n_stream_item ["stream", "index"] (defScope s_stream_item) := ⟨rfl, rfl, rfl, by decide +kernel, rfl, by decide +kernel, by decide +kernel⟩
abbrev s_stream_without : Stmt := topS 23
abbrev n_stream_without : List Str := ["stream", "count", "front", "loop", "shift"]
theorem q_stream_without : FnScope n_stream_without ["stream", "count"] (defScope s_stream_without) := ⟨rfl, rfl, rfl, by decide +kernel, rfl, by decide +kernel, by decide +kernel⟩
abbrev s_checked_stream : Stmt := topS 24
abbrev n_checked_stream : List Str := ["stream", "front", "loop"]
theorem q_checked_stream : FnScope n_checked_stream ["stream"] (defScope s_checked_stream) := ⟨rfl, rfl, rfl, by decide +kernel, rfl, by decide +kernel, by decide +kernel⟩
abbrev s_made_schedule : Stmt := topS 25
abbrev n_made_schedule : List Str := ["arity", "spine", "levels"]
theorem q_made_schedule : FnScope n_made_schedule ["arity", "spine", "levels"] (defScope s_made_schedule) := ⟨rfl, rfl, rfl, by decide +kernel, rfl, by decide +kernel, by decide +kernel⟩
abbrev c_Schedule___init__ : Stmt := inClass (topS 27) 4
abbrev n_Schedule___init__ : List Str := ["self", "arity", "spine", "levels"]
theorem q_Schedule___init__ : FnScope n_Schedule___init__ ["self", "arity", "spine", "levels"] (defScope c_Schedule___init__) := ⟨rfl, rfl, rfl, by decide +kernel, rfl, by decide +kernel, by decide +kernel⟩
abbrev c_Schedule_is_stream : Stmt := inClass (topS 27) 5
abbrev n_Schedule_is_stream : List Str := ["value"]
theorem q_Schedule_is_stream : FnScope n_Schedule_is_stream ["value"] (defScope c_Schedule_is_stream) := ⟨rfl, rfl, rfl, by decide +kernel, rfl, by decide +kernel, by decide +kernel⟩
abbrev c_Schedule_arity : Stmt := inClass (topS 27) 8
abbrev n_Schedule_arity : List Str := ["self"]
theorem q_Schedule_arity : FnScope n_Schedule_arity ["self"] (defScope c_Schedule_arity) := ⟨rfl, rfl, rfl, by decide +kernel, rfl, by decide +kernel, by decide +kernel⟩
abbrev c_Schedule_spine : Stmt := inClass (topS 27) 9
abbrev n_Schedule_spine : List Str := ["self"]
theorem q_Schedule_spine : FnScope n_Schedule_spine ["self"] (defScope c_Schedule_spine) := ⟨rfl, rfl, rfl, by decide +kernel, rfl, by decide +kernel, by decide +kernel⟩
abbrev c_Schedule_levels : Stmt := inClass (topS 27) 10
abbrev n_Schedule_levels : List Str := ["self"]
theorem q_Schedule_levels : FnScope n_Schedule_levels ["self"] (defScope c_Schedule_levels) := ⟨rfl, rfl, rfl, by decide +kernel, rfl, by decide +kernel, by decide +kernel⟩
abbrev c_Schedule_spine_at : Stmt := inClass (topS 27) 12
abbrev n_Schedule_spine_at : List Str := ["self", "index"]
theorem q_Schedule_spine_at : FnScope n_Schedule_spine_at ["self", "index"] (defScope c_Schedule_spine_at) := ⟨rfl, rfl, rfl, by decide +kernel, rfl, by decide +kernel, by decide +kernel⟩
abbrev c_Schedule_level_at : Stmt := inClass (topS 27) 13
abbrev n_Schedule_level_at : List Str := ["self", "height"]
theorem q_Schedule_level_at : FnScope n_Schedule_level_at ["self", "height"] (defScope c_Schedule_level_at) := ⟨rfl, rfl, rfl, by decide +kernel, rfl, by decide +kernel, by decide +kernel⟩
abbrev c_Schedule_pruned : Stmt := inClass (topS 27) 16
abbrev n_Schedule_pruned : List Str := ["self", "rounds", "level", "spine", "levels"]
theorem q_Schedule_pruned : FnScope n_Schedule_pruned ["self", "rounds"] (defScope c_Schedule_pruned) := ⟨rfl, rfl, rfl, by decide +kernel, rfl, by decide +kernel, by decide +kernel⟩
abbrev c_Schedule___eq__ : Stmt := inClass (topS 27) 22
abbrev n_Schedule___eq__ : List Str := ["self", "other"]
theorem q_Schedule___eq__ : FnScope n_Schedule___eq__ ["self", "other"] (defScope c_Schedule___eq__) := ⟨rfl, rfl, rfl, by decide +kernel, rfl, by decide +kernel, by decide +kernel⟩
abbrev s_is_whole : Stmt := topS 29
abbrev n_is_whole : List Str := ["value", "least", "most"]
theorem q_is_whole : FnScope n_is_whole ["value", "least", "most"] (defScope s_is_whole) := ⟨rfl, rfl, rfl, by decide +kernel, rfl, by decide +kernel, by decide +kernel⟩
abbrev s_check_levels : Stmt := topS 31
abbrev n_check_levels : List Str := ["schedule", "front", "loop", "height"]
theorem q_check_levels : FnScope n_check_levels ["schedule"] (defScope s_check_levels) := ⟨rfl, rfl, rfl, by decide +kernel, rfl, by decide +kernel, by decide +kernel⟩
abbrev s_pruned_chain : Stmt := topS 32
abbrev n_pruned_chain : List Str := ["schedule", "chain", "same", "index", "one"]
theorem q_pruned_chain : FnScope n_pruned_chain ["schedule"] (defScope s_pruned_chain) := ⟨rfl, rfl, rfl, by decide +kernel, rfl, by decide +kernel, by decide +kernel⟩
abbrev c_Member___init__ : Stmt := inClass (topS 33) 0
abbrev n_Member___init__ : List Str := ["self", "schedule", "arity", "base", "index"]
theorem q_Member___init__ : FnScope n_Member___init__ ["self", "schedule"] (defScope c_Member___init__) := ⟨rfl, rfl, rfl, by decide +kernel, rfl, by decide +kernel, by decide +kernel⟩
abbrev c_Member_begin : Stmt := inClass (topS 33) 1
abbrev n_Member_begin : List Str := ["self", "n", "place"]
theorem q_Member_begin : FnScope n_Member_begin ["self"] (defScope c_Member_begin) := ⟨rfl, rfl, rfl, by decide +kernel, rfl, by decide +kernel, by decide +kernel⟩
abbrev c_Member_add : Stmt := inClass (topS 33) 2
abbrev n_Member_add : List Str := ["self", "count"]
theorem q_Member_add : FnScope n_Member_add ["self", "count"] (defScope c_Member_add) := ⟨rfl, rfl, rfl, by decide +kernel, rfl, by decide +kernel, by decide +kernel⟩
abbrev c_Member_pruned_place : Stmt := inClass (topS 33) 3
abbrev n_Member_pruned_place : List Str := ["self", "label", "others"]
theorem q_Member_pruned_place : FnScope n_Member_pruned_place ["self", "label"] (defScope c_Member_pruned_place) := ⟨rfl, rfl, rfl, by decide +kernel, rfl, by decide +kernel, by decide +kernel⟩
abbrev c_Member_places_at : Stmt := inClass (topS 33) 4
abbrev n_Member_places_at : List Str := ["self", "n", "arity", "index"]
theorem q_Member_places_at : FnScope n_Member_places_at ["self", "n", "arity"] (defScope c_Member_places_at) := ⟨rfl, rfl, rfl, by decide +kernel, rfl, by decide +kernel, by decide +kernel⟩
abbrev c_System___init__ : Stmt := inClass (topS 34) 2
abbrev n_System___init__ : List Str := ["self", "schedule", "one", "member"]
theorem q_System___init__ : FnScope n_System___init__ ["self", "schedule"] (defScope c_System___init__) := ⟨rfl, rfl, rfl, by decide +kernel, rfl, by decide +kernel, by decide +kernel⟩
abbrev c_System_size : Stmt := inClass (topS 34) 3
abbrev n_System_size : List Str := ["self"]
theorem q_System_size : FnScope n_System_size ["self"] (defScope c_System_size) := ⟨rfl, rfl, rfl, by decide +kernel, rfl, by decide +kernel, by decide +kernel⟩
abbrev c_System_thresholds : Stmt := inClass (topS 34) 6
abbrev n_System_thresholds : List Str := ["self", "member"]
theorem q_System_thresholds : FnScope n_System_thresholds ["self"] (defScope c_System_thresholds) := ⟨rfl, rfl, rfl, by decide +kernel, rfl, by decide +kernel, by decide +kernel⟩
abbrev c_System_read_by : Stmt := inClass (topS 34) 7
abbrev n_System_read_by : List Str := ["self", "index"]
theorem q_System_read_by : FnScope n_System_read_by ["self", "index"] (defScope c_System_read_by) := ⟨rfl, rfl, rfl, by decide +kernel, rfl, by decide +kernel, by decide +kernel⟩
abbrev c_System_extend : Stmt := inClass (topS 34) 8
abbrev n_System_extend : List Str := ["self", "n", "number", "member", "index", "source", "places", "place"]
theorem q_System_extend : FnScope n_System_extend ["self", "n"] (defScope c_System_extend) := ⟨rfl, rfl, rfl, by decide +kernel, rfl, by decide +kernel, by decide +kernel⟩
abbrev c_System_places_read : Stmt := inClass (topS 34) 11
abbrev n_System_places_read : List Str := ["self", "index", "n"]
theorem q_System_places_read : FnScope n_System_places_read ["self", "index", "n"] (defScope c_System_places_read) := ⟨rfl, rfl, rfl, by decide +kernel, rfl, by decide +kernel, by decide +kernel⟩
abbrev s__law_begin : Stmt := topS 36
abbrev n__law_begin : List Str := ["_law_script", "_law_spot", "_law_cell"]
theorem q__law_begin : FnScope n__law_begin ["_law_script", "_law_spot"] (defScope s__law_begin) := ⟨rfl, rfl, rfl, by decide +kernel, rfl, by decide +kernel, by decide +kernel⟩
abbrev s__law_draw : Stmt := topS 37
abbrev n__law_draw : List Str := ["_law_state", "_law_size", "_law_found"]
theorem q__law_draw : FnScope n__law_draw ["_law_state", "_law_size"] (defScope s__law_draw) := ⟨rfl, rfl, rfl, by decide +kernel, rfl, by decide +kernel, by decide +kernel⟩
abbrev s__law_places : Stmt := topS 38
abbrev n__law_places : List Str := ["_law_fan", "_law_stems", "_law_tiers", "_law_last", "_law_found", "_law_leaf", "_law_rest", "_law_height", "_law_step"]
theorem q__law_places : FnScope n__law_places ["_law_fan", "_law_stems", "_law_tiers", "_law_last"] (defScope s__law_places) := ⟨rfl, rfl, rfl, by decide +kernel, rfl, by decide +kernel, by decide +kernel⟩
abbrev s__law_counts : Stmt := topS 39
abbrev n__law_counts : List Str := ["_law_fan", "_law_stems", "_law_tiers", "_law_last", "_law_found", "_law_counts_here", "_law_at", "_law_label"]
theorem q__law_counts : FnScope n__law_counts ["_law_fan", "_law_stems", "_law_tiers", "_law_last"] (defScope s__law_counts) := ⟨rfl, rfl, rfl, by decide +kernel, rfl, by decide +kernel, by decide +kernel⟩
abbrev s__law_stream : Stmt := topS 40
abbrev n__law_stream : List Str := ["_law_state", "_law_lowest", "_law_front", "_law_k"]
theorem q__law_stream : FnScope n__law_stream ["_law_state", "_law_lowest"] (defScope s__law_stream) := ⟨rfl, rfl, rfl, by decide +kernel, rfl, by decide +kernel, by decide +kernel⟩
abbrev s__law_items : Stmt := topS 41
abbrev n__law_items : List Str := ["_law_stream_here", "_law_shift", "_law_front", "_law_loop", "_law_found"]
theorem q__law_items : FnScope n__law_items ["_law_stream_here", "_law_shift"] (defScope s__law_items) := ⟨rfl, rfl, rfl, by decide +kernel, rfl, by decide +kernel, by decide +kernel⟩
abbrev s__law_error : Stmt := topS 42
abbrev n__law_error : List Str := ["_law_call", "_law_found", "e"]
theorem q__law_error : FnScope n__law_error ["_law_call"] (defScope s__law_error) := ⟨rfl, rfl, rfl, by decide +kernel, rfl, by decide +kernel, by decide +kernel⟩
abbrev s__law_pruned : Stmt := topS 43
abbrev n__law_pruned : List Str := ["_law_stems", "_law_tiers", "_law_ends", "_law_label", "_law_found", "_law_place"]
theorem q__law_pruned : FnScope n__law_pruned ["_law_stems", "_law_tiers", "_law_ends", "_law_label"] (defScope s__law_pruned) := ⟨rfl, rfl, rfl, by decide +kernel, rfl, by decide +kernel, by decide +kernel⟩
abbrev s__law_places_right : Stmt := topS 44
abbrev n__law_places_right : List Str := ["_law_one", "_law_fan", "_law_spines", "_law_tiers", "_law_at", "_law_label", "_law_some", "_law_labels", "_law_ends", "_law_due", "_law_k", "_law_below", "_law_place"]
theorem q__law_places_right : FnScope n__law_places_right ["_law_one", "_law_fan", "_law_spines", "_law_tiers", "_law_at", "_law_label"] (defScope s__law_places_right) := ⟨rfl, rfl, rfl, by decide +kernel, rfl, by decide +kernel, by decide +kernel⟩
abbrev s__law_refused : Stmt := topS 45
abbrev n__law_refused : List Str := ["_law_one", "_law_at", "_law_bound", "_law_thing", "_law_told"]
theorem q__law_refused : FnScope n__law_refused ["_law_one", "_law_at"] (defScope s__law_refused) := ⟨rfl, rfl, rfl, by decide +kernel, rfl, by decide +kernel, by decide +kernel⟩
abbrev s_law : Stmt := topS 46
abbrev n_law : List Str := ["_law_script", "_law_turn", "_law_state", "_law_fan", "_law_spines", "_law_tiers", "_law_one", "_law_again", "_law_at", "_law_label"]
theorem q_law : FnScope n_law ["_law_script"] (defScope s_law) := ⟨rfl, rfl, rfl, by decide +kernel, rfl, by decide +kernel, by decide +kernel⟩
end K39
namespace Ab
open PySem L2
/-! ### short words -/
section
variable {X : Cx} {Γ : Gam} {M : Mem} {pos : Pos} {x : Str} {d : Val} {i : Int} {j}
theorem v_ (n : Nat) (hd : Γ[n]? = some (some d) := by rfl) (hN : X.N[n]? = some x := by rfl) (hv : Vis X.env.scope x := by first | exact Or.inl rfl | exact Or.inr (Or.inl rfl) | exact Or.inr (Or.inr rfl))
    (hdb : (x == ("__debug__" : Str)) = false := by decide) (hcd : (x == ("__classdict__" : Str)) = false := by decide) : aV X (.Name x pos) Γ M d := ae_var n hd ⟨rfl, rfl⟩ hN hv hdb hcd
theorem i_ : aV X (.Constant (.int i) j pos) Γ M (.int i) := ae_int ⟨rfl, rfl⟩
theorem s_ : aV X (.Constant (.str x) j pos) Γ M (.str x) := ae_str ⟨rfl, rfl⟩
theorem n_ : aV X (.Constant .none j pos) Γ M .non := ae_non ⟨rfl, rfl⟩
theorem nft {p : Prop} : false = true → p := fun h => nomatch h
theorem ntf {p : Prop} : true = false → p := fun h => nomatch h
theorem sz {n : Nat} (h : n ≤ 100000) : n ≤ sizeLine := Nat.le_trans h (by decide)
theorem szl {n : Nat} (h : n < 100000) : n < sizeLine := Nat.lt_of_lt_of_le h (by decide)
theorem szb {n : Nat} (h : Nat.ble n 100000 = true := by rfl) : n ≤ sizeLine := sz (Nat.le_of_ble_eq_true h)
end
def optV : Option Int → Val
  | none => .non
  | some l => .int l
def within (n : Int) (lo hi : Option Int) : Bool := (match lo with | none => true | some l => decide (l ≤ n)) && (match hi with | none => true | some h => decide (n ≤ h))
def iT (xs : List Int) : Val := .tup (xs.map .int)
def iL (xs : List Int) : Val := .lst (xs.map .int)
def at0 (g : List Int) (i : Int) : Int := g.getD i.toNat 0
theorem atI_int {g : List Int} {i : Int} (h0 : 0 ≤ i) (h1 : i < g.length) : atI (g.map Val.int) i = some (.int (at0 g i)) := by
  obtain ⟨n, rfl⟩ := Int.eq_ofNat_of_zero_le h0
  refine atI_nat ?_
  have hn : n < g.length := by omega
  rw [List.getElem?_map, List.getElem?_eq_getElem hn]
  show some (Val.int g[n]) = some (Val.int (at0 g n))
  unfold at0
  rw [Int.toNat_natCast, List.getD_eq_getElem?_getD, List.getElem?_eq_getElem hn]
  rfl
/-- the last one -/
theorem atI_last {g : List Int} (h : g ≠ []) : atI (g.map Val.int) (-1) = some (.int (g.getD (g.length - 1) 0)) := by
  have hl : 0 < g.length := List.length_pos_iff.mpr h
  unfold atI ixN
  rw [List.length_map, if_neg (by decide), if_pos (by omega), Option.bind_some, show ((-1 : Int) + (g.length : Int)).toNat = g.length - 1 by omega, List.getElem?_map, List.getElem?_eq_getElem (by omega), List.getD_eq_getElem?_getD, List.getElem?_eq_getElem (by omega)]
  rfl
theorem getD_int {g : List Int} {i : Nat} (h : i < g.length) : (g.map Val.int).getD i .non = .int g[i] := by
  rw [List.getD_eq_getElem?_getD, List.getElem?_map, List.getElem?_eq_getElem h]
  rfl
theorem cut_neg {g : List Int} (h : g ≠ []) : cutI g none (some (-1)) = g.dropLast := by
  have hl : 0 < g.length := List.length_pos_iff.mpr h
  unfold cutI
  have e : HT.sIx g.length g.length (some (-1)) = g.length - 1 := by
    show (if (-1 : Int) < 0 then ((-1 : Int) + (g.length : Int)).toNat else min (-1 : Int).toNat g.length) = _
    rw [if_pos (by decide)]
    omega
  rw [e, HT.sIx_none, List.drop_zero, Nat.sub_zero, List.dropLast_eq_take]
theorem cut_end {g : List Int} (h : g ≠ []) : cutI g (some (-1)) none = [g.getD (g.length - 1) 0] := by
  have hl : 0 < g.length := List.length_pos_iff.mpr h
  unfold cutI
  have e : HT.sIx g.length 0 (some (-1)) = g.length - 1 := by
    show (if (-1 : Int) < 0 then ((-1 : Int) + (g.length : Int)).toNat else min (-1 : Int).toNat g.length) = _
    rw [if_pos (by decide)]
    omega
  rw [e, HT.sIx_none, List.drop_eq_getElem_cons (by omega), show g.length - 1 + 1 = g.length by omega, List.drop_length, show g.length - (g.length - 1) = 1 by omega, List.getD_eq_getElem?_getD, List.getElem?_eq_getElem (by omega)]
  rfl
theorem map_cyc {g : List Int} (m : Nat) : (List.replicate m (g.map Val.int)).flatten = ((List.replicate m g).flatten).map Val.int := by
  induction m with
  | zero => rfl
  | succ m ih => rw [List.replicate_succ, List.replicate_succ, List.flatten_cons, List.flatten_cons, List.map_append, ih]
abbrev FX (P : Program) (w : World) (K : PySem.W.Frag) (mg : Str → Option Value) (base : Heap) (k : Nat) (f : Addr) (s : ASx) : Prop := FnX P w K mg base k f [] (spX K s)
/-- a def that stands under a global name -/
structure Gd (P : Program) (w : World) (K : PySem.W.Frag) (mg : Str → Option Value) (base : Heap) (k : Nat) (x : Str) (ks : List Str) (s : ASx) : Prop where
  ex : ∃ f, FnX P w K mg base k f ks (spX K s) ∧ mg x = some (.ref f) ∧ PySem.W.keepIn K (.ref f) = true
section
variable {X : Cx} {Γ : Gam} {M : Mem} {P : Val → Mem → Prop} {e : Expr} {es : List Expr} {kws : List Keyword} {pos p1 : Pos} {x : Str} {n m : Nat} {ks : List Str} {sx : ASx}
theorem ae_g (G : Gd X.prog X.w X.K X.mg X.base n x ks sx) (hr : Rm m X.A) (hnm : n ≤ m) (h : aA X (e :: es) Γ M fun ds M1 => aKw X kws Γ M1 fun zs M2 => zs.length = ks.length ∧ sx ds zs M2 P)
    (hg : Gl X x := by rfl) (hall : (backToKw pos (keywordEach kws X.env)).all (·.1.isSome) = true := by rfl) (hks : (backToKw pos (keywordEach kws X.env)).filterMap (·.1) = ks := by rfl) (hdb : (x == ("__debug__" : Str)) = false := by decide)
    (he : starEach (e :: es) X.env = (false, eval e X.env) :: starEach es X.env := by rfl) (hpl : ((backTo pos (starEach (e :: es) X.env)).any (·.1) || (backToKw pos (keywordEach kws X.env)).any (·.1.isNone)) = false := by rfl) : aE X (.Call (.Name x p1) (e :: es) kws pos) Γ M P := by
  obtain ⟨f, F, hm, hk⟩ := G.ex
  exact ae_call F (hr.mono hnm) hm hk h hg hall hks hdb he hpl
end
end Ab
namespace K39
open PySem L2 Ab Sm
section
variable {P : Program} {w : World} {K : PySem.W.Frag} {mg : Str → Option Value} {base : Heap} {k : Nat} {f C : Addr}
/-! ### is_integer, check_integer, are_items -/
def aInt : ASp := fun ds M R => ∃ n lo hi, ds = [.int n, optV lo, optV hi] ∧ R (.bl (within n lo hi)) M
theorem b_is_integer (m1 : mg "isinstance" = none) (m2 : mg "int" = none) (m3 : mg "bool" = none) : BodyOk P w K mg base k f n_is_integer "is_integer" (defScope s_is_integer) (defBody s_is_integer) aInt := by
  rintro cdv A outer s H E hr ds M R ⟨n, lo, hi, rfl, hp⟩
  refine as_cons (as_if (at_w (aw_or (at_not (at_val (ae_isi m1 (v_ 0) (av_ty (T := "int") m2 (by decide +kernel)) (.ty "int") (.int _) (kit_ty (by decide +kernel)) ⟨true, rfl, nft, fun _ => ?_⟩))))))
  refine aw_or1 (at_val (ae_isi m1 (v_ 0) (av_ty (T := "bool") m3 (by decide +kernel)) (.ty "bool") (.int _) (kit_ty (by decide +kernel)) ⟨false, rfl, nft, fun _ => ?_⟩))
  refine as_nil (as_one (as_ret ?_))
  cases lo with
  | none =>
    refine ae_and (ae_or (ae_cmp (v_ 1) n_ cmp_isN ⟨true, rfl, fun _ => ⟨true, rfl, fun _ => ?_, ntf⟩, ntf⟩))
    cases hi with
    | none => exact ae_one (ae_or (ae_cmp (v_ 2) n_ cmp_isN ⟨true, rfl, fun _ => .ok hp, ntf⟩))
    | some h => exact ae_one (ae_or (ae_cmp (v_ 2) n_ cmp_isN ⟨false, rfl, nft, fun _ => ae_one (ae_cmp (v_ 0) (v_ 2) cmp_le (.ok (by simpa [within] using hp)))⟩))
  | some l =>
    refine ae_and (ae_or (ae_cmp (v_ 1) n_ cmp_isN ⟨false, rfl, nft, fun _ => ae_one (ae_cmp (v_ 1) (v_ 0) cmp_le ⟨_, rfl, fun e => ?_, fun e => .ok (by simpa [within, e] using hp)⟩)⟩))
    cases hi with
    | none => exact ae_one (ae_or (ae_cmp (v_ 2) n_ cmp_isN ⟨true, rfl, fun _ => .ok (by simpa [within, e] using hp), ntf⟩))
    | some h => exact ae_one (ae_or (ae_cmp (v_ 2) n_ cmp_isN ⟨false, rfl, nft, fun _ => ae_one (ae_cmp (v_ 0) (v_ 2) cmp_le (.ok (by simpa [within, e] using hp)))⟩))
/-- is_integer(x, low=.., high=..) -/
abbrev GInt (P : Program) (w : World) (K : PySem.W.Frag) (mg : Str → Option Value) (base : Heap) : Prop := Gd P w K mg base 1 "is_integer" ["low", "high"] fun ds es M R => ds.length = 1 ∧ aInt (ds ++ es) M R
def aChk : ASp := fun ds M R => ∃ n lo, ds = [.int n, .int lo, .non] ∧ lo ≤ n ∧ R .non M
theorem b_check_integer (G : GInt P w K mg base) : BodyOk P w K mg base 1 f n_check_integer "check_integer" (defScope s_check_integer) (defBody s_check_integer) aChk := by
  rintro cdv A outer s H E hr ds M R ⟨n, lo, rfl, hle, hp⟩
  refine as_one (as_if (at_not (at_val (ae_g G hr (by decide) (aa_cons ((v_ 0).val (aa_nil (ak_cons ((v_ 1).val (ak_cons ((v_ 2).val (ak_nil ⟨rfl, rfl, n, some lo, none, rfl, true, ?_, nft, fun _ => as_nil (.ok hp)⟩))))))))))))
  have e : within n (some lo) none = true := by simp [within]; exact hle
  rw [e]
abbrev GChk (P : Program) (w : World) (K : PySem.W.Frag) (mg : Str → Option Value) (base : Heap) : Prop := Gd P w K mg base 2 "check_integer" [] fun ds _ M R => ds.length = 2 ∧ aChk (ds ++ [.non]) M R
def okI (v : Int) : Prop := 0 ≤ v ∧ v ≤ 1000000
theorem rep_true {M : Mem} {n : Nat} : Vw M (.lst ((List.range n).map fun _ => Val.bl true)) (.lst ((List.replicate n true).map .bl)) := by
  have e : (List.range n).map (fun _ => Val.bl true) = (List.replicate n true).map .bl := by simp [List.map_const']
  rw [e]
  exact .self _
def aItems : ASp := fun ds M R => ∃ xs a b, ds = [iT xs, .int a, .int b] ∧ a ≤ (xs.length : Int) ∧ (xs.length : Int) ≤ b ∧ b ≤ 1000 ∧ (∀ v ∈ xs, okI v) ∧ R (.bl true) M
theorem b_are_items {t : Tok} (G : GInt P w K mg base) (gl : mg "LABEL_LIMIT" = some (.int 1000000 t)) (m1 : mg "isinstance" = none) (m2 : mg "tuple" = none) (m3 : mg "len" = none) (m4 : mg "all" = none) : BodyOk P w K mg base 1 f n_are_items "are_items" (defScope s_are_items) (defBody s_are_items) aItems := by
  rintro cdv A outer s H E hr ds M R ⟨xs, a, b, rfl, h1, h2, h3, hx, hp⟩
  refine as_cons (as_if (at_w (aw_or (at_not (at_val (ae_isi m1 (v_ 0) (av_ty (T := "tuple") m2 (by decide +kernel)) (.ty "tuple") (.tup _) (kit_ty (by decide +kernel)) ⟨true, rfl, nft, fun _ => ?_⟩))))))
  refine aw_or1 (at_not (at_chain (v_ 1) (av_len m3 (v_ 0) .t) (v_ 2) cmp_le cmp_le ⟨fun h => ?_, fun _ => as_nil ?_⟩))
  · simp at h
    omega
  refine as_one (as_ret (ae_all m4 rfl (ae_lcP [("item", 3)] (fun _ => .bl true) rfl q_are_items.nd (blkOk_by (N := n_are_items) (sc := defScope s_are_items) (by decide +kernel)) (ai_tup ((v_ 0).val ⟨rfl, rfl⟩)) ?_ (by simp; omega) ⟨List.replicate _ true, rep_true, .ok ?_⟩)))
  · intro i acc D hi s H C' cl fp
    have hi' : i < xs.length := by simpa using hi
    rw [getD_int hi']
    refine agw_name 3 q_are_items.nd fun s H C' cl fp => ?_
    refine ae_g G hr (by decide) (aa_cons ((v_ 3).val (aa_nil (ak_cons (i_.val (ak_cons ((av_gint gl).val (ak_nil ⟨rfl, rfl, xs[i], some 0, some 1000000, rfl, ?_, rfl⟩))))))))
    have := hx _ (List.getElem_mem hi')
    have e : within xs[i] (some 0) (some 1000000) = true := by simp [within]; exact this
    rw [e]
  · rw [show (List.replicate (List.map Val.int xs).length true).all id = true by simp]
    exact hp
abbrev GItems (P : Program) (w : World) (K : PySem.W.Frag) (mg : Str → Option Value) (base : Heap) : Prop := Gd P w K mg base 2 "are_items" [] fun ds _ => aItems ds
/-! ### shortest_loop, normal_form, stream_item -/
def aSl : ASp := fun ds M R => ∃ l, ds = [iT l] ∧ l ≠ [] ∧ l.length ≤ 1000 ∧ R (iT (sloop l)) M
theorem b_shortest_loop (m1 : mg "range" = none) (m3 : mg "len" = none) : BodyOk P w K mg base k f n_shortest_loop "shortest_loop" (defScope s_shortest_loop) (defBody s_shortest_loop) aSl := by
  rintro cdv A outer s H E hr ds M R ⟨l, rfl, hn, hl, hp⟩
  have hu := hr.u64
  have hpos : 0 < l.length := List.length_pos_iff.mpr hn
  have len1 : ∀ {X : Cx} {Γ : Gam} {M : Mem} {e : Expr}, aV X e Γ M (.int ((l.map Val.int).length : Nat)) → aV X e Γ M (.int (l.length : Nat)) := fun h => by rw [List.length_map] at h; exact h
  refine as_cons (as_for (n := l.length - 1) (fun i Γ M' => M' = M ∧ ∃ v1, Γ = [some (iT l), v1] ∧ sloop l = slFrom l (l.length - 1 - i) (i + 1)) PassesOwn.never rfl
    (ai_range2 (lo := 1) m1 (aa_cons (i_.val (aa_cons ((len1 (av_len m3 (v_ 0) .t)).val (aa_nil ⟨_, rfl, by omega, by omega, rfl, none, rfl, rfl⟩)))))) (fun _ _ _ _ _ => trivial) ?_ ?_)
  · rintro i Γ M' hi ⟨rfl, v1, rfl, hs⟩
    refine ag_name 1 q_shortest_loop.nd ?_
    rw [show l.length - 1 - i = (l.length - 1 - (i + 1)) + 1 by omega] at hs
    have hst : slFrom l (l.length - 1 - (i + 1) + 1) (i + 1) = if isRep l (i + 1) = true then l.take (i + 1) else slFrom l (l.length - 1 - (i + 1)) (i + 1 + 1) := rfl
    rw [hst] at hs
    have e1 : (1 : Int) + (i : Int) = ((i + 1 : Nat) : Int) := by omega
    rw [e1]
    have sl : ∀ {X : Cx} {Γ : Gam} {M : Mem} {e : Expr}, aV X e Γ M (.tup (cutA (l.map Val.int) none (some ((i + 1 : Nat) : Int)))) → aV X e Γ M (iT (l.take (i + 1))) := fun h => by
      rw [cut_map, cut_hi (by omega) (by omega), Int.toNat_natCast] at h
      exact h
    have dv : ((l.length : Int) / ((i + 1 : Nat) : Int)) = ((l.length / (i + 1) : Nat) : Int) := by omega
    by_cases hm : l.length % (i + 1) = 0
    · have hge : 2 ≤ l.length / (i + 1) := by
        have h1 := Nat.div_add_mod l.length (i + 1)
        rw [hm, Nat.add_zero] at h1
        rcases Nat.lt_or_ge (l.length / (i + 1)) 2 with z | z
        · have : l.length / (i + 1) ≤ 1 := by omega
          have := Nat.mul_le_mul_left (i + 1) this
          omega
        · exact z
      have hle : l.length / (i + 1) ≤ l.length := Nat.div_le_self _ _
      have tl := take_len (l := l) (p := i + 1) (by omega)
      have tne : (l.take (i + 1)).map Val.int ≠ [] := fun z => by
        have := congrArg List.length z
        rw [List.length_map, tl] at this
        simp at this
      have cy : ∀ {X : Cx} {Γ : Gam} {M : Mem} {e : Expr}, aV X e Γ M (.tup (List.replicate ((l.length : Int) / ((i + 1 : Nat) : Int)).toNat ((l.take (i + 1)).map Val.int)).flatten) → aV X e Γ M (iT (cyc (l.take (i + 1)) (l.length / (i + 1)))) := fun h => by
        rw [dv, Int.toNat_natCast, map_cyc] at h
        exact h
      refine as_one (as_if (at_w (aw_and (at_cmp (av_mod (len1 (av_len m3 (v_ 0) .t)) (v_ 1) (by omega)) i_ cmp_eqI ⟨fun _ => ?_, fun h => ?_⟩))))
      · refine aw_and1 (at_cmp (v_ 0) (cy (av_repT (sl (av_sliceT (v_ 0) ao_none (ao_some (v_ 1)))) (av_fdiv (len1 (av_len m3 (v_ 0) .t)) (v_ 1) ⟨by omega, by omega⟩) tne (by rw [dv]; omega) (by rw [dv]; omega) (by rw [List.length_map, tl]; omega))) (cmp_eqTI hu) ⟨fun h => ?_, fun h => ?_⟩)
        · have hrp : isRep l (i + 1) = true := by
            unfold isRep
            rw [decide_eq_true hm, h]
            rfl
          rw [if_pos hrp] at hs
          refine as_one (as_ret ((sl (av_sliceT (v_ 0) ao_none (ao_some (v_ 1)))).val (.ok ?_)))
          rw [← hs]
          exact hp
        · have hrp : ¬ isRep l (i + 1) = true := by
            unfold isRep
            rw [h, Bool.and_false]
            exact Bool.false_ne_true
          rw [if_neg hrp] at hs
          exact as_nil ⟨rfl, _, rfl, hs⟩
      · exfalso
        rw [decide_eq_false_iff_not] at h
        apply h
        omega
    · have hrp : ¬ isRep l (i + 1) = true := by
        unfold isRep
        rw [decide_eq_false hm, Bool.false_and]
        exact Bool.false_ne_true
      rw [if_neg hrp] at hs
      refine as_one (as_if (at_w (aw_and (at_cmp (av_mod (len1 (av_len m3 (v_ 0) .t)) (v_ 1) (by omega)) i_ cmp_eqI ⟨fun h => ?_, fun _ => ⟨nft, fun _ => as_nil ⟨rfl, _, rfl, hs⟩⟩⟩))))
      exfalso
      rw [decide_eq_true_eq] at h
      omega
  · rintro Γ M' ⟨rfl, v1, rfl, hs⟩
    refine as_one (as_ret ((v_ 0).val (.ok ?_)))
    rw [Nat.sub_self] at hs
    have e : sloop l = l := hs
    rw [e] at hp
    exact hp
abbrev GSl (P : Program) (w : World) (K : PySem.W.Frag) (mg : Str → Option Value) (base : Heap) : Prop := Gd P w K mg base 1 "shortest_loop" [] fun ds _ => aSl ds
end
end K39
namespace K39
open PySem L2 Ab Sm
section
variable {P : Program} {w : World} {K : PySem.W.Frag} {mg : Str → Option Value} {base : Heap} {k : Nat} {f C : Addr}
/-- a stream -/
def stV (s : Stm) : Val := .tup [iT s.1, iT s.2]
def aNf : ASp := fun ds M R => ∃ s : Stm, ds = [iT s.1, iT s.2] ∧ s.2 ≠ [] ∧ s.1.length ≤ 1000 ∧ s.2.length ≤ 1000 ∧ R (stV (nf s)) M
theorem nfGo_succ {c : Nat} {f l : List Int} : nfGo (c + 1) f l = if f ≠ [] ∧ last0 f = last0 l then nfGo c f.dropLast (rotR l) else (f, l) := rfl
theorem cmp_neT {X : Cx} {M : Mem} {g : List Int} (hu : X.A.units + 64 < cLine) : Cmp X .NotEq M (iT g) (.tup []) (!decide (g = [])) := cmp_neTI (ns := g) (ms := []) hu
theorem b_normal_form (G : GSl P w K mg base) : BodyOk P w K mg base 1 f n_normal_form "normal_form" (defScope s_normal_form) (defBody s_normal_form) aNf := by
  rintro cdv A outer s H E hr ds M R ⟨⟨f0, l0⟩, rfl, hn, h1, h2, hp⟩
  have hu := hr.u64
  refine as_cons (as_set 1 q_normal_form.nd (ae_g G hr (by decide) (aa_cons ((v_ 1).val (aa_nil (ak_nil ⟨rfl, l0, rfl, hn, h2, ?_⟩))))))
  have hsl := sloop_spec hn
  refine as_cons (as_while (fun c Γ M' => M' = M ∧ ∃ f l, Γ = [some (iT f), some (iT l)] ∧ l ≠ [] ∧ f.length = c ∧ f.length ≤ 1000 ∧ l.length ≤ 1000 ∧ nf (f0, l0) = nfGo c f l) f0.length PassesOwn.never ⟨rfl, f0, sloop l0, rfl, hsl.1, rfl, h1, Nat.le_trans hsl.2.2.2.1 h2, rfl⟩ ?_)
  rintro c Γ M' ⟨rfl, g, l, rfl, hl, hc, hf, hll, hnf⟩
  have sf : g ≠ [] → ∀ {X : Cx} {Γ : Gam} {M : Mem} {e : Expr}, aV X e Γ M (.tup (cutA (g.map Val.int) none (some (-1)))) → aV X e Γ M (iT g.dropLast) := fun hne _ _ _ _ h => by
    rw [cut_map, cut_neg hne] at h
    exact h
  have s1 : ∀ {X : Cx} {Γ : Gam} {M : Mem} {e : Expr}, aV X e Γ M (.tup (cutA (l.map Val.int) none (some (-1)))) → aV X e Γ M (iT l.dropLast) := fun h => by
    rw [cut_map, cut_neg hl] at h
    exact h
  have s2 : ∀ {X : Cx} {Γ : Gam} {M : Mem} {e : Expr}, aV X e Γ M (.tup (cutA (l.map Val.int) (some (-1)) none)) → aV X e Γ M (iT [last0 l]) := fun h => by
    rw [cut_map, cut_end hl] at h
    exact h
  have fin : nf (f0, l0) = (g, l) → aSs (bcx P w K mg base n_normal_form "normal_form" (defScope s_normal_form) f cdv A outer s H E) [(defBody s_normal_form).getD 2 (.Pass ⟨0, 0, 0, 0⟩)] [some (iT g), some (iT l)] M' (kOf R) := fun e => by
    refine as_one (as_ret (aE.val (av_tup (avs_cons (v_ 0) (avs_cons (v_ 1) avs_nil)) szb) (.ok ?_)))
    rw [e] at hp
    exact hp
  by_cases hfe : g = []
  · subst hfe
    refine at_w (aw_and (at_cmp (v_ 0) (av_tup avs_nil szb) (cmp_neT hu) ⟨fun h => ?_, fun _ => ⟨nft, fun _ => fin ?_⟩⟩))
    · simp at h
    · rw [hnf, ← hc]
      rfl
  · have hfl : 0 < g.length := List.length_pos_iff.mpr hfe
    obtain ⟨c', rfl⟩ : ∃ c', c = c' + 1 := ⟨c - 1, by omega⟩
    rw [nfGo_succ] at hnf
    refine at_w (aw_and (at_cmp (v_ 0) (av_tup avs_nil szb) (cmp_neT hu) ⟨fun _ => ?_, fun h => ?_⟩))
    · refine aw_and1 (at_cmp (av_ixT (v_ 0) (av_neg i_) (atI_last hfe)) (av_ixT (v_ 1) (av_neg i_) (atI_last hl)) cmp_eqI ⟨fun h => ?_, fun h => fin ?_⟩)
      · rw [decide_eq_true_eq] at h
        rw [if_pos ⟨hfe, h⟩] at hnf
        refine as_one (as_par 0 1 q_normal_form.nd rfl (by decide) (aa_cons ((sf hfe (av_sliceT (v_ 0) ao_none (ao_some (av_neg i_)))).val (aa_cons (aE.val (av_catT (s2 (av_sliceT (v_ 1) (ao_some (av_neg i_)) ao_none)) (s1 (av_sliceT (v_ 1) ao_none (ao_some (av_neg i_)))) (sz ?_)) (aa_nil ⟨_, _, rfl, c', Nat.lt_succ_self _, rfl, g.dropLast, rotR l, rfl, ?_, ?_, ?_, ?_, hnf⟩))))))
        · simp
          omega
        · unfold rotR
          exact List.cons_ne_nil _ _
        · rw [List.length_dropLast]
          omega
        · rw [List.length_dropLast]
          omega
        · rw [rot_len hl]
          exact hll
      · rw [decide_eq_false_iff_not] at h
        rw [if_neg fun z => h z.2] at hnf
        exact hnf
    · simp [hfe] at h
abbrev GNf (P : Program) (w : World) (K : PySem.W.Frag) (mg : Str → Option Value) (base : Heap) : Prop := Gd P w K mg base 2 "normal_form" [] fun ds _ => aNf ds
/-! ### stream_item -/
def aItem : ASp := fun ds M R => ∃ (s : Stm) (i : Int), ds = [stV s, .int i] ∧ s.2 ≠ [] ∧ 0 ≤ i ∧ R (.int (item s i.toNat)) M
theorem item_lp {s : Stm} {i : Int} (hn : s.2 ≠ []) (h0 : 0 ≤ i) (h : ¬ i < (s.1.length : Int)) : item s i.toNat = at0 s.2 ((i - (s.1.length : Int)) % (s.2.length : Int)) := by
  have hl : 0 < s.2.length := List.length_pos_iff.mpr hn
  rw [item_ge (by omega)]
  unfold lp at0
  have e : i - (s.1.length : Int) = ((i.toNat - s.1.length : Nat) : Int) := by omega
  rw [e, ← Int.natCast_emod, Int.toNat_natCast]
theorem b_stream_item (m3 : mg "len" = none) : BodyOk P w K mg base k f n_stream_item "stream_item" (defScope s_stream_item) (defBody s_stream_item) aItem := by
  rintro cdv A outer s0 H E hr ds M R ⟨s, i, rfl, hn, h0, hp⟩
  have hl : 0 < s.2.length := List.length_pos_iff.mpr hn
  refine as_cons (as_asg ((v_ 0).val (ag_tup rfl (ags_cons (ag_name 2 q_stream_item.nd (ags_cons (ag_name 3 q_stream_item.nd (ags_nil ?_))))))))
  have len1 : ∀ {g : List Int} {X : Cx} {Γ : Gam} {M : Mem} {e : Expr}, aV X e Γ M (.int ((g.map Val.int).length : Nat)) → aV X e Γ M (.int (g.length : Nat)) := fun h => by rw [List.length_map] at h; exact h
  refine as_one (as_ret (ae_ifd (p := i < (s.1.length : Int)) (at_cmp (v_ 1) (len1 (av_len m3 (v_ 2) .t)) cmp_lt ⟨rfl, rfl⟩) (fun h => ?_) (fun h => ?_)))
  · refine aE.val (av_ixT (v_ 2) (v_ 1) (atI_int h0 h)) (.ok ?_)
    have e : item s i.toNat = at0 s.1 i := item_lt (by omega)
    rw [e] at hp
    exact hp
  · refine aE.val (av_ixT (v_ 3) (av_mod (av_sub (v_ 1) (len1 (av_len m3 (v_ 2) .t))) (len1 (av_len m3 (v_ 3) .t)) (by omega)) (atI_int (Int.emod_nonneg _ (by omega)) (Int.emod_lt_of_pos _ (by omega)))) (.ok ?_)
    rw [item_lp hn h0 h] at hp
    exact hp
abbrev GItem (P : Program) (w : World) (K : PySem.W.Frag) (mg : Str → Option Value) (base : Heap) : Prop := Gd P w K mg base 1 "stream_item" [] fun ds _ => aItem ds
end
end K39
namespace Sm
/-! ### streams without their first items, with other ones -/
def rotL (l : List Int) (k : Nat) : List Int := l.drop k ++ l.take k
theorem rotL_len {l : List Int} {k : Nat} (h : k ≤ l.length) : (rotL l k).length = l.length := by
  unfold rotL
  rw [List.length_append, List.length_drop, List.length_take]
  omega
theorem rotL_mem {l : List Int} {k : Nat} {v : Int} (h : v ∈ rotL l k) : v ∈ l := by
  rcases List.mem_append.mp h with h | h
  · exact List.mem_of_mem_drop h
  · exact List.mem_of_mem_take h
theorem rotL_lp {l : List Int} {k : Nat} (hk : k < l.length) (i : Nat) : lp (rotL l k) i = lp l (i + k) := by
  have hl := rotL_len (l := l) (k := k) (by omega)
  have hm := Nat.mod_lt i (show 0 < l.length by omega)
  have key : ∀ j, j < l.length → (rotL l k).getD j 0 = lp l (j + k) := fun j hj => by
    unfold rotL
    rw [List.getD_eq_getElem?_getD]
    by_cases h : j < l.length - k
    · rw [List.getElem?_append_left (by rw [List.length_drop]; exact h), List.getElem?_drop, lp_lt (by omega), List.getD_eq_getElem?_getD, Nat.add_comm]
    · rw [List.getElem?_append_right (by rw [List.length_drop]; omega), List.length_drop, List.getElem?_take_of_lt (by omega), ← List.getD_eq_getElem?_getD]
      have := lp_add (l := l) (j - (l.length - k))
      rw [show j - (l.length - k) + l.length = j + k by omega] at this
      rw [this, lp_lt (by omega)]
  have e1 : lp (rotL l k) i = lp (rotL l k) (i % l.length) := by
    have := per_mod (h := fun i => lp (rotL l k) i) (p := l.length) (fun i => by rw [← hl]; exact lp_add i) i
    exact this.symm
  rw [e1, lp_lt (by omega), key _ hm]
  have := per_mod (h := fun i => lp l (i + k)) (p := l.length) (fun i => by
    show lp l (i + l.length + k) = lp l (i + k)
    rw [show i + l.length + k = i + k + l.length by omega, lp_add]) i
  exact this
def swo (s : Stm) (c : Nat) : Stm := if c ≤ s.1.length then (s.1.drop c, s.2) else ([], rotL s.2 ((c - s.1.length) % s.2.length))
theorem swo_item {s : Stm} (hn : s.2 ≠ []) (c i : Nat) : item (swo s c) i = item s (i + c) := by
  have hl : 0 < s.2.length := List.length_pos_iff.mpr hn
  unfold swo
  by_cases h : c ≤ s.1.length
  · rw [if_pos h]
    by_cases hi : i + c < s.1.length
    · rw [item_lt hi, item_lt (by show i < (s.1.drop c).length; rw [List.length_drop]; omega)]
      show (s.1.drop c).getD i 0 = _
      rw [List.getD_eq_getElem?_getD, List.getElem?_drop, List.getD_eq_getElem?_getD, Nat.add_comm]
    · rw [item_ge (s := s) (by omega), item_ge (by show (s.1.drop c).length ≤ i; rw [List.length_drop]; omega)]
      show lp s.2 (i - (s.1.drop c).length) = _
      rw [List.length_drop, show i - (s.1.length - c) = i + c - s.1.length by omega]
  · rw [if_neg h, item_ge (s := s) (by omega), item_ge (by exact Nat.zero_le _)]
    show lp (rotL s.2 _) (i - 0) = _
    rw [Nat.sub_zero, rotL_lp (Nat.mod_lt _ hl)]
    have := per_mod (h := fun j => lp s.2 (i + j)) (p := s.2.length) (fun j => by
      show lp s.2 (i + (j + s.2.length)) = lp s.2 (i + j)
      rw [← Nat.add_assoc, lp_add]) (c - s.1.length)
    rw [this, show i + (c - s.1.length) = i + c - s.1.length by omega]
theorem swo_ne {s : Stm} (hn : s.2 ≠ []) (c : Nat) : (swo s c).2 ≠ [] ∧ (swo s c).2.length = s.2.length ∧ ∀ v ∈ (swo s c).2, v ∈ s.2 := by
  have hl : 0 < s.2.length := List.length_pos_iff.mpr hn
  unfold swo
  by_cases h : c ≤ s.1.length
  · rw [if_pos h]
    exact ⟨hn, rfl, fun _ h => h⟩
  · rw [if_neg h]
    have e := rotL_len (l := s.2) (k := (c - s.1.length) % s.2.length) (Nat.le_of_lt (Nat.mod_lt _ hl))
    refine ⟨fun z => ?_, e, fun v hv => rotL_mem hv⟩
    have z' : rotL s.2 ((c - s.1.length) % s.2.length) = [] := z
    rw [z'] at e
    simp at e
    omega
/-! ### streams item by item -/
def minL : List Int → Int
  | [] => 0
  | x :: xs => xs.foldl (fun a b => if b < a then b else a) x
def maxL : List Int → Int
  | [] => 0
  | x :: xs => xs.foldl (fun a b => if b > a then b else a) x
theorem minL_spec : ∀ (xs : List Int) (x : Int), minL (x :: xs) ∈ x :: xs ∧ ∀ y ∈ x :: xs, minL (x :: xs) ≤ y
  | [], x => ⟨List.mem_cons_self, fun y hy => by
    have : y = x := by simpa using hy
    subst this
    exact Int.le_refl _⟩
  | b :: xs, x => by
    have e : minL (x :: b :: xs) = minL ((if b < x then b else x) :: xs) := rfl
    obtain ⟨h1, h2⟩ := minL_spec xs (if b < x then b else x)
    rw [e]
    have h0 := h2 _ List.mem_cons_self
    refine ⟨?_, fun y hy => ?_⟩
    · rcases List.mem_cons.mp h1 with z | z
      · rw [z]
        split
        · exact List.mem_cons_of_mem _ List.mem_cons_self
        · exact List.mem_cons_self
      · exact List.mem_cons_of_mem _ (List.mem_cons_of_mem _ z)
    · rcases List.mem_cons.mp hy with rfl | hy
      · refine Int.le_trans h0 ?_
        split <;> omega
      · rcases List.mem_cons.mp hy with rfl | hy
        · refine Int.le_trans h0 ?_
          split <;> omega
        · exact h2 y (List.mem_cons_of_mem _ hy)
theorem maxL_spec : ∀ (xs : List Int) (x : Int), maxL (x :: xs) ∈ x :: xs ∧ ∀ y ∈ x :: xs, y ≤ maxL (x :: xs)
  | [], x => ⟨List.mem_cons_self, fun y hy => by
    have : y = x := by simpa using hy
    subst this
    exact Int.le_refl _⟩
  | b :: xs, x => by
    have e : maxL (x :: b :: xs) = maxL ((if b > x then b else x) :: xs) := rfl
    obtain ⟨h1, h2⟩ := maxL_spec xs (if b > x then b else x)
    rw [e]
    have h0 := h2 _ List.mem_cons_self
    refine ⟨?_, fun y hy => ?_⟩
    · rcases List.mem_cons.mp h1 with z | z
      · rw [z]
        split
        · exact List.mem_cons_of_mem _ List.mem_cons_self
        · exact List.mem_cons_self
      · exact List.mem_cons_of_mem _ (List.mem_cons_of_mem _ z)
    · rcases List.mem_cons.mp hy with rfl | hy
      · refine Int.le_trans ?_ h0
        split <;> omega
      · rcases List.mem_cons.mp hy with rfl | hy
        · refine Int.le_trans ?_ h0
          split <;> omega
        · exact h2 y (List.mem_cons_of_mem _ hy)
theorem min_is {ns : List Int} {m : Int} (h1 : m ∈ ns) (h2 : ∀ y ∈ ns, m ≤ y) : m = minL ns := by
  cases ns with
  | nil => cases h1
  | cons x xs =>
    obtain ⟨a, b⟩ := minL_spec xs x
    exact Int.le_antisymm (h2 _ a) (b _ h1)
theorem max_is {ns : List Int} {m : Int} (h1 : m ∈ ns) (h2 : ∀ y ∈ ns, y ≤ m) : m = maxL ns := by
  cases ns with
  | nil => cases h1
  | cons x xs =>
    obtain ⟨a, b⟩ := maxL_spec xs x
    exact Int.le_antisymm (b _ h1) (h2 _ a)
/-! ### the least common multiple, step by step -/
end Sm
namespace Ab
open PySem PySem.Spec PyProof.Rows L2
section
variable {X : Cx} {Γ : Gam} {M : Mem} {k : AK} {sts : List Stmt} {pos : Pos} {y : Str} {n : Nat}
/-- y = [.. for ..], items told by their number, never changed behind it -/
theorem as_lcP {tg iter elt : Expr} {scope : Scope} {py spos : Pos} (m : Nat) (own : List (Str × Nat)) {it : Nat → Val} (g : Nat → Val) (hc : X.calm = true) (hN : X.N.Nodup) (ok : BlkOk X.N X.env.scope scope own)
    (hi : aI X tg iter Γ M n it (fun _ => True) (fun M' => M' = M))
    (hs : ∀ i acc D, i < n → bG X scope (own.map (·.2)) tg (it i) (wipeG Γ (own.map (·.2))) ((D, .lst acc) :: M) fun Γ2 M2 => bE X scope elt Γ2 M2 fun y M4 => y = g i ∧ M4 = (D, .lst acc) :: M)
    (hn : n ≤ 100000) (h : aSs X sts (Γ.set m (some (.lst ((List.range n).map g)))) M k) (hm : m < Γ.length := by exact Nat.le_of_ble_eq_true rfl) (hy : X.N[m]? = some y := by rfl) (hyl : X.env.scope.names.lookup y = some .local := by rfl)
    (hsw : swapsWith (.ListComp elt [⟨tg, iter, [], 0⟩] scope pos) (some (.Name y py)) spos.line X.env = pure true := by exact sw_true rfl rfl rfl (by decide +kernel))
    (hf : ∀ x, foldedSetIterable iter X.env x = pure x := by intro _; rfl) :
    aSs X (.Assign [.Name y py] (.ListComp elt [⟨tg, iter, [], 0⟩] scope pos) spos :: sts) Γ M k := by
  refine as_cons (as_lcJ m own hc hN ok (aj_ai hi fun M1 e => ?_) hy hyl hsw hf)
  subst e
  refine ⟨hn, fun i acc M' => M' = M1 ∧ acc = (List.range i).map g, ⟨rfl, rfl⟩, ?_, ?_⟩
  · rintro i acc M' D hi' _ ⟨rfl, rfl⟩ s H C cl fp
    intro Hi1 H1 σ1 v1 ok1 en1 r1 Q1 q1
    refine hs i _ D hi' s H C cl fp Hi1 H1 σ1 v1 ok1 en1 r1 Q1 fun Γ2 M2 σ2 Hi2 H2 h2 => q1 Γ2 M2 σ2 Hi2 H2 fun s' H' C' cl' fp' => ats_nil ⟨fun _ s2 H2 C2 cl2 fp2 => (h2 s2 H2 C2 cl2 fp2).mono fun y M4 hy => ?_, fun z => nomatch z⟩
    obtain ⟨rfl, rfl⟩ := hy
    exact ⟨_, rfl, rfl, by rw [List.range_succ, List.map_append]; rfl⟩
  · rintro D acc M' ⟨rfl, rfl⟩
    refine as_frz m (by rw [List.getElem?_set_self hm]) ?_
    rw [List.set_set]
    exact h
end
end Ab
namespace K39
open PySem L2 Ab Sm
theorem len_ {g : List Int} {X : Cx} {Γ : Gam} {M : Mem} {e : Expr} (h : aV X e Γ M (.int ((g.map Val.int).length : Nat))) : aV X e Γ M (.int (g.length : Nat)) := by
  rw [List.length_map] at h
  exact h
theorem cut_loN {g : List Int} {j : Int} (h0 : 0 ≤ j) : cutI g (some j) none = g.drop j.toNat := by
  by_cases h : j ≤ g.length
  · exact cut_lo h0 h
  · obtain ⟨n, rfl⟩ := Int.eq_ofNat_of_zero_le h0
    unfold cutI
    rw [HT.sIx_nat, HT.sIx_none, Nat.min_eq_right (by omega), Int.toNat_natCast, List.drop_of_length_le (Nat.le_refl _), List.drop_of_length_le (by omega), List.take_nil]
section
variable {P : Program} {w : World} {K : PySem.W.Frag} {mg : Str → Option Value} {base : Heap} {k : Nat} {f C : Addr}
/-! ### stream_without, with_front, with_first -/
def aSwo : ASp := fun ds M R => ∃ (s : Stm) (c : Nat), ds = [stV s, .int (c : Int)] ∧ s.2 ≠ [] ∧ s.2.length ≤ 1000 ∧ R (stV (swo s c)) M
theorem b_stream_without (m3 : mg "len" = none) : BodyOk P w K mg base k f n_stream_without "stream_without" (defScope s_stream_without) (defBody s_stream_without) aSwo := by
  rintro cdv A outer s0 H E hr ds M R ⟨s, c, rfl, hn, hl2, hp⟩
  have hl : 0 < s.2.length := List.length_pos_iff.mpr hn
  refine as_cons (as_asg ((v_ 0).val (ag_tup rfl (ags_cons (ag_name 2 q_stream_without.nd (ags_cons (ag_name 3 q_stream_without.nd (ags_nil ?_))))))))
  refine as_cons (as_ifd (p := (c : Int) ≤ (s.1.length : Int)) (at_cmp (v_ 1) (len_ (av_len m3 (v_ 2) .t)) cmp_le ⟨rfl, rfl⟩) (fun h => ?_) (fun h => as_nil ?_))
  · have hs : swo s c = (s.1.drop c, s.2) := if_pos (by omega)
    rw [hs] at hp
    refine as_one (as_ret (ae_tup (aa_cons (aE.val (av_sliceT (v_ 2) (ao_some (v_ 1)) ao_none) (aa_cons ((v_ 3).val (aa_nil ⟨szb, .ok ?_⟩)))))))
    rw [cut_map, cut_loN (by omega), Int.toNat_natCast]
    exact hp
  · have hs : swo s c = ([], rotL s.2 ((c - s.1.length) % s.2.length)) := if_neg (by omega)
    rw [hs] at hp
    have hk : ((c : Int) - (s.1.length : Int)) % (s.2.length : Int) = (((c - s.1.length) % s.2.length : Nat) : Int) := by
      have e : (c : Int) - (s.1.length : Int) = ((c - s.1.length : Nat) : Int) := by omega
      rw [e, Int.natCast_emod]
    have hm := Nat.mod_lt (c - s.1.length) hl
    refine as_cons (as_set 4 q_stream_without.nd (aE.val (av_mod (av_sub (v_ 1) (len_ (av_len m3 (v_ 2) .t))) (len_ (av_len m3 (v_ 3) .t)) (by omega)) ?_))
    rw [hk]
    refine as_one (as_ret (ae_tup (aa_cons (aE.val (av_tup avs_nil szb) (aa_cons (aE.val (av_catT (av_sliceT (v_ 3) (ao_some (v_ 4)) ao_none) (av_sliceT (v_ 3) ao_none (ao_some (v_ 4))) ?_) (aa_nil ⟨szb, .ok ?_⟩)))))))
    · rw [cut_map, cut_map, List.length_map, List.length_map]
      have := cut_len (g := s.2) (lo := some (((c - s.1.length) % s.2.length : Nat) : Int)) (hi := none)
      have := cut_len (g := s.2) (lo := none) (hi := some (((c - s.1.length) % s.2.length : Nat) : Int))
      exact sz (by omega)
    · rw [cut_map, cut_map, cut_loN (by omega), cut_hi (by omega) (by omega), Int.toNat_natCast, ← List.map_append]
      exact hp
abbrev GSwo (P : Program) (w : World) (K : PySem.W.Frag) (mg : Str → Option Value) (base : Heap) : Prop := Gd P w K mg base 1 "stream_without" [] fun ds _ => aSwo ds
/-! ### common_multiple -/
def nL (ns : List Nat) : List Int := ns.map fun (n : Nat) => (n : Int)
end
end K39
namespace K39
open PySem L2 Ab Sm
inductive Wd where
  | sum | least | greatest
def Wd.str : Wd → Str
  | .sum => "sum"
  | .least => "least"
  | .greatest => "greatest"
def opV : Wd → List Int → Int
  | .sum, ns => ns.sum
  | .least, ns => minL ns
  | .greatest, ns => maxL ns
end K39
namespace K39
open PySem L2 Ab Sm
/-! ### schedules -/
structure Lim (s : Stm) : Prop where
  l1 : s.1.length ≤ 12
  l2 : s.2.length ≤ 6
  ne : s.2 ≠ []
  a1 : ∀ v ∈ s.1, okI v
  a2 : ∀ v ∈ s.2, okI v
structure Sc where
  a : Int
  sp : Stm
  lv : Stm
def schF (S : Sc) : List (Str × Val) := [("own_arity", .int S.a), ("own_spine", stV S.sp), ("own_levels", stV S.lv)]
def scV (C : Addr) (S : Sc) : Val := .obj C (schF S)
structure GoodS (S : Sc) : Prop where
  a2 : 2 ≤ S.a
  a9 : S.a ≤ 9
  ns : NF S.sp
  ls : Lim S.sp
  nl : NF S.lv
  ll : Lim S.lv
  lf : item S.lv 0 ≠ 0
theorem item_mem {s : Stm} (hn : s.2 ≠ []) (i : Nat) : item s i ∈ s.1 ∨ item s i ∈ s.2 := by
  have hl : 0 < s.2.length := List.length_pos_iff.mpr hn
  by_cases h : i < s.1.length
  · left
    rw [item_lt h, gd_eq h]
    exact List.getElem_mem h
  · right
    rw [item_ge (by omega)]
    unfold lp
    rw [gd_eq (Nat.mod_lt _ hl)]
    exact List.getElem_mem _
theorem Lim.item {s : Stm} (h : Lim s) (i : Nat) : okI (item s i) := by
  rcases item_mem h.ne i with z | z
  · exact h.a1 _ z
  · exact h.a2 _ z
theorem GoodS.ext {S T : Sc} (hS : GoodS S) (hT : GoodS T) (ha : S.a = T.a) (h1 : ∀ i, item S.sp i = item T.sp i) (h2 : ∀ i, item S.lv i = item T.lv i) : S = T := by
  cases S
  cases T
  have e1 := uniq hS.ns hT.ns h1
  have e2 := uniq hS.nl hT.nl h2
  subst ha e1 e2
  rfl
structure Rs (K : PySem.W.Frag) (mg : Str → Option Value) (C : Addr) : Prop where
  cl : Cls K C
  nA : NoAttr K C "own_arity"
  nS : NoAttr K C "own_spine"
  nL : NoAttr K C "own_levels"
  gC : mg "Schedule" = some (.ref C)
structure Lm (mg : Str → Option Value) (t1 t2 t3 t4 : Tok) : Prop where
  f : mg "FRONT_LIMIT" = some (.int 12 t1)
  l : mg "LOOP_LIMIT" = some (.int 6 t2)
  b : mg "LABEL_LIMIT" = some (.int 1000000 t3)
  a : mg "ARITY_LIMIT" = some (.int 9 t4)
theorem look_a {S : Sc} : (schF S).lookup ("own_arity" : Str) = some (.int S.a) := by rfl
theorem look_s {S : Sc} : (schF S).lookup ("own_spine" : Str) = some (stV S.sp) := by rfl
theorem look_l {S : Sc} : (schF S).lookup ("own_levels" : Str) = some (stV S.lv) := by rfl
section
variable {P : Program} {w : World} {K : PySem.W.Frag} {mg : Str → Option Value} {base : Heap} {k : Nat} {f C : Addr} {t1 t2 t3 t4 : Tok}
/-! ### checked_stream -/
def aCs : ASp := fun ds M R => ∃ s : Stm, ds = [stV s] ∧ s.2 ≠ [] ∧ s.1.length ≤ 1000 ∧ s.2.length ≤ 1000 ∧ (nf s).1.length ≤ 12 ∧ (nf s).2.length ≤ 6 ∧ (∀ v ∈ (nf s).1 ++ (nf s).2, v ≤ 1000000) ∧ R (stV (nf s)) M
theorem b_checked_stream (L : Lm mg t1 t2 t3 t4) (G : GNf P w K mg base) (m3 : mg "len" = none) (m4 : mg "max" = none) : BodyOk P w K mg base 2 f n_checked_stream "checked_stream" (defScope s_checked_stream) (defBody s_checked_stream) aCs := by
  rintro cdv A outer s0 H E hr ds M R ⟨s, rfl, hn, h1, h2, h3, h4, h5, hp⟩
  have hu := hr.u64
  have hne := (nf_spec hn).nf.ne
  have hpos : 0 < (nf s).2.length := List.length_pos_iff.mpr hne
  refine as_cons (as_asg (ae_g G hr (by decide) (aa_cons ((av_ixT (v_ 0) i_ rfl).val (aa_cons ((av_ixT (v_ 0) i_ rfl).val (aa_nil (ak_nil ⟨rfl, s, rfl, hn, h1, h2, ag_tup rfl (ags_cons (ag_name 1 q_checked_stream.nd (ags_cons (ag_name 2 q_checked_stream.nd (ags_nil ?_)))))⟩))))))))
  refine as_cons (as_if (at_cmp (len_ (av_len m3 (v_ 1) .t)) (av_gint L.f) cmp_gt ⟨fun h => ?_, fun _ => as_nil ?_⟩))
  · rw [decide_eq_true_eq] at h
    omega
  refine as_cons (as_if (at_cmp (len_ (av_len m3 (v_ 2) .t)) (av_gint L.l) cmp_gt ⟨fun h => ?_, fun _ => as_nil ?_⟩))
  · rw [decide_eq_true_eq] at h
    omega
  refine as_cons (as_if (at_cmpM (ae_maxT m4 rfl hu (aE.val (av_catT (v_ 1) (v_ 2) (sz (by rw [List.length_map, List.length_map]; omega))) ⟨(nf s).1 ++ (nf s).2, by rw [List.map_append], by rw [List.length_append]; omega, fun m hm _ => (av_gint L.b).val ⟨_, cmp_gt, fun h => ?_, fun _ => as_nil ?_⟩⟩))))
  · rw [decide_eq_true_eq] at h
    have := h5 m hm
    omega
  exact as_one (as_ret (aE.val (av_tup (avs_cons (v_ 1) (avs_cons (v_ 2) avs_nil)) szb) (.ok hp)))
abbrev GCs (P : Program) (w : World) (K : PySem.W.Frag) (mg : Str → Option Value) (base : Heap) : Prop := Gd P w K mg base 3 "checked_stream" [] fun ds _ => aCs ds
/-! ### Schedule.is_stream, __init__ -/
def aIss : ASp := fun ds M R => ∃ s : Stm, ds = [stV s] ∧ Lim s ∧ R (.bl true) M
theorem b_is_stream (L : Lm mg t1 t2 t3 t4) (G : GItems P w K mg base) (m1 : mg "isinstance" = none) (m2 : mg "tuple" = none) (m3 : mg "len" = none) : BodyOk P w K mg base 2 f n_Schedule_is_stream "Schedule.is_stream" (defScope c_Schedule_is_stream) (defBody c_Schedule_is_stream) aIss := by
  rintro cdv A outer s0 H E hr ds M R ⟨s, rfl, hs, hp⟩
  have hpos : 0 < s.2.length := List.length_pos_iff.mpr hs.ne
  have q1 := hs.l1
  have q2 := hs.l2
  refine as_cons (as_if (at_w (aw_or (at_not (at_val (ae_isi m1 (v_ 0) (av_ty (T := "tuple") m2 (by decide +kernel)) (.ty "tuple") (.tup _) (kit_ty (by decide +kernel)) ⟨true, rfl, nft, fun _ => ?_⟩))))))
  refine aw_or1 (at_cmp (av_len m3 (v_ 0) .t) i_ cmp_neI ⟨nft, fun _ => as_nil ?_⟩)
  refine as_one (as_ret (ae_and (ae_g G hr (by decide) (aa_cons ((av_ixT (v_ 0) i_ rfl).val (aa_cons (i_.val (aa_cons ((av_gint L.f).val (aa_nil (ak_nil ⟨rfl, s.1, 0, 12, rfl, by omega, by omega, by decide, hs.a1, true, rfl, fun _ => ?_, ntf⟩)))))))))))
  exact ae_one (ae_g G hr (by decide) (aa_cons ((av_ixT (v_ 0) i_ rfl).val (aa_cons (i_.val (aa_cons ((av_gint L.l).val (aa_nil (ak_nil ⟨rfl, s.2, 1, 6, rfl, by omega, by omega, by decide, hs.a2, .ok hp⟩)))))))))
structure Cs (P : Program) (w : World) (K : PySem.W.Frag) (mg : Str → Option Value) (base : Heap) (C p g : Addr) : Prop where
  rd : ClX.CRead K C (.type "type")
  sm : SMet K C (.type "type") "is_stream" p g
  fx : FX P w K mg base 3 g fun ds _ => aIss ds
def aInitS (C : Addr) : ASp := fun ds M R => ∃ (p : Addr) (a : Int) (sp lv : Stm) (M0 : Mem), ds = [.ptr p, .int a, stV sp, stV lv] ∧ M = (p, .ins C []) :: M0 ∧ 2 ≤ a ∧ a ≤ 9 ∧ Lim sp ∧ Lim lv ∧ item lv 0 ≠ 0 ∧ R .non ((p, .ins C (schF ⟨a, nf sp, nf lv⟩)) :: M0)
theorem b_init {pS gS : Addr} (T : Rs K mg C) (L : Lm mg t1 t2 t3 t4) (G1 : GInt P w K mg base) (G2 : Cs P w K mg base C pS gS) (G3 : GItem P w K mg base) (G4 : GNf P w K mg base) :
    BodyOk P w K mg base 3 f n_Schedule___init__ "Schedule.__init__" (defScope c_Schedule___init__) (defBody c_Schedule___init__) (aInitS C) := by
  rintro cdv A outer s0 H E hr ds M R ⟨p, a, sp, lv, M0, rfl, rfl, ha2, ha9, hs, hl, h0, hp⟩
  have q1 := hs.l1
  have q2 := hs.l2
  have q3 := hl.l1
  have q4 := hl.l2
  refine as_cons (as_if (at_not (at_val (ae_g G1 hr (by decide) (aa_cons ((v_ 1).val (aa_nil (ak_cons (i_.val (ak_cons ((av_gint L.a).val (ak_nil ⟨rfl, rfl, a, some 2, some 9, rfl, true, ?_, nft, fun _ => as_nil ?_⟩))))))))))))
  · have e : within a (some 2) (some 9) = true := by simp [within]; omega
    rw [e]
  refine as_cons (as_if (at_not (at_val (ae_smeth G2.rd G2.sm G2.fx hr (ae_glob T.gC ⟨rfl, rfl⟩) (aa_cons ((v_ 2).val (aa_nil (ak_nil ⟨rfl, sp, rfl, hs, true, rfl, nft, fun _ => as_nil ?_⟩))))))))
  refine as_cons (as_if (at_not (at_val (ae_smeth G2.rd G2.sm G2.fx hr (ae_glob T.gC ⟨rfl, rfl⟩) (aa_cons ((v_ 3).val (aa_nil (ak_nil ⟨rfl, lv, rfl, hl, true, rfl, nft, fun _ => as_nil ?_⟩))))))))
  refine as_cons (as_if (at_cmpM (ae_g G3 hr (by decide) (aa_cons ((v_ 3).val (aa_cons (i_.val (aa_nil (ak_nil ⟨rfl, lv, 0, rfl, hl.ne, by decide, i_.val ⟨_, cmp_eqI, fun h => ?_, fun _ => as_nil ?_⟩⟩)))))))))
  · rw [decide_eq_true_eq] at h
    exact absurd h h0
  refine as_cons (as_fld T.cl T.nA ((v_ 1).val ((v_ 0).val ⟨0, p, _, rfl, rfl, Nat.le_of_ble_eq_true rfl, ?_⟩)))
  refine as_cons (as_fld T.cl T.nS (ae_g G4 hr (by decide) (aa_cons ((av_ixT (v_ 2) i_ rfl).val (aa_cons ((av_ixT (v_ 2) i_ rfl).val (aa_nil (ak_nil ⟨rfl, sp, rfl, hs.ne, by omega, by omega, (v_ 0).val ⟨0, p, _, rfl, rfl, Nat.le_of_ble_eq_true rfl, ?_⟩⟩))))))))
  refine as_one (as_fld T.cl T.nL (ae_g G4 hr (by decide) (aa_cons ((av_ixT (v_ 3) i_ rfl).val (aa_cons ((av_ixT (v_ 3) i_ rfl).val (aa_nil (ak_nil ⟨rfl, lv, rfl, hl.ne, by omega, by omega, (v_ 0).val ⟨0, p, _, rfl, rfl, Nat.le_of_ble_eq_true rfl, .ok ?_⟩⟩))))))))
  exact hp
structure Mks (P : Program) (w : World) (K : PySem.W.Frag) (mg : Str → Option Value) (base : Heap) (C : Addr) : Prop where
  ex : ∃ fi, Mk K C fi ∧ FnX P w K mg base 4 fi ["spine", "levels"] (spX K fun ds es M R => ds.length = 2 ∧ aInitS C (ds ++ es) M R)
/-- Schedule(a, spine=s, levels=l) -/
theorem ae_sch {X : Cx} {Γ : Gam} {M : Mem} {R : Val → Mem → Prop} {e e1 e2 : Expr} {p1 p2 p3 pos : Pos} {m : Nat} (T : Rs X.K X.mg C) (I : Mks X.prog X.w X.K X.mg X.base C) (hr : Rm m X.A) (hm : 5 ≤ m)
    (h : aE X e Γ M fun x M1 => aE X e1 Γ M1 fun y M2 => aE X e2 Γ M2 fun z M3 => ∃ a sp lv, x = .int a ∧ y = stV sp ∧ z = stV lv ∧ 2 ≤ a ∧ a ≤ 9 ∧ Lim sp ∧ Lim lv ∧ item lv 0 ≠ 0 ∧ R (scV C ⟨a, nf sp, nf lv⟩) M3)
    (hg : Gl X "Schedule" := by rfl) (he : starEach [e] X.env = (false, eval e X.env) :: starEach [] X.env := by rfl) : aE X (.Call (.Name "Schedule" p1) [e] [⟨some "spine", e1, p2⟩, ⟨some "levels", e2, p3⟩] pos) Γ M R := by
  obtain ⟨fi, mk, F⟩ := I.ex
  refine ae_frzO (ae_make mk F (hr.mono hm) T.gC (aa_cons (h.mono fun x M1 h1 => aa_nil (ak_cons (h1.mono fun y M2 h2 => ak_cons (h2.mono fun z M3 h3 => ak_nil ⟨rfl, fun p hn => ⟨rfl, ?_⟩⟩)))) he) hg rfl rfl (by decide) he (by rw [he]; rfl))
  obtain ⟨a, sp, lv, rfl, rfl, rfl, a2, a9, hs, hl, h0, hR⟩ := h3
  exact ⟨p, a, sp, lv, M3, rfl, rfl, a2, a9, hs, hl, h0, rfl, p, C, _, _, rfl, rfl, hR⟩
/-! ### made_schedule -/
def aMd (C : Addr) : ASp := fun ds M R => ∃ (a : Int) (s l : Stm), ds = [.int a, stV s, stV l] ∧ 2 ≤ a ∧ a ≤ 9 ∧ s.2 ≠ [] ∧ s.1.length ≤ 1000 ∧ s.2.length ≤ 1000 ∧ l.2 ≠ [] ∧ l.1.length ≤ 1000 ∧ l.2.length ≤ 1000 ∧ Lim (nf s) ∧ Lim (nf l) ∧ item l 0 ≠ 0 ∧ R (scV C ⟨a, nf s, nf l⟩) M
theorem Lim.top {s : Stm} (h : Lim s) : ∀ v ∈ s.1 ++ s.2, v ≤ 1000000 := fun v hv => by
  rcases List.mem_append.mp hv with z | z
  · exact (h.a1 v z).2
  · exact (h.a2 v z).2
theorem b_made_schedule (T : Rs K mg C) (I : Mks P w K mg base C) (G : GCs P w K mg base) : BodyOk P w K mg base 5 f n_made_schedule "made_schedule" (defScope s_made_schedule) (defBody s_made_schedule) (aMd C) := by
  rintro cdv A outer s0 H E hr ds M R ⟨a, s, l, rfl, a2, a9, h1, h2, h3, h4, h5, h6, ls, ll, h0, hp⟩
  have ns := nf_spec h1
  have nl := nf_spec h4
  refine as_cons (as_set 1 q_made_schedule.nd (ae_g G hr (by decide) (aa_cons ((v_ 1).val (aa_nil (ak_nil ⟨rfl, s, rfl, h1, h2, h3, ls.l1, ls.l2, ls.top, ?_⟩))))))
  refine as_one (as_ret (ae_sch T I hr (by decide) ((v_ 0).val ((v_ 1).val (ae_g G hr (by decide) (aa_cons ((v_ 2).val (aa_nil (ak_nil ⟨rfl, l, rfl, h4, h5, h6, ll.l1, ll.l2, ll.top, a, nf s, nf l, rfl, rfl, rfl, a2, a9, ls, ll, by rw [nl.it]; exact h0, .ok ?_⟩)))))))))
  rw [nf_nf ns.nf, nf_nf nl.nf]
  exact hp
abbrev GMd (P : Program) (w : World) (K : PySem.W.Frag) (mg : Str → Option Value) (base : Heap) (C : Addr) : Prop := Gd P w K mg base 6 "made_schedule" [] fun ds _ => aMd C ds
end
end K39
namespace K39
open PySem L2 Ab Sm
/-- a made schedule is good -/
theorem good_nf {a : Int} {s l : Stm} (a2 : 2 ≤ a) (a9 : a ≤ 9) (h1 : s.2 ≠ []) (h2 : l.2 ≠ []) (ls : Lim (nf s)) (ll : Lim (nf l)) (h0 : item l 0 ≠ 0) : GoodS ⟨a, nf s, nf l⟩ :=
  ⟨a2, a9, (nf_spec h1).nf, ls, (nf_spec h2).nf, ll, by rw [(nf_spec h2).it]; exact h0⟩
theorem lim_nf {s : Stm} (hn : s.2 ≠ []) (h1 : s.1.length ≤ 12) (h2 : s.2.length ≤ 6) (h3 : ∀ v ∈ s.1, okI v) (h4 : ∀ v ∈ s.2, okI v) : Lim (nf s) :=
  have q := nf_spec hn
  ⟨Nat.le_trans q.l1 h1, Nat.le_trans q.l2 h2, q.nf.ne, fun v hv => h3 v (q.m1 v hv), fun v hv => h4 v (q.m2 v hv)⟩
section
variable {P : Program} {w : World} {K : PySem.W.Frag} {mg : Str → Option Value} {base : Heap} {k : Nat} {f C : Addr} {t1 t2 t3 t4 : Tok}
theorem av_a {X : Cx} {Γ : Gam} {M : Mem} {e : Expr} {S : Sc} {pos : Pos} (T : Rs X.K X.mg C) (h : aV X e Γ M (scV C S)) (hb : attributeBase e "own_arity" X.env (eval e X.env) = eval e X.env := by rfl) : aV X (.Attribute e "own_arity" pos) Γ M (.int S.a) := av_fld T.cl T.nA h (.im _) look_a hb
theorem av_s {X : Cx} {Γ : Gam} {M : Mem} {e : Expr} {S : Sc} {pos : Pos} (T : Rs X.K X.mg C) (h : aV X e Γ M (scV C S)) (hb : attributeBase e "own_spine" X.env (eval e X.env) = eval e X.env := by rfl) : aV X (.Attribute e "own_spine" pos) Γ M (stV S.sp) := av_fld T.cl T.nS h (.im _) look_s hb
theorem av_l {X : Cx} {Γ : Gam} {M : Mem} {e : Expr} {S : Sc} {pos : Pos} (T : Rs X.K X.mg C) (h : aV X e Γ M (scV C S)) (hb : attributeBase e "own_levels" X.env (eval e X.env) = eval e X.env := by rfl) : aV X (.Attribute e "own_levels" pos) Γ M (stV S.lv) := av_fld T.cl T.nL h (.im _) look_l hb
/-! ### spine_at, level_at, arity -/
def aSat (C : Addr) : ASp := fun ds M R => ∃ (S : Sc) (i : Int), ds = [scV C S, .int i] ∧ GoodS S ∧ 0 ≤ i ∧ R (.int (item S.sp i.toNat)) M
def aLat (C : Addr) : ASp := fun ds M R => ∃ (S : Sc) (i : Int), ds = [scV C S, .int i] ∧ GoodS S ∧ 0 ≤ i ∧ R (.int (item S.lv i.toNat)) M
theorem b_spine_at (T : Rs K mg C) (G1 : GChk P w K mg base) (G2 : GItem P w K mg base) : BodyOk P w K mg base 2 f n_Schedule_spine_at "Schedule.spine_at" (defScope c_Schedule_spine_at) (defBody c_Schedule_spine_at) (aSat C) := by
  rintro cdv A outer s0 H E hr ds M R ⟨S, i, rfl, hS, h0, hp⟩
  refine as_cons (as_expr (ae_g G1 hr (by decide) (aa_cons ((v_ 1).val (aa_cons (i_.val (aa_nil (ak_nil ⟨rfl, rfl, i, 0, rfl, h0, ?_⟩))))))))
  exact as_one (as_ret (ae_g G2 hr (by decide) (aa_cons ((av_s T (v_ 0)).val (aa_cons ((v_ 1).val (aa_nil (ak_nil ⟨rfl, S.sp, i, rfl, hS.ns.ne, h0, .ok hp⟩))))))))
theorem b_level_at (T : Rs K mg C) (G1 : GChk P w K mg base) (G2 : GItem P w K mg base) : BodyOk P w K mg base 2 f n_Schedule_level_at "Schedule.level_at" (defScope c_Schedule_level_at) (defBody c_Schedule_level_at) (aLat C) := by
  rintro cdv A outer s0 H E hr ds M R ⟨S, i, rfl, hS, h0, hp⟩
  refine as_cons (as_expr (ae_g G1 hr (by decide) (aa_cons ((v_ 1).val (aa_cons (i_.val (aa_nil (ak_nil ⟨rfl, rfl, i, 0, rfl, h0, ?_⟩))))))))
  exact as_one (as_ret (ae_g G2 hr (by decide) (aa_cons ((av_l T (v_ 0)).val (aa_cons ((v_ 1).val (aa_nil (ak_nil ⟨rfl, S.lv, i, rfl, hS.nl.ne, h0, .ok hp⟩))))))))
def aAri (C : Addr) : ASp := fun ds M R => ∃ (S : Sc), ds = [scV C S] ∧ R (.int S.a) M
theorem b_arity (T : Rs K mg C) : BodyOk P w K mg base k f n_Schedule_arity "Schedule.arity" (defScope c_Schedule_arity) (defBody c_Schedule_arity) (aAri C) := by
  rintro cdv A outer s0 H E hr ds M R ⟨S, rfl, hp⟩
  exact as_one (as_ret ((av_a T (v_ 0)).val (.ok hp)))
/-! ### delayed, times -/
end
end K39
namespace K39
open PySem L2 Ab Sm
/-! ### == of schedules -/
theorem toD_st (s : Stm) : toD (stV s) = some (.tuple [.tuple (s.1.map PyData.int), .tuple (s.2.map PyData.int)]) := by
  refine toD_tup ?_
  unfold toDs
  rw [show toD (iT s.1) = some (.tuple (s.1.map PyData.int)) from toD_tup (toDs_ints s.1)]
  show ((toDs [iT s.2]).map fun ds => PyData.tuple (s.1.map PyData.int) :: ds) = _
  unfold toDs
  rw [show toD (iT s.2) = some (.tuple (s.2.map PyData.int)) from toD_tup (toDs_ints s.2)]
  rfl
theorem shaped_st (s : Stm) : SeqAt.shaped (.tuple [.tuple (s.1.map PyData.int), .tuple (s.2.map PyData.int)]) = true := by
  simp [SeqAt.shaped, PyData.canLay0, PyData.canLayAll0, PyData.depth, PyData.depthAll, lay_ints, dep_ints]
theorem eqv_st (s t : Stm) : PyData.eqv (.tuple [.tuple (s.1.map PyData.int), .tuple (s.2.map PyData.int)]) (.tuple [.tuple (t.1.map PyData.int), .tuple (t.2.map PyData.int)]) = decide (s = t) := by
  simp only [PyData.eqv, PyData.eqvAll, eqv_ints, Bool.and_true]
  obtain ⟨a, b⟩ := s
  obtain ⟨c, d⟩ := t
  simp [Prod.mk.injEq]
theorem cmp_eqST {X : Cx} {M : Mem} {s t : Stm} (hu : X.A.units + 64 < cLine) : Cmp X .Eq M (stV s) (stV t) (decide (s = t)) := by
  have h := cmp_eqD (X := X) (M := M) (.self (stV s)) (.self (stV t)) (toD_st s) (toD_st t) (shaped_st s) (shaped_st t) hu
  rw [eqv_st] at h
  exact h
noncomputable def relS (fs gs : List (Str × Val)) : Bool := @decide (fs = gs) (Classical.propDecidable _)
def goodF (fs : List (Str × Val)) : Prop := ∃ S : Sc, fs = schF S ∧ GoodS S
theorem iT_inj {xs ys : List Int} (h : iT xs = iT ys) : xs = ys := by
  unfold iT at h
  have h2 : xs.map Val.int = ys.map Val.int := by injection h
  exact List.map_inj_right (fun a b e => by injection e) |>.mp h2
theorem stV_inj {s t : Stm} (h : stV s = stV t) : s = t := by
  unfold stV at h
  have h2 : [iT s.1, iT s.2] = [iT t.1, iT t.2] := by injection h
  have h3 := (List.cons.inj h2).1
  have h4 := (List.cons.inj (List.cons.inj h2).2).1
  exact Prod.ext (iT_inj h3) (iT_inj h4)
theorem schF_inj {S T : Sc} (h : schF S = schF T) : S = T := by
  unfold schF at h
  have h1 := (List.cons.inj h).1
  have h2 := (List.cons.inj (List.cons.inj h).2).1
  have h3 := (List.cons.inj (List.cons.inj (List.cons.inj h).2).2).1
  have e1 : Val.int S.a = Val.int T.a := (Prod.mk.inj h1).2
  have e2 := stV_inj (Prod.mk.inj h2).2
  have e3 := stV_inj (Prod.mk.inj h3).2
  cases S
  cases T
  cases e1
  simp only at e2 e3
  subst e2 e3
  rfl
theorem rel_eq {S T : Sc} (h : S = T) : relS (schF S) (schF T) = true := by
  unfold relS
  exact @decide_eq_true _ (Classical.propDecidable _) (by rw [h])
theorem rel_ne {S T : Sc} (h : S ≠ T) : relS (schF S) (schF T) = false := by
  unfold relS
  exact @decide_eq_false _ (Classical.propDecidable _) fun z => h (schF_inj z)
/-- what isinstance asks of the class -/
structure Isi (K : PySem.W.Frag) (C : Addr) : Prop where
  c1 : PySem.W.findIn K (.ref C) "__class__" = some (some (.builtin "object.__class__"))
  c2 : PySem.W.specialIn K (.builtin "object.__class__") "__get__" = some (some (.builtin "getset_descriptor.__get__"))
  c3 : PySem.W.takesIn K (.builtin "object.__class__") = some true
  c4 : PySem.W.mroIn K C (.type "object") = some true
  c5 : PySem.W.kitOne K (.ref C) (.ref C) = some true
section
variable {P : Program} {w : World} {K : PySem.W.Frag} {mg : Str → Option Value} {base : Heap} {k : Nat} {f C : Addr} {t1 t2 t3 t4 : Tok}
theorem ty_sc {M : Mem} {S : Sc} (T : Rs K mg C) (I : Isi K C) : TyV K M (scV C S) (.ref C) := .ob (.im _) T.cl I.c1 I.c2 I.c3 I.c4
def aEqS (C : Addr) : ASp := fun ds M R => ∃ fs gs, ds = [.obj C fs, .obj C gs] ∧ goodF fs ∧ goodF gs ∧ R (.bl (relS fs gs)) M
theorem b_eq (T : Rs K mg C) (I : Isi K C) (m1 : mg "isinstance" = none) : BodyOk P w K mg base k f n_Schedule___eq__ "Schedule.__eq__" (defScope c_Schedule___eq__) (defBody c_Schedule___eq__) (aEqS C) := by
  rintro cdv A outer s0 H E hr ds M R ⟨fs, gs, rfl, ⟨S, rfl, hS⟩, ⟨S', rfl, hS'⟩, hp⟩
  have hu := hr.u64
  refine as_cons (as_if (at_w (aw_or (at_not (at_val (ae_isi m1 (d1 := scV C S') (v_ 1) (ae_glob T.gC ⟨rfl, rfl⟩) (.own C) (ty_sc T I) I.c5 ⟨true, rfl, nft, fun _ => ?_⟩))))))
  have v0 : ∀ {X : Cx} {Γ : Gam} {M : Mem} {e : Expr}, aV X e Γ M (.obj C (schF S)) → aV X e Γ M (scV C S) := fun h => h
  have v1 : ∀ {X : Cx} {Γ : Gam} {M : Mem} {e : Expr}, aV X e Γ M (.obj C (schF S')) → aV X e Γ M (scV C S') := fun h => h
  by_cases ha : S.a = S'.a
  · refine aw_or1 (at_cmp (av_a T (v0 (v_ 0))) (av_a T (v1 (v_ 1))) cmp_neI ⟨fun h => ?_, fun _ => as_nil ?_⟩)
    · rw [decide_eq_true ha] at h
      exact absurd h (by decide)
    refine as_one (as_ret (ae_and (ae_cmp (av_s T (v0 (v_ 0))) (av_s T (v1 (v_ 1))) (cmp_eqST hu) ⟨_, rfl, fun h => ?_, fun h => .ok ?_⟩)))
    · rw [decide_eq_true_eq] at h
      refine ae_one (ae_cmp (av_l T (v0 (v_ 0))) (av_l T (v1 (v_ 1))) (cmp_eqST hu) (.ok ?_))
      by_cases hl : S.lv = S'.lv
      · rw [decide_eq_true hl]
        have e : S = S' := by
          cases S
          cases S'
          simp only at ha h hl
          subst ha h hl
          rfl
        rw [rel_eq e] at hp
        exact hp
      · rw [decide_eq_false hl]
        rw [rel_ne (S := S) (T := S') fun z => hl (by rw [z])] at hp
        exact hp
    · rw [decide_eq_false_iff_not] at h
      rw [rel_ne (S := S) (T := S') fun z => h (by rw [z])] at hp
      exact hp
  · refine aw_or1 (at_cmp (av_a T (v0 (v_ 0))) (av_a T (v1 (v_ 1))) cmp_neI ⟨fun _ => ?_, fun h => ?_⟩)
    · refine as_one (as_ret (ae_bl (.ok ?_)))
      rw [rel_ne (S := S) (T := S') fun z => ha (by rw [z])] at hp
      exact hp
    · rw [decide_eq_false ha] at h
      exact absurd h (by decide)
/-! ### combined_schedules -/
end
/-- six items on, from the twelfth -/
def P6 (s : Stm) : Prop := ∀ i, 12 ≤ i → item s (i + 6) = item s i
end K39
namespace Ab
open PySem PySem.Spec PyProof.Rows L2
end Ab
namespace Ab
open PySem PySem.Spec PyProof.Rows L2
/-! ### tests by a plain Prop -/
section
variable {X : Cx} {Γ : Gam} {M : Mem} {P : Val → Mem → Prop} {e a b c o : Expr} {es : List Expr} {pos p1 p2 apos kpos : Pos} {k : AK} {d d1 d2 d3 : Val} {i j l : Int} {x y m : Str} {n : Nat} {f C : Addr} {p q : Prop}
def TP (X : Cx) (c : Expr) (Γ : Gam) (M : Mem) (p : Prop) : Prop := ∃ b : Bool, aB X c Γ M b ∧ (b = true ↔ p)
def CP (X : Cx) (op : CmpOp) (M : Mem) (x y : Val) (p : Prop) : Prop := ∃ b : Bool, Cmp X op M x y b ∧ (b = true ↔ p)
theorem cp_lt : CP X .Lt M (.int i) (.int j) (i < j) := ⟨_, cmp_lt, decide_eq_true_iff⟩
theorem cp_le : CP X .LtE M (.int i) (.int j) (i ≤ j) := ⟨_, cmp_le, decide_eq_true_iff⟩
theorem cp_gt : CP X .Gt M (.int i) (.int j) (j < i) := ⟨_, cmp_gt, decide_eq_true_iff⟩
theorem cp_eq : CP X .Eq M (.int i) (.int j) (i = j) := ⟨_, cmp_eqI, decide_eq_true_iff⟩
theorem cp_eqL {ns ms : List Int} (v1 : Vw M d1 (.lst (ns.map .int))) (v2 : Vw M d2 (.lst (ms.map .int))) (hu : X.A.units + 64 < cLine) : CP X .Eq M d1 d2 (ns = ms) := ⟨_, cmp_eqLI v1 v2 hu, decide_eq_true_iff⟩
theorem tp_cmp {op : CmpOp} (ha : aV X a Γ M d1) (hb : aV X b Γ M d2) (hc : CP X op M d1 d2 p) (hm : behindInMarks op b = false := by first | exact nomark _ | rfl) : TP X (.Compare a [op] [b] pos) Γ M p := by
  obtain ⟨k, h, i⟩ := hc
  exact ⟨k, at_cmp ha hb h ⟨rfl, rfl⟩ hm, i⟩
theorem as_ifp {s1 s2 : List Stmt} (h : TP X c Γ M p) (h1 : p → aSs X s1 Γ M k) (h2 : ¬ p → aSs X s2 Γ M k) : aS X (.If c s1 s2 pos) Γ M k := by
  obtain ⟨b, h, i⟩ := h
  exact as_if (h.val ⟨fun z => h1 (i.mp z), fun z => h2 fun y => by rw [i.mpr y] at z; cases z⟩)
theorem ae_ifp (h : TP X c Γ M p) (h1 : p → aE X a Γ M P) (h2 : ¬ p → aE X b Γ M P) : aE X (.IfExp c a b pos) Γ M P := by
  obtain ⟨b, h, i⟩ := h
  exact ae_if (h.val ⟨fun z => h1 (i.mp z), fun z => h2 fun y => by rw [i.mpr y] at z; cases z⟩)
theorem av_ifI [Decidable p] (h : TP X c Γ M p) (h1 : p → aV X a Γ M (.int i)) (h2 : ¬ p → aV X b Γ M (.int j)) : aV X (.IfExp c a b pos) Γ M (.int (if p then i else j)) := by
  refine ae_ifp h (fun z => ?_) fun z => ?_
  · rw [if_pos z]
    exact h1 z
  · rw [if_neg z]
    exact h2 z
/-! ### slots forgotten -/
def Le : Gam → Gam → Prop
  | [], [] => True
  | none :: a, _ :: b => Le a b
  | some d :: a, e :: b => e = some d ∧ Le a b
  | _, _ => False
theorem Le.spec : ∀ {A B : Gam}, Le A B → A.length = B.length ∧ ∀ (i : Nat) (d : Val), A[i]? = some (some d) → B[i]? = some (some d)
  | [], [], _ => ⟨rfl, fun i d h => by simp at h⟩
  | none :: a, x :: b, h => by
    obtain ⟨h1, h2⟩ := Le.spec (A := a) (B := b) h
    refine ⟨by simp [h1], fun i d q => ?_⟩
    cases i with
    | zero => simp at q
    | succ i => exact h2 i d (by simpa using q)
  | some d :: a, e :: b, h => by
    obtain ⟨rfl, h⟩ := h
    obtain ⟨h1, h2⟩ := Le.spec (A := a) (B := b) h
    refine ⟨by simp [h1], fun i d' q => ?_⟩
    cases i with
    | zero => simpa using q
    | succ i => exact h2 i d' (by simpa using q)
  | [], _ :: _, h => h.elim
  | none :: _, [], h => h.elim
  | some _ :: _, [], h => h.elim
theorem Le.env {K : PySem.W.Frag} {H : Hp} {Γ Γ' : Gam} {σ : L2.St} (h : Le Γ' Γ) (en : EnvR K H Γ σ) : EnvR K H Γ' σ := en.drop h.spec.1 h.spec.2
theorem Le.refl : ∀ {Γ : Gam}, Le Γ Γ
  | [] => trivial
  | none :: a => Le.refl (Γ := a)
  | some d :: a => ⟨rfl, Le.refl (Γ := a)⟩
theorem as_le {Γ' : Gam} {s : List Stmt} (l : Le Γ' Γ) (h : aSs X s Γ' M k) : aSs X s Γ M k := fun Hi H σ ok en D q => h Hi H σ ok (l.env en) D q
/-- cells forgotten -/
theorem as_sub {M' : Mem} {s : List Stmt} (l : M'.Sublist M) (h : aSs X s Γ M' k) : aSs X s Γ M k := fun Hi H σ ok en D q => h Hi H σ (ok.sub l) en D q
theorem as_wk {Γ' : Gam} {M' : Mem} {s : List Stmt} (l : Le Γ' Γ) (l2 : M'.Sublist M) (h : aSs X s Γ' M' k) : aSs X s Γ M k := as_le l (as_sub l2 h)
theorem Le.trans : ∀ {A B C : Gam}, Le A B → Le B C → Le A C
  | [], [], C, _, h => h
  | none :: a, x :: b, [], _, h => by cases x <;> exact h.elim
  | none :: a, none :: b, y :: c, h1, h2 => Le.trans (A := a) (B := b) (C := c) h1 h2
  | none :: a, some x :: b, y :: c, h1, h2 => Le.trans (A := a) (B := b) (C := c) h1 h2.2
  | some d :: a, e :: b, [], h1, h2 => by cases e <;> exact h2.elim
  | some d :: a, e :: b, y :: c, h1, h2 => by
    obtain ⟨rfl, h1⟩ := h1
    exact ⟨h2.1, Le.trans (A := a) (B := b) (C := c) h1 h2.2⟩
  | [], _ :: _, _, h, _ => h.elim
  | none :: _, [], _, h, _ => h.elim
  | some _ :: _, [], _, h, _ => h.elim
/-- a loop whose invariant forgets slots and cells -/
abbrev Wk (I : Gam → Mem → Prop) : Gam → Mem → Prop := fun Γ M => ∃ Γ' M', I Γ' M' ∧ Le Γ' Γ ∧ M'.Sublist M
theorem Wk.mono {I : Gam → Mem → Prop} {Γ Γ' : Gam} {M M' : Mem} (l : Le Γ' Γ) (l2 : M'.Sublist M) (h : Wk I Γ' M') : Wk I Γ M := by
  obtain ⟨Γ0, M0, h, a, b⟩ := h
  exact ⟨Γ0, M0, h, a.trans l, b.trans l2⟩
theorem le_nil : Le [] [] := trivial
theorem le_skip {a b : Gam} {x : Option Val} (h : Le a b) : Le (none :: a) (x :: b) := h
theorem le_keep {a b : Gam} {d d' : Val} (e : d' = d) (h : Le a b) : Le (some d :: a) (some d' :: b) := ⟨congrArg some e, h⟩
theorem as_forW {tg iter : Expr} {body : List Stmt} (hp : PassesOwn (model X.prog X.w) X.A X.env X.xe) (hc : X.calm = true)
    (hi : aJ X tg iter Γ M fun n it M1 => ∃ I : Nat → Gam → Mem → Prop, Wk (I 0) Γ M1 ∧ (∀ i Γ M, i < n → I i Γ M → aG X tg (it i) Γ M fun Γ2 M2 => aSs X body Γ2 M2 { k with nx := Wk (I (i + 1)), ct := Wk (I (i + 1)), bk := k.nx }) ∧ ∀ Γ M, I n Γ M → k.nx Γ M)
    (hk : ∀ Γ Γ' M M', Le Γ' Γ → M'.Sublist M → k.nx Γ' M' → k.nx Γ M := by intro _ _ _ _ l l2 h; first | exact as_wk l l2 h | exact Wk.mono l l2 h)
    (hf : ∀ x, foldedSetIterable iter X.env x = pure x := by intro _; rfl) : aS X (.For tg iter body [] pos) Γ M k :=
  as_forJ hp hc (fun Hi H σ ok en R' q => hi Hi H σ ok en R' fun J n it M1 Hi1 H1 ⟨I, h0, hs, hd⟩ => q J n it M1 Hi1 H1 ⟨fun i => Wk (I i), h0, fun i Γ' M' hi' ⟨Γ0, M0, h, l, l2⟩ => fun Hi H σ v ok en r Q q => hs i Γ0 M0 hi' h Hi H σ v (ok.sub l2) (l.env en) r Q q, fun Γ' M' ⟨Γ0, M0, h, l, l2⟩ => hk _ _ _ _ l l2 (hd Γ0 M0 h)⟩) hf
theorem as_whileW {body : List Stmt} (I : Nat → Gam → Mem → Prop) (n : Nat) (hp : PassesOwn (model X.prog X.w) X.A X.env X.xe) (h0 : Wk (I n) Γ M)
    (hs : ∀ n Γ M, I n Γ M → ∃ p, TP X c Γ M p ∧ (p → aSs X body Γ M { k with nx := Wk fun Γ' M' => ∃ m, m < n ∧ I m Γ' M', ct := Wk fun Γ' M' => ∃ m, m < n ∧ I m Γ' M', bk := k.nx }) ∧ (¬ p → k.nx Γ M))
    (hk : ∀ Γ Γ' M M', Le Γ' Γ → M'.Sublist M → k.nx Γ' M' → k.nx Γ M := by intro _ _ _ _ l l2 h; first | exact as_wk l l2 h | exact Wk.mono l l2 h) : aS X (.While c body [] pos) Γ M k :=
  as_while (fun n => Wk (I n)) n hp h0 fun n Γ' M' ⟨Γ0, M0, h, l, l2⟩ => by
    obtain ⟨p, ⟨b, hb, i⟩, h1, h2⟩ := hs n Γ0 M0 h
    intro Hi H σ ok en Q q
    refine hb Hi H σ (ok.sub l2) (l.env en) Q fun b' M1 Hi' H' hh => ?_
    obtain ⟨rfl, rfl⟩ := hh
    refine q _ _ Hi' H' ⟨fun z => ?_, fun z => hk _ _ _ _ l (List.Sublist.refl _) (h2 fun y => by rw [i.mpr y] at z; cases z)⟩
    refine as_le l ((h1 (i.mp z)).mono ?_ (fun _ _ h => h) (fun _ _ h => h) ?_)
    · rintro Γ5 M5 ⟨Γ6, M6, ⟨m, hm, h6⟩, l6, l7⟩
      exact ⟨m, hm, Γ6, M6, h6, l6, l7⟩
    · rintro Γ5 M5 ⟨Γ6, M6, ⟨m, hm, h6⟩, l6, l7⟩
      exact ⟨m, hm, Γ6, M6, h6, l6, l7⟩
/-! ### lengths, items -/
/-- d[i] -/
inductive IxIs (M : Mem) : Val → Int → Val → Prop
  | iT {xs : List Int} {i : Int} : 0 ≤ i → i < xs.length → IxIs M (iT xs) i (.int (at0 xs i))
  | iL {xs : List Int} {i : Int} : 0 ≤ i → i < xs.length → IxIs M (iL xs) i (.int (at0 xs i))
  | ci (n : Nat) {p : Addr} {xs : List Int} {i : Int} : M[n]? = some (p, .lst (xs.map .int)) → 0 ≤ i → i < xs.length → IxIs M (.ptr p) i (.int (at0 xs i))
  | t {xs : List Val} {i : Int} {d : Val} : atI xs i = some d → IxIs M (.tup xs) i d
  | l {xs : List Val} {i : Int} {d : Val} : atI xs i = some d → IxIs M (.lst xs) i d
  | c (n : Nat) {p : Addr} {xs : List Val} {i : Int} {d : Val} : M[n]? = some (p, .lst xs) → atI xs i = some d → IxIs M (.ptr p) i d
theorem av_ix {i : Int} (ha : aV X a Γ M d1) (hb : aV X b Γ M (.int i)) (h : IxIs M d1 i d) (hs : PlainIx b := by exact fun _ _ => rfl) : aV X (.Subscript a b pos) Γ M d := by
  cases h with
  | iT h0 h1 => exact av_ixT ha hb (atI_int h0 h1) hs
  | iL h0 h1 => exact av_ixL ha hb (.self _) (atI_int h0 h1) hs
  | ci n hm h0 h1 => exact av_ixL ha hb (.lst n hm) (atI_int h0 h1) hs
  | t h => exact av_ixT ha hb h hs
  | l h => exact av_ixL ha hb (.self _) h hs
  | c n hm h => exact av_ixL ha hb (.lst n hm) h hs
theorem av_max2 (hm : X.mg "max" = none) (hc : X.calm = true) (ha : aV X a Γ M (.int i)) (hb : aV X b Γ M (.int j)) (hg : Gl X "max" := by rfl)
    (hs : starEach [a, b] X.env = (false, eval a X.env) :: starEach [b] X.env := by rfl) (hs2 : starEach [b] X.env = (false, eval b X.env) :: starEach [] X.env := by rfl) (hpl : (backTo pos (starEach [b] X.env)).any (·.1) = false := by rfl) : aV X (.Call (.Name "max" p1) [a, b] [] pos) Γ M (.int (max i j)) := by
  refine ae_max2 hm hc ha hb ⟨?_, rfl⟩ hg hs hs2 hpl
  congr 1
  split <;> omega
theorem av_min2 (hm : X.mg "min" = none) (hc : X.calm = true) (ha : aV X a Γ M (.int i)) (hb : aV X b Γ M (.int j)) (hg : Gl X "min" := by rfl)
    (hs : starEach [a, b] X.env = (false, eval a X.env) :: starEach [b] X.env := by rfl) (hs2 : starEach [b] X.env = (false, eval b X.env) :: starEach [] X.env := by rfl) (hpl : (backTo pos (starEach [b] X.env)).any (·.1) = false := by rfl) : aV X (.Call (.Name "min" p1) [a, b] [] pos) Γ M (.int (min i j)) := by
  refine ae_min2 hm hc ha hb ⟨?_, rfl⟩ hg hs hs2 hpl
  congr 1
  split <;> omega
theorem av_bl {bb : Bool} {j} : aV X (.Constant (.bool bb) j pos) Γ M (.bl bb) := ae_bl ⟨rfl, rfl⟩
theorem av_gi (hm : ∃ t, X.mg x = some (.int i t)) (hg : Gl X x := by rfl) (hd : (x == ("__debug__" : Str)) = false := by decide) : aV X (.Name x pos) Γ M (.int i) := by
  obtain ⟨t, h⟩ := hm
  exact av_gint h hg hd
theorem as_setv {ps : Pos} (n : Nat) (hN : X.N.Nodup) (he : aV X e Γ M d) (h : k.nx (Γ.set n (some d)) M) (hi : X.N[n]? = some x := by rfl) (hx : Loc X.env.scope x := by first | exact Or.inl rfl | exact Or.inr rfl)
    (hs : swapsWith e (some (.Name x ps)) pos.line X.env = pure false := by rfl) (hf : X.fn x = true ∨ X.env.scope.names.lookup x = some .local := by first | exact .inl rfl | exact .inr rfl | assumption) : aS X (.Assign [.Name x ps] e pos) Γ M k := as_set n hN (he.val h) hi hx hs hf
theorem as_retv (he : aV X e Γ M d) (h : k.rt d M) : aS X (.Return (some e) pos) Γ M k := as_ret (he.val h)
end
end Ab
namespace Ab
open PySem PySem.Spec PyProof.Rows L2
/-- what is still the built-in -/
structure Bt (mg : Str → Option Value) : Prop where
  isinstance : mg "isinstance" = none
  int : mg "int" = none
  bool : mg "bool" = none
  tuple : mg "tuple" = none
  len : mg "len" = none
  enumerate : mg "enumerate" = none
  range : mg "range" = none
  all : mg "all" = none
  list : mg "list" = none
  min : mg "min" = none
  max : mg "max" = none
  sum : mg "sum" = none
end Ab
namespace K39
open PySem L2 Ab Sm
/-! ### the law's draws -/
def stC (x t y : Int) : Cell := .lst [.int x, .int t, .int y]
/-- the state's cell stands at place i; its count is at most N -/
def St (M : Mem) (i : Nat) (a : Addr) (N : Nat) : Prop := ∃ x t y, M[i]? = some (a, stC x t y) ∧ 0 ≤ t ∧ t ≤ (N : Int)
/-- nothing but the state has changed, by c draws at most -/
def Dw (i : Nat) (a : Addr) (c : Nat) (M M' : Mem) : Prop := ∃ x t y x' t' y', M[i]? = some (a, stC x t y) ∧ M' = M.set i (a, stC x' t' y') ∧ (0 ≤ t → 0 ≤ t') ∧ t' ≤ t + (c : Int)
theorem stC_inj {x t y x' t' y' : Int} (h : stC x t y = stC x' t' y') : x = x' ∧ t = t' ∧ y = y' := by
  unfold stC at h
  injection h with h
  injection h with h
  injection h with h1 h
  injection h with h2 h
  injection h with h3 _
  injection h1 with h1
  injection h2 with h2
  injection h3 with h3
  exact ⟨h1, h2, h3⟩
theorem Dw.trans {M M' M'' : Mem} {i : Nat} {a : Addr} {c e : Nat} (d : Dw i a c M M') (d' : Dw i a e M' M'') : Dw i a (c + e) M M'' := by
  obtain ⟨x1, t1, y1, x2, t2, y2, hm1, rfl, g0, g1⟩ := d
  obtain ⟨x3, t3, y3, x4, t4, y4, hm3, rfl, g2, g3⟩ := d'
  rw [List.getElem?_set_self (List.getElem?_eq_some_iff.mp hm1).1] at hm3
  obtain ⟨_, rfl, _⟩ := stC_inj (Prod.mk.inj (Option.some.inj hm3)).2
  exact ⟨x1, t1, y1, x4, t4, y4, hm1, by rw [List.set_set], fun h => g2 (g0 h), by omega⟩
theorem Dw.mono {M M' : Mem} {i : Nat} {a : Addr} {c e : Nat} (d : Dw i a c M M') (h : c ≤ e) : Dw i a e M M' := by
  obtain ⟨x1, t1, y1, x2, t2, y2, hm1, e1, g0, g1⟩ := d
  exact ⟨x1, t1, y1, x2, t2, y2, hm1, e1, g0, by omega⟩
theorem St.refl {M : Mem} {i : Nat} {a : Addr} {N : Nat} (h : St M i a N) : Dw i a 0 M M := by
  obtain ⟨x, t, y, h, h0, h1⟩ := h
  refine ⟨x, t, y, x, t, y, h, ?_, fun h => h, by omega⟩
  apply List.ext_getElem?
  intro j
  by_cases hij : i = j
  · subst hij
    rw [List.getElem?_set_self (List.getElem?_eq_some_iff.mp h).1, h]
  · rw [List.getElem?_set_ne hij]
theorem St.cons {M : Mem} {i : Nat} {a : Addr} {N : Nat} {c : Addr × Cell} (h : St M i a N) : St (c :: M) (i + 1) a N := h
theorem Dw.cons {M M' : Mem} {i : Nat} {a : Addr} {e : Nat} {c : Addr × Cell} (h : Dw (i + 1) a e (c :: M) M') : ∃ M'', M' = c :: M'' ∧ Dw i a e M M'' := by
  obtain ⟨x1, t1, y1, x2, t2, y2, hm1, rfl, g⟩ := h
  exact ⟨_, rfl, x1, t1, y1, x2, t2, y2, hm1, rfl, g⟩
end K39
namespace K39
open PySem L2 Ab Sm
def sm (v : Int) : Prop := 0 ≤ v ∧ v < 100000
section
variable {P : Program} {w : World} {K : PySem.W.Frag} {mg : Str → Option Value} {base : Heap} {k : Nat} {f C : Addr}
/-! ### _law_sequence -/
structure Seq (lo : Int) (s : Stm) : Prop where
  l1 : s.1.length ≤ 5
  l2 : s.2.length ∣ 6
  ne : s.2 ≠ []
  a1 : ∀ v ∈ s.1, sm v
  a2 : ∀ v ∈ s.2, sm v
  lo : lo ≤ item s 0
/-! ### _law_indices -/
end
end K39
namespace K39
open PySem L2 Ab Sm
/-! ### what combinations keep -/
structure Bs (b : Int) (S : Sc) : Prop where
  g : GoodS S
  p1 : P6 S.sp
  p2 : P6 S.lv
  b1 : ∀ i, item S.sp i ≤ b
  b2 : ∀ i, item S.lv i ≤ b
theorem Bs.n1 {b : Int} {S : Sc} (h : Bs b S) (i : Nat) : 0 ≤ item S.sp i := (h.g.ls.item i).1
theorem Bs.n2 {b : Int} {S : Sc} (h : Bs b S) (i : Nat) : 0 ≤ item S.lv i := (h.g.ll.item i).1
theorem Bs.mono {b c : Int} {S : Sc} (h : Bs b S) (hc : b ≤ c) : Bs c S := ⟨h.g, h.p1, h.p2, fun i => Int.le_trans (h.b1 i) hc, fun i => Int.le_trans (h.b2 i) hc⟩
/-! ### the methods, as the law calls them -/
section
variable {P : Program} {w : World} {K : PySem.W.Frag} {mg : Str → Option Value} {base : Heap} {k : Nat} {f C : Addr}
/-! ### _law_columns, _law_items_right -/
/-- the three combinations of Ss -/
structure Three (Ss : List Sc) (A L H : Sc) : Prop where
  ne : Ss ≠ []
  ln : Ss.length ≤ 4
  bs : ∀ S ∈ Ss, Bs 99999 S
  ar : ∀ S ∈ Ss, ∀ S' ∈ Ss, S.a = S'.a
  gA : GoodS A
  gL : GoodS L
  gH : GoodS H
  aA : ∀ S ∈ Ss, A.a = S.a
  aL : ∀ S ∈ Ss, L.a = S.a
  aH : ∀ S ∈ Ss, H.a = S.a
  sA : ∀ i, item A.sp i = (Ss.map fun S => item S.sp i).sum
  lA : ∀ i, item A.lv i = (Ss.map fun S => item S.lv i).sum
  sL : ∀ i, item L.sp i = minL (Ss.map fun S => item S.sp i)
  lL : ∀ i, item L.lv i = minL (Ss.map fun S => item S.lv i)
  sH : ∀ i, item H.sp i = maxL (Ss.map fun S => item S.sp i)
  lH : ∀ i, item H.lv i = maxL (Ss.map fun S => item S.lv i)
end
end K39
namespace K39
open PySem L2 Ab Sm
theorem sum_app {xs : List Int} {x : Int} : (xs ++ [x]).sum = xs.sum + x := by simp
theorem op_rot {wd : Wd} {x : Int} {xs : List Int} : opV wd (x :: xs) = opV wd (xs ++ [x]) := by
  cases wd with
  | sum =>
    show (x :: xs).sum = (xs ++ [x]).sum
    rw [sum_app, List.sum_cons]
    omega
  | least =>
    obtain ⟨a1, a2⟩ := minL_spec xs x
    refine min_is (ns := xs ++ [x]) ?_ fun z hz => a2 z ?_
    · rcases List.mem_cons.mp a1 with q | q
      · exact List.mem_append_right _ (List.mem_singleton.mpr q)
      · exact List.mem_append_left _ q
    · rcases List.mem_append.mp hz with q | q
      · exact List.mem_cons_of_mem _ q
      · rw [List.mem_singleton.mp q]
        exact List.mem_cons_self
  | greatest =>
    obtain ⟨a1, a2⟩ := maxL_spec xs x
    refine max_is (ns := xs ++ [x]) ?_ fun z hz => a2 z ?_
    · rcases List.mem_cons.mp a1 with q | q
      · exact List.mem_append_right _ (List.mem_singleton.mpr q)
      · exact List.mem_append_left _ q
    · rcases List.mem_append.mp hz with q | q
      · exact List.mem_cons_of_mem _ q
      · rw [List.mem_singleton.mp q]
        exact List.mem_cons_self
/-- two combinations of the same schedules, in another order -/
theorem Three.same {Ss : List Sc} {T : Sc} {A L H A' L' H' : Sc} (h : Three (Ss ++ [T]) A L H) (h' : Three (T :: Ss) A' L' H') : A = A' ∧ L = L' ∧ H = H' := by
  have m1 : T ∈ Ss ++ [T] := List.mem_append_right _ List.mem_cons_self
  have m2 : T ∈ T :: Ss := List.mem_cons_self
  refine ⟨h.gA.ext h'.gA ((h.aA T m1).trans (h'.aA T m2).symm) (fun i => ?_) fun i => ?_, h.gL.ext h'.gL ((h.aL T m1).trans (h'.aL T m2).symm) (fun i => ?_) fun i => ?_, h.gH.ext h'.gH ((h.aH T m1).trans (h'.aH T m2).symm) (fun i => ?_) fun i => ?_⟩
  · rw [h.sA, h'.sA, List.map_append]
    exact (op_rot (wd := .sum)).symm
  · rw [h.lA, h'.lA, List.map_append]
    exact (op_rot (wd := .sum)).symm
  · rw [h.sL, h'.sL, List.map_append]
    exact (op_rot (wd := .least)).symm
  · rw [h.lL, h'.lL, List.map_append]
    exact (op_rot (wd := .least)).symm
  · rw [h.sH, h'.sH, List.map_append]
    exact (op_rot (wd := .greatest)).symm
  · rw [h.lH, h'.lH, List.map_append]
    exact (op_rot (wd := .greatest)).symm
theorem Three.one {S : Sc} (h : Bs 99999 S) : Three [S] S S S := by
  have ar : ∀ T ∈ [S], ∀ T' ∈ [S], T.a = T'.a := fun T hT T' hT' => by rw [List.mem_singleton.mp hT, List.mem_singleton.mp hT']
  have a1 : ∀ T ∈ [S], S.a = T.a := fun T hT => by rw [List.mem_singleton.mp hT]
  exact ⟨List.cons_ne_nil _ _, by simp, fun T hT => by rw [List.mem_singleton.mp hT]; exact h, ar, h.g, h.g, h.g, a1, a1, a1, fun i => by simp, fun i => by simp, fun i => rfl, fun i => rfl, fun i => rfl, fun i => rfl⟩
section
variable {P : Program} {w : World} {K : PySem.W.Frag} {mg : Str → Option Value} {base : Heap} {k : Nat} {f C : Addr}
abbrev OwnS (P : Program) (w : World) (K : PySem.W.Frag) (mg : Str → Option Value) (base : Heap) (C fq : Addr) : Prop := OwnE P w K mg base 1 C fq goodF relS
end
end K39
namespace Sm
/-! ### the place of a leaf: b leaves stand before it -/
def smN (f : Nat → Int) : Nat → Int
  | 0 => 0
  | n + 1 => smN f n + f n
theorem smN_congr {f g : Nat → Int} {n : Nat} (h : ∀ j, j < n → f j = g j) : smN f n = smN g n := by
  induction n with
  | zero => rfl
  | succ n ih => rw [smN, smN, ih fun j hj => h j (by omega), h n (by omega)]
theorem smN_add {f g : Nat → Int} {n : Nat} : smN (fun j => f j + g j) n = smN f n + smN g n := by
  induction n with
  | zero => rfl
  | succ n ih => rw [smN, smN, smN, ih]; omega
theorem smN_le {f g : Nat → Int} {n : Nat} (h : ∀ j, j < n → f j ≤ g j) : smN f n ≤ smN g n := by
  induction n with
  | zero => exact Int.le_refl _
  | succ n ih =>
    have h1 := ih fun j hj => h j (by omega)
    have h2 := h n (by omega)
    rw [smN, smN]
    omega
theorem smN_ext {f : Nat → Int} {n m : Nat} (hm : n ≤ m) (h : ∀ j, n ≤ j → f j = 0) : smN f m = smN f n := by
  induction m with
  | zero =>
    have : n = 0 := by omega
    rw [this]
  | succ m ih =>
    rcases Nat.lt_or_ge m n with z | z
    · have : n = m + 1 := by omega
      rw [this]
    · rw [smN, ih z, h m z, Int.add_zero]
theorem smN_head {f : Nat → Int} {n : Nat} : smN f (n + 1) = f 0 + smN (fun j => f (j + 1)) n := by
  induction n with
  | zero => simp [smN]
  | succ n ih => rw [smN, ih, smN]; omega
def plT (k : Nat) (s l : Nat → Int) (b h : Nat) : Int := (if k ^ h ≤ b then s (h + 1) else 0) + l (h + 1) * ((b / k ^ (h + 1) : Nat) : Int)
def place (k : Nat) (s l : Nat → Int) (b : Nat) : Int := s 0 + (b : Int) * l 0 + smN (plT k s l b) b
theorem lt_pow {k : Nat} (hk : 2 ≤ k) (b : Nat) : b < k ^ b := Nat.lt_of_lt_of_le Nat.lt_two_pow_self (Nat.pow_le_pow_left hk b)
theorem plT_zero {k : Nat} {s l : Nat → Int} {b h : Nat} (hb : b < k ^ h) (hk : 2 ≤ k) : plT k s l b h = 0 := by
  have h2 : b < k ^ (h + 1) := Nat.lt_of_lt_of_le hb (Nat.pow_le_pow_right (by omega) (by omega))
  rw [plT, if_neg (by omega), Nat.div_eq_of_lt h2]
  simp
theorem place_N {k : Nat} {s l : Nat → Int} {b N : Nat} (hk : 2 ≤ k) (hN : b < k ^ N) : place k s l b = s 0 + (b : Int) * l 0 + smN (plT k s l b) N := by
  have key : ∀ m, b < k ^ m → ∀ j, m ≤ j → plT k s l b j = 0 := fun m hm j hj => plT_zero (Nat.lt_of_lt_of_le hm (Nat.pow_le_pow_right (by omega) hj)) hk
  rw [place]
  congr 1
  rcases Nat.le_total N b with z | z
  · exact smN_ext z (key N hN)
  · exact (smN_ext z (key b (lt_pow hk b))).symm
theorem place_zero {k : Nat} {s l : Nat → Int} : place k s l 0 = s 0 := by simp [place, smN]
/-! ### leaf by leaf -/
theorem dvd_div {m b : Nat} (hm : 0 < m) (hb : 0 < b) (h : m ∣ b) : b / m = (b - 1) / m + 1 := by
  obtain ⟨c, rfl⟩ := h
  have hc : 0 < c := by
    rcases Nat.eq_zero_or_pos c with z | z
    · rw [z] at hb; simp at hb
    · exact z
  obtain ⟨c, rfl⟩ : ∃ d, c = d + 1 := ⟨c - 1, by omega⟩
  rw [Nat.mul_div_cancel_left _ hm]
  have : m * (c + 1) - 1 = m * c + (m - 1) := by rw [Nat.mul_add, Nat.mul_one]; omega
  rw [this, Nat.mul_add_div hm, Nat.div_eq_of_lt (by omega)]
theorem ndvd_div {m b : Nat} (hm : 0 < m) (h : ¬ m ∣ b + 1) : (b + 1) / m = b / m := by
  rw [Nat.succ_div, if_neg h, Nat.add_zero]
end Sm
namespace K39
open PySem L2 Ab Sm
section
variable {P : Program} {w : World} {K : PySem.W.Frag} {mg : Str → Option Value} {base : Heap} {k : Nat} {f C : Addr}
/-! ### properties -/
def aSpi (C : Addr) : ASp := fun ds M R => ∃ (S : Sc), ds = [scV C S] ∧ R (stV S.sp) M
def aLev (C : Addr) : ASp := fun ds M R => ∃ (S : Sc), ds = [scV C S] ∧ R (stV S.lv) M
theorem b_spine (T : Rs K mg C) : BodyOk P w K mg base k f n_Schedule_spine "Schedule.spine" (defScope c_Schedule_spine) (defBody c_Schedule_spine) (aSpi C) := by
  rintro cdv A outer s0 H E hr ds M R ⟨S, rfl, hp⟩
  exact as_one (as_ret ((av_s T (v_ 0)).val (.ok hp)))
theorem b_levels (T : Rs K mg C) : BodyOk P w K mg base k f n_Schedule_levels "Schedule.levels" (defScope c_Schedule_levels) (defBody c_Schedule_levels) (aLev C) := by
  rintro cdv A outer s0 H E hr ds M R ⟨S, rfl, hp⟩
  exact as_one (as_ret ((av_l T (v_ 0)).val (.ok hp)))
structure PrA (P : Program) (w : World) (K : PySem.W.Frag) (mg : Str → Option Value) (base : Heap) (C : Addr) : Prop where
  ex : ∃ p g, PropOf K C "arity" p g ∧ FX P w K mg base 1 g fun ds _ => aAri C ds
structure PrS (P : Program) (w : World) (K : PySem.W.Frag) (mg : Str → Option Value) (base : Heap) (C : Addr) : Prop where
  ex : ∃ p g, PropOf K C "spine" p g ∧ FX P w K mg base 1 g fun ds _ => aSpi C ds
structure PrL (P : Program) (w : World) (K : PySem.W.Frag) (mg : Str → Option Value) (base : Heap) (C : Addr) : Prop where
  ex : ∃ p g, PropOf K C "levels" p g ∧ FX P w K mg base 1 g fun ds _ => aLev C ds
theorem av_arity {X : Cx} {Γ : Gam} {M : Mem} {o : Expr} {pos : Pos} {m : Nat} {S : Sc} (T : Rs X.K X.mg C) (Q : PrA X.prog X.w X.K X.mg X.base C) (hr : Rm m X.A) (hm : 2 ≤ m) (ho : aV X o Γ M (scV C S)) (hb : attributeBase o "arity" X.env (eval o X.env) = eval o X.env := by rfl) : aV X (.Attribute o "arity" pos) Γ M (.int S.a) := by
  obtain ⟨p, g, hp, F⟩ := Q.ex
  exact ae_prop T.cl hp F (hr.mono hm) ho (.im _) ⟨S, rfl, rfl, rfl⟩ hb
theorem av_levels {X : Cx} {Γ : Gam} {M : Mem} {o : Expr} {pos : Pos} {m : Nat} {S : Sc} (T : Rs X.K X.mg C) (Q : PrL X.prog X.w X.K X.mg X.base C) (hr : Rm m X.A) (hm : 2 ≤ m) (ho : aV X o Γ M (scV C S)) (hb : attributeBase o "levels" X.env (eval o X.env) = eval o X.env := by rfl) : aV X (.Attribute o "levels" pos) Γ M (stV S.lv) := by
  obtain ⟨p, g, hp, F⟩ := Q.ex
  exact ae_prop T.cl hp F (hr.mono hm) ho (.im _) ⟨S, rfl, rfl, rfl⟩ hb
/-! ### is_prunable, pruned -/
theorem swo_lim {s : Stm} (h : Lim s) (c : Nat) : Lim (nf (swo s c)) := by
  obtain ⟨h1, h2, h3⟩ := swo_ne h.ne c
  refine lim_nf h1 ?_ (by rw [h2]; exact h.l2) (fun v hv => ?_) (fun v hv => h.a2 v (h3 v hv))
  · unfold swo
    split
    · show (s.1.drop c).length ≤ 12
      rw [List.length_drop]
      have := h.l1
      omega
    · exact Nat.zero_le _
  · unfold swo at hv
    split at hv
    · exact h.a1 v (List.mem_of_mem_drop hv)
    · exact absurd hv (List.not_mem_nil)
theorem swo_l1 {s : Stm} (h : s.1.length ≤ 12) (c : Nat) : (swo s c).1.length ≤ 1000 := by
  unfold swo
  split
  · show (s.1.drop c).length ≤ 1000
    rw [List.length_drop]
    omega
  · exact Nat.zero_le _
def aPru (C : Addr) : ASp := fun ds M R => ∃ (S : Sc) (c : Nat), ds = [scV C S, .int (c : Int)] ∧ GoodS S ∧ (∀ j, 1 ≤ j → j ≤ c → item S.lv j ≠ 0) ∧ ∀ S' : Sc, GoodS S' → S'.a = S.a → (∀ i, item S'.sp i = item S.sp (i + c)) → (∀ i, item S'.lv i = item S.lv (i + c)) → R (scV C S') M
structure LmE (mg : Str → Option Value) : Prop where
  FRONT_LIMIT : ∃ t, mg "FRONT_LIMIT" = some (.int 12 t)
  LOOP_LIMIT : ∃ t, mg "LOOP_LIMIT" = some (.int 6 t)
  LABEL_LIMIT : ∃ t, mg "LABEL_LIMIT" = some (.int 1000000 t)
  ARITY_LIMIT : ∃ t, mg "ARITY_LIMIT" = some (.int 9 t)
theorem b_pruned (T : Rs K mg C) (B : Bt mg) (L : LmE mg) (g_check_integer : GChk P w K mg base) (g_stream_item : GItem P w K mg base) (g_stream_without : GSwo P w K mg base) (g_made_schedule : GMd P w K mg base C) : BodyOk P w K mg base 6 f n_Schedule_pruned "Schedule.pruned" (defScope c_Schedule_pruned) (defBody c_Schedule_pruned) (aPru C) := by
  rintro cdv A outer s0 H E hr ds M R ⟨S, c, rfl, hS, hz, hp⟩
  have hns := hS.ns.ne
  have hnl := hS.nl.ne
  have q1 := hS.ls.l1
  have q2 := hS.ls.l2
  have q3 := hS.ll.l1
  have q4 := hS.ll.l2
  refine as_cons (as_expr (aE.val (ae_g g_check_integer hr (by decide) (aa_cons (aE.val (v_ 1) (aa_cons (aE.val i_ (aa_nil (ak_nil ⟨rfl, rfl, _, _, rfl, (by omega), rfl, rfl⟩))))))) ?_))
  refine as_cons (as_forW PassesOwn.never rfl (aj_range2 B.range (aA.val (avs_cons i_ (avs_cons (av_add (av_min2 B.min rfl (v_ 1) (av_add (av_gi L.FRONT_LIMIT) (av_gi L.LOOP_LIMIT))) i_) avs_nil)) ⟨_, _, rfl, ⟨by omega, by omega, by omega, by omega⟩, ?_⟩)))
  refine ⟨fun i Γ M' => M' = M ∧ Γ = [some (scV C S), some (.int (c : Int)), none, none, none], ⟨_, _, ⟨rfl, rfl⟩, (by repeat' first | exact le_nil | refine le_skip ?_ | refine le_keep rfl ?_), (by repeat' first | exact List.Sublist.refl _ | exact List.sublist_append_right _ _ | apply List.Sublist.cons₂ | apply List.Sublist.cons)⟩, ?_, ?_⟩
  · rintro i Γ M' hi ⟨rfl, rfl⟩
    refine ag_name 2 q_Schedule_pruned.nd ?_
    refine as_one (as_ifp (tp_cmp (ae_g g_stream_item hr (by decide) (aa_cons (aE.val (av_l T (v_ 0)) (aa_cons (aE.val (v_ 2) (aa_nil (ak_nil ⟨rfl, _, _, rfl, (by assumption), (by omega), rfl, rfl⟩))))))) i_ cp_eq) (fun h => ?_) (fun h => ?_))
    · have : (1 + (i : Int)).toNat = i + 1 := by omega
      rw [this] at h
      exact absurd h (hz (i + 1) (by omega) (by omega))
    · exact as_nil ⟨_, _, ⟨rfl, rfl⟩, (by repeat' first | exact le_nil | refine le_skip ?_ | refine le_keep rfl ?_), (by repeat' first | exact List.Sublist.refl _ | exact List.sublist_append_right _ _ | apply List.Sublist.cons₂ | apply List.Sublist.cons)⟩
  · rintro Γ M' ⟨rfl, rfl⟩
    refine as_cons (as_par 3 4 q_Schedule_pruned.nd rfl (by decide) (aA.val (avs_cons (ae_g g_stream_without hr (by decide) (aa_cons (aE.val (av_s T (v_ 0)) (aa_cons (aE.val (v_ 1) (aa_nil (ak_nil ⟨rfl, _, _, rfl, (by assumption), (by omega), rfl, rfl⟩))))))) (avs_cons (ae_g g_stream_without hr (by decide) (aa_cons (aE.val (av_l T (v_ 0)) (aa_cons (aE.val (v_ 1) (aa_nil (ak_nil ⟨rfl, _, _, rfl, (by assumption), (by omega), rfl, rfl⟩))))))) avs_nil)) ⟨_, _, rfl, ?_⟩))
    have w1 := swo_ne hns c
    have w2 := swo_ne hnl c
    refine as_one (as_ret (ae_g g_made_schedule hr (by decide) (aa_cons (aE.val (av_a T (v_ 0)) (aa_cons (aE.val (v_ 3) (aa_cons (aE.val (v_ 4) (aa_nil (ak_nil ⟨rfl, S.a, swo S.sp c, swo S.lv c, rfl, hS.a2, hS.a9, w1.1, swo_l1 q1 c, by rw [w1.2.1]; omega, w2.1, swo_l1 q3 c, by rw [w2.2.1]; omega, swo_lim hS.ls c, swo_lim hS.ll c, ?_, ?_⟩))))))))))
    · rw [swo_item hnl]
      rcases Nat.eq_zero_or_pos c with z | z
      · subst z
        exact hS.lf
      · exact hz _ (by omega) (by omega)
    · have h0 : item (swo S.lv c) 0 ≠ 0 := by
        rw [swo_item hnl]
        rcases Nat.eq_zero_or_pos c with z | z
        · subst z
          exact hS.lf
        · exact hz _ (by omega) (by omega)
      refine .ok (hp _ (good_nf hS.a2 hS.a9 w1.1 w2.1 (swo_lim hS.ls c) (swo_lim hS.ll c) h0) rfl (fun i => ?_) fun i => ?_)
      · show item (nf _) i = _
        rw [(nf_spec w1.1).it, swo_item hns]
      · show item (nf _) i = _
        rw [(nf_spec w2.1).it, swo_item hnl]
end
end K39
namespace K39
open PySem L2 Ab Sm
theorem Seq.bd {lo : Int} {s : Stm} (h : Seq lo s) (i : Nat) : item s i ≤ 99999 := by
  rcases item_mem h.ne i with z | z
  · have := (h.a1 _ z).2
    omega
  · have := (h.a2 _ z).2
    omega
end K39
namespace Ab
open PySem PySem.Spec PyProof.Rows L2
section
variable {X : Cx} {Γ : Gam} {M : Mem} {P : Val → Mem → Prop} {e a b c o : Expr} {es : List Expr} {pos p1 p2 apos kpos : Pos} {k : AK} {d d1 d2 d3 : Val} {i j l : Int} {x y m f : Str} {n : Nat} {C : Addr} {p q : Prop}
/-- loops at a def's end: slots are forgotten, cells are not -/
abbrev Wl (I : Gam → Mem → Prop) : Gam → Mem → Prop := fun Γ M => ∃ Γ', I Γ' M ∧ Le Γ' Γ
theorem as_forL {tg iter : Expr} {body : List Stmt} (hp : PassesOwn (model X.prog X.w) X.A X.env X.xe) (hc : X.calm = true)
    (hi : aJ X tg iter Γ M fun n it M1 => ∃ I : Nat → Gam → Mem → Prop, Wl (I 0) Γ M1 ∧ (∀ i Γ M, i < n → I i Γ M → aG X tg (it i) Γ M fun Γ2 M2 => aSs X body Γ2 M2 { k with nx := Wl (I (i + 1)), ct := Wl (I (i + 1)), bk := k.nx }) ∧ ∀ Γ M, I n Γ M → k.nx Γ M)
    (hk : ∀ Γ Γ' M, Le Γ' Γ → k.nx Γ' M → k.nx Γ M := by intro _ _ _ l h; first | exact h | exact as_le l h)
    (hf : ∀ x, foldedSetIterable iter X.env x = pure x := by intro _; rfl) : aS X (.For tg iter body [] pos) Γ M k :=
  as_forJ hp hc (fun Hi H σ ok en R' q => hi Hi H σ ok en R' fun J n it M1 Hi1 H1 ⟨I, h0, hs, hd⟩ => q J n it M1 Hi1 H1 ⟨fun i => Wl (I i), h0, fun i Γ' M' hi' ⟨Γ0, h, l⟩ => fun Hi H σ v ok en r Q q => hs i Γ0 M' hi' h Hi H σ v ok (l.env en) r Q q, fun Γ' M' ⟨Γ0, h, l⟩ => hk _ _ _ l (hd Γ0 M' h)⟩) hf
theorem as_whileL {body : List Stmt} (I : Nat → Gam → Mem → Prop) (n : Nat) (hp : PassesOwn (model X.prog X.w) X.A X.env X.xe) (h0 : Wl (I n) Γ M)
    (hs : ∀ n Γ M, I n Γ M → ∃ p, TP X c Γ M p ∧ (p → aSs X body Γ M { k with nx := Wl fun Γ' M' => ∃ m, m < n ∧ I m Γ' M', ct := Wl fun Γ' M' => ∃ m, m < n ∧ I m Γ' M', bk := k.nx }) ∧ (¬ p → k.nx Γ M))
    (hk : ∀ Γ Γ' M, Le Γ' Γ → k.nx Γ' M → k.nx Γ M := by intro _ _ _ l h; first | exact h | exact as_le l h) : aS X (.While c body [] pos) Γ M k :=
  as_while (fun n => Wl (I n)) n hp h0 fun n Γ' M' ⟨Γ0, h, l⟩ => by
    obtain ⟨p, ⟨b, hb, i⟩, h1, h2⟩ := hs n Γ0 M' h
    intro Hi H σ ok en Q q
    refine hb Hi H σ ok (l.env en) Q fun b' M1 Hi' H' hh => ?_
    obtain ⟨rfl, rfl⟩ := hh
    refine q _ _ Hi' H' ⟨fun z => ?_, fun z => hk _ _ _ l (h2 fun y => by rw [i.mpr y] at z; cases z)⟩
    refine as_le l ((h1 (i.mp z)).mono ?_ (fun _ _ h => h) (fun _ _ h => h) ?_)
    · rintro Γ5 M5 ⟨Γ6, ⟨m, hm, h6⟩, l6⟩
      exact ⟨m, hm, Γ6, h6, l6⟩
    · rintro Γ5 M5 ⟨Γ6, ⟨m, hm, h6⟩, l6⟩
      exact ⟨m, hm, Γ6, h6, l6⟩
theorem ae_perm (h : aE X e Γ M fun d M1 => ∃ M2, M2.Perm M1 ∧ P d M2) : aE X e Γ M P := fun Hi H σ ok en Q q => h Hi H σ ok en Q fun d M1 v Hi' H' ⟨M2, hp, hP⟩ s ok' r => q d M2 v Hi' H' hP s (ok'.perm hp) r
theorem aj_tup {tg : Expr} {P : Nat → (Nat → Val) → Mem → Prop} (ha : aE X a Γ M fun d M' => ∃ xs, d = .tup xs ∧ P xs.length (fun i => xs.getD i .non) M') : aJ X tg a Γ M P := fun Hi H σ ok en R' q => by
  refine ⟨_, pi_tup pe_we, ?_⟩
  refine ha Hi H σ ok en _ fun d M1 v Hi1 H1 h1 s1 ok1 r1 => ?_
  obtain ⟨xs, rfl, hp⟩ := h1
  cases r1 with
  | @tup p ys _ hq ra =>
    refine ⟨p, rfl, ⟨ys, sameT ok1.im hq⟩, q _ xs.length _ M1 Hi1 H1 hp s1 ok1 ?_⟩
    rw [ra.length]
    refine walk_tup.mono (fun H' hG => ?_) fun i H' v H'' hi hG hy Hi' M' s2 ok2 => ?_
    · obtain ⟨Hi', M', s2, ok2⟩ := hG
      exact sameT ok2.im (sameT s2 hq)
    · obtain ⟨rfl, hv⟩ := hy
      exact ⟨Hi', Same.refl _, ok2, (Sq.at ra hv).mono s2⟩
end
/-- the last of a list of ints -/
theorem atI_lastE {g : List Int} {n : Nat} {v : Int} (h : g.length = n + 1) (hv : g.getD n 0 = v) : atI (g.map Val.int) (-1) = some (.int v) := by
  have hne : g ≠ [] := fun z => by rw [z] at h; simp at h
  rw [atI_last hne, h, Nat.add_sub_cancel, hv]
end Ab
namespace Sm
/-! ### counting nodes of one height: la 0 is the size of the whole subtree below such a node, la j (j > 0) the labels of a node j higher; sp j the spine items above; own the node's own labels; a0 the first place; eh the end of the stage of the spine node -/
structure Ct where
  k : Nat
  la : Nat → Int
  sp : Nat → Int
  own : Int
  a0 : Int
  eh : Int
structure CtOk (c : Ct) : Prop where
  k2 : 2 ≤ c.k
  la : ∀ j, 0 ≤ c.la j
  l0 : 0 < c.la 0
  sp : ∀ j, 0 ≤ c.sp j
  o0 : 0 ≤ c.own
  o1 : c.own ≤ c.la 0
  a0 : 0 ≤ c.a0
  ae : c.a0 ≤ c.eh
def zz (c : Ct) : Nat → Int
  | 0 => c.la 0
  | t + 1 => c.la (t + 1) + c.k * zz c t
def en (c : Ct) : Nat → Int
  | 0 => c.eh
  | t + 1 => en c t + c.sp t + (c.k - 1) * zz c t
/-- quotients up to t -/
def fq (c : Ct) (t i : Nat) : Int := smN (fun j => c.la j * ((i / c.k ^ j : Nat) : Int)) (t + 1)
def qq (c : Ct) (t i : Nat) : Int := c.own + smN (fun j => c.la (j + 1)) t + fq c t i
/-- the place of the node with b nodes before it -/
def pp (c : Ct) (b : Nat) : Int := if b = 0 then c.a0 else c.eh - c.la 0 + c.own + smN (fun j => if c.k ^ j ≤ b then c.sp j else 0) b + fq c b b
section
variable {c : Ct}
theorem zz_pos (h : CtOk c) : ∀ t, 0 < zz c t
  | 0 => h.l0
  | t + 1 => by
    have h1 := zz_pos h t
    have h2 := h.la (t + 1)
    have h3 : (0 : Int) < c.k * zz c t := Int.mul_pos (by have := h.k2; omega) h1
    rw [zz]
    omega
theorem fq_digit (h : CtOk c) {t d i : Nat} (hi : i < c.k ^ t) : fq c t (d * c.k ^ t + i) = d * zz c t + fq c t i := by
  have hk := h.k2
  have key : ∀ s, s ≤ t → smN (fun j => c.la j * (((d * c.k ^ t + i) / c.k ^ j : Nat) : Int)) (s + 1) = d * (c.k : Int) ^ (t - s) * zz c s + smN (fun j => c.la j * ((i / c.k ^ j : Nat) : Int)) (s + 1) := by
    intro s
    induction s with
    | zero =>
      intro _
      simp only [smN, zz, Nat.pow_zero, Nat.div_one, Nat.sub_zero]
      rw [Int.natCast_add, Int.natCast_mul, Int.natCast_pow, Int.mul_add, Int.mul_comm (c.la 0) ((d : Int) * _)]
      omega
    | succ s ih =>
      intro hs
      rw [smN, ih (by omega), smN.eq_def _ (s + 1 + 1)]
      simp only
      have e1 : (d * c.k ^ t + i) / c.k ^ (s + 1) = d * c.k ^ (t - (s + 1)) + i / c.k ^ (s + 1) := by
        have : d * c.k ^ t = c.k ^ (s + 1) * (d * c.k ^ (t - (s + 1))) := by
          rw [Nat.mul_left_comm, ← Nat.pow_add, show s + 1 + (t - (s + 1)) = t by omega]
        rw [this, Nat.mul_add_div (Nat.pow_pos (by omega))]
      have e2 : (c.k : Int) ^ (t - s) = c.k ^ (t - (s + 1)) * c.k := by
        rw [show t - s = t - (s + 1) + 1 by omega, Int.pow_succ]
      rw [e1, zz, e2, Int.natCast_add, Int.natCast_mul, Int.natCast_pow]
      generalize (c.k : Int) ^ (t - (s + 1)) = K
      generalize ((i / c.k ^ (s + 1) : Nat) : Int) = I
      generalize smN (fun j => c.la j * ((i / c.k ^ j : Nat) : Int)) (s + 1) = Z
      rw [Int.mul_add, Int.mul_add, ← Int.mul_assoc (d : Int) K (c.k : Int), Int.mul_assoc ((d : Int) * K) (c.k : Int) (zz c s), Int.mul_comm (c.la (s + 1)) ((d : Int) * K)]
      omega
  have := key t (Nat.le_refl _)
  rw [Nat.sub_self, Int.pow_zero, Int.mul_one] at this
  exact this
theorem fq_succ {t i : Nat} (hi : i < c.k ^ (t + 1)) : fq c (t + 1) i = fq c t i := by
  unfold fq
  rw [smN, Nat.div_eq_of_lt hi]
  simp
theorem qq_digit (h : CtOk c) {t d i : Nat} (hd : d < c.k) (hi : i < c.k ^ t) : qq c (t + 1) (d * c.k ^ t + i) = c.la (t + 1) + d * zz c t + qq c t i := by
  have hlt : d * c.k ^ t + i < c.k ^ (t + 1) := by
    rw [Nat.pow_succ, Nat.mul_comm (c.k ^ t)]
    have : (d + 1) * c.k ^ t ≤ c.k * c.k ^ t := Nat.mul_le_mul_right _ hd
    rw [Nat.succ_mul] at this
    omega
  unfold qq
  rw [fq_succ hlt, fq_digit h hi, smN]
  omega
theorem fq_nn (h : CtOk c) (t i : Nat) : 0 ≤ fq c t i := by
  have : smN (fun _ => 0) (t + 1) ≤ fq c t i := smN_le fun j _ => Int.mul_nonneg (h.la j) (Int.natCast_nonneg _)
  have e : ∀ n, smN (fun _ => 0) n = 0 := fun n => by
    induction n with
    | zero => rfl
    | succ n ih => rw [smN, ih]; rfl
  rw [e] at this
  exact this
theorem sm_nn {f : Nat → Int} (h : ∀ j, 0 ≤ f j) : ∀ n, 0 ≤ smN f n
  | 0 => Int.le_refl _
  | n + 1 => by
    have := sm_nn h n
    have := h n
    rw [smN]
    omega
theorem qq_nn (h : CtOk c) (t i : Nat) : 0 ≤ qq c t i := by
  have h1 := h.o0
  have h2 := fq_nn h t i
  have h3 := sm_nn (f := fun j => c.la (j + 1)) (fun j => h.la _) t
  unfold qq
  omega
theorem qq_le (h : CtOk c) : ∀ (t i : Nat), i < c.k ^ t → qq c t i ≤ zz c t
  | 0, i, hi => by
    have : i = 0 := by simpa using hi
    subst this
    have := h.o1
    simp [qq, fq, smN, zz]
    omega
  | t + 1, i, hi => by
    have hp : 0 < c.k ^ t := Nat.pow_pos (by have := h.k2; omega)
    have e : i = (i / c.k ^ t) * c.k ^ t + i % c.k ^ t := by rw [Nat.mul_comm]; exact (Nat.div_add_mod i _).symm
    have hd : i / c.k ^ t < c.k := Nat.div_lt_of_lt_mul (by rw [← Nat.pow_succ]; exact hi)
    have hm : i % c.k ^ t < c.k ^ t := Nat.mod_lt _ hp
    have ih := qq_le h t _ hm
    rw [e, qq_digit h hd hm, zz]
    have hz := zz_pos h t
    have : ((i / c.k ^ t : Nat) : Int) * zz c t ≤ (c.k - 1) * zz c t := Int.mul_le_mul_of_nonneg_right (by omega) (by omega)
    have e2 : ((c.k : Int) - 1) * zz c t = c.k * zz c t - zz c t := by rw [Int.sub_mul]; omega
    omega
/-- the search inside a whole tree of t steps -/
def ins (c : Ct) : Nat → Int → Int
  | 0, off => if c.own ≤ off then 1 else 0
  | t + 1, off => if off < c.la (t + 1) then 0 else (off - c.la (t + 1)) / zz c t * ((c.k ^ t : Nat) : Int) + ins c t ((off - c.la (t + 1)) % zz c t)
/-- ends against sizes -/
theorem en_zz (h : CtOk c) : ∀ t, c.eh - c.la 0 + smN c.sp t + zz c t = en c t + smN (fun j => c.la (j + 1)) t
  | 0 => by simp [smN, zz, en]
  | t + 1 => by
    have ih := en_zz h t
    rw [smN, smN, zz, en]
    have : ((c.k : Int) - 1) * zz c t = c.k * zz c t - zz c t := by rw [Int.sub_mul]; omega
    omega
/-- a place by its stage -/
theorem pp_stage (h : CtOk c) {t d i : Nat} (d1 : 1 ≤ d) (hd : d < c.k) (hi : i < c.k ^ t) : pp c (d * c.k ^ t + i) = en c t + c.sp t + ((d : Int) - 1) * zz c t + qq c t i := by
  have hk := h.k2
  have hp : 0 < c.k ^ t := Nat.pow_pos (by omega)
  have hge : c.k ^ t ≤ d * c.k ^ t := Nat.le_mul_of_pos_left _ d1
  have hlt : d * c.k ^ t + i < c.k ^ (t + 1) := by
    rw [Nat.pow_succ, Nat.mul_comm (c.k ^ t)]
    have : (d + 1) * c.k ^ t ≤ c.k * c.k ^ t := Nat.mul_le_mul_right _ hd
    rw [Nat.succ_mul] at this
    omega
  have hb := lt_pow hk (d * c.k ^ t + i)
  unfold pp
  rw [if_neg (by omega)]
  have ht : t < d * c.k ^ t + i := Nat.lt_of_lt_of_le (lt_pow hk t) (by omega)
  have e1 : smN (fun j => if c.k ^ j ≤ d * c.k ^ t + i then c.sp j else 0) (d * c.k ^ t + i) = smN c.sp (t + 1) := by
    rw [smN_ext (n := t + 1) (by omega) fun j hj => if_neg (by
      have := Nat.pow_le_pow_right (n := c.k) (by omega) hj
      omega)]
    exact smN_congr fun j hj => if_pos (Nat.le_trans (Nat.pow_le_pow_right (by omega) (by omega)) (Nat.le_trans hge (by omega)))
  have e2 : fq c (d * c.k ^ t + i) (d * c.k ^ t + i) = fq c t (d * c.k ^ t + i) := by
    unfold fq
    refine smN_ext (by omega) fun j hj => ?_
    have := Nat.pow_le_pow_right (n := c.k) (by omega) hj
    rw [Nat.div_eq_of_lt (by omega)]
    simp
  rw [e1, e2, fq_digit h hi]
  have e3 := en_zz h t
  have e4 : ((d : Int) - 1) * zz c t = d * zz c t - zz c t := by rw [Int.sub_mul]; omega
  rw [smN]
  unfold qq
  omega
theorem en_mono (h : CtOk c) {t u : Nat} (hu : t ≤ u) : en c t ≤ en c u := by
  induction u with
  | zero =>
    have : t = 0 := by omega
    rw [this]
    exact Int.le_refl _
  | succ u ih =>
    rcases Nat.lt_or_ge u t with z | z
    · have : t = u + 1 := by omega
      rw [this]
      exact Int.le_refl _
    · have := ih z
      have h1 := h.sp u
      have h2 : 0 ≤ ((c.k : Int) - 1) * zz c u := Int.mul_nonneg (by have := h.k2; omega) (by have := zz_pos h u; omega)
      rw [en]
      omega
/-- the stage of a node -/
theorem stage_of {k : Nat} (hk : 2 ≤ k) : ∀ {b : Nat}, 0 < b → ∃ t d i, b = d * k ^ t + i ∧ 1 ≤ d ∧ d < k ∧ i < k ^ t := by
  intro b hb
  have : ∃ t, b < k ^ (t + 1) := ⟨b, Nat.lt_of_lt_of_le (lt_pow hk b) (Nat.pow_le_pow_right (by omega) (by omega))⟩
  have key : ∀ N, (b < k ^ (N + 1)) → ∃ t, k ^ t ≤ b ∧ b < k ^ (t + 1) := by
    intro N
    induction N with
    | zero => exact fun h => ⟨0, by rw [Nat.pow_zero]; exact hb, h⟩
    | succ N ih =>
      intro h
      rcases Nat.lt_or_ge b (k ^ (N + 1)) with z | z
      · exact ih z
      · exact ⟨N + 1, z, h⟩
  obtain ⟨N, hN⟩ := this
  obtain ⟨t, h1, h2⟩ := key N hN
  have hp : 0 < k ^ t := Nat.pow_pos (by omega)
  refine ⟨t, b / k ^ t, b % k ^ t, by rw [Nat.mul_comm]; exact (Nat.div_add_mod b _).symm, Nat.div_pos h1 hp, Nat.div_lt_of_lt_mul (by rw [← Nat.pow_succ]; exact h2), Nat.mod_lt _ hp⟩
theorem pp_ge (h : CtOk c) {t d i : Nat} (d1 : 1 ≤ d) (hd : d < c.k) (hi : i < c.k ^ t) : en c t ≤ pp c (d * c.k ^ t + i) ∧ pp c (d * c.k ^ t + i) ≤ en c (t + 1) := by
  rw [pp_stage h d1 hd hi, en]
  have h1 := h.sp t
  have hz := zz_pos h t
  have q0 := qq_nn h t i
  have q1 := qq_le h t i hi
  have e1 : 0 ≤ ((d : Int) - 1) * zz c t := Int.mul_nonneg (by omega) (by omega)
  have e2 : (d : Int) * zz c t ≤ ((c.k : Int) - 1) * zz c t := Int.mul_le_mul_of_nonneg_right (by omega) (by omega)
  have e4 : ((d : Int) - 1) * zz c t = d * zz c t - zz c t := by rw [Int.sub_mul]; omega
  omega
/-- the search as the program does it: t is the least stage with n < en t -/
def cnt (c : Ct) (n : Int) (t : Nat) : Int :=
  if n < c.a0 then 0 else if t = 0 then 1 else if n - en c (t - 1) - c.sp (t - 1) < 0 then ((c.k ^ (t - 1) : Nat) : Int)
  else ((c.k ^ (t - 1) : Nat) : Int) * (1 + (n - en c (t - 1) - c.sp (t - 1)) / zz c (t - 1)) + ins c (t - 1) ((n - en c (t - 1) - c.sp (t - 1)) % zz c (t - 1))
/-- what is counted is one number -/
theorem cnt_uniq {v u : Int} (v0 : 0 ≤ v) (u0 : 0 ≤ u) (h : ∀ b : Nat, (b : Int) < v ↔ (b : Int) < u) : v = u := by
  obtain ⟨a, rfl⟩ := Int.eq_ofNat_of_zero_le v0
  obtain ⟨b, rfl⟩ := Int.eq_ofNat_of_zero_le u0
  have h1 := h a
  have h2 := h b
  omega
end
end Sm
namespace Sm
/-! ### sizes and ends of a tree; the counter of a height -/
def siz (k : Nat) (l : Nat → Int) : Nat → Int
  | 0 => l 0
  | j + 1 => l (j + 1) + k * siz k l j
def ed (k : Nat) (s l : Nat → Int) : Nat → Int
  | 0 => s 0
  | j + 1 => ed k s l j + s (j + 1) + (k - 1) * siz k l j
def fp (k : Nat) (s l : Nat → Int) (h : Nat) : Int := (if h = 0 then 0 else ed k s l (h - 1)) + s h
def ctO (k : Nat) (s l : Nat → Int) (h : Nat) : Ct := ⟨k, fun j => if j = 0 then siz k l h else l (h + j), fun j => s (h + 1 + j), l h, fp k s l h, ed k s l h⟩
/-- the place of a node of height h with b such nodes before it -/
def pl (k : Nat) (s l : Nat → Int) (h b : Nat) : Int := pp (ctO k s l h) b
section
variable {k : Nat} {s l : Nat → Int}
theorem sz_pos (hk : 2 ≤ k) (hl : ∀ j, 0 ≤ l j) (h0 : 0 < l 0) : ∀ j, 0 < siz k l j
  | 0 => h0
  | j + 1 => by
    have h1 := sz_pos hk hl h0 j
    have h2 := hl (j + 1)
    have h3 : (0 : Int) < k * siz k l j := Int.mul_pos (by omega) h1
    rw [siz]
    omega
theorem sz_ge (hk : 2 ≤ k) (hl : ∀ j, 0 ≤ l j) (h0 : 0 < l 0) (j : Nat) : l j ≤ siz k l j := by
  cases j with
  | zero => exact Int.le_refl _
  | succ j =>
    have := sz_pos hk hl h0 j
    have h3 : (0 : Int) < k * siz k l j := Int.mul_pos (by omega) this
    rw [siz]
    omega
theorem ed_nn (hk : 2 ≤ k) (hs : ∀ j, 0 ≤ s j) (hl : ∀ j, 0 ≤ l j) (h0 : 0 < l 0) : ∀ j, 0 ≤ ed k s l j
  | 0 => hs 0
  | j + 1 => by
    have h1 := ed_nn hk hs hl h0 j
    have h2 := hs (j + 1)
    have h3 : 0 ≤ ((k : Int) - 1) * siz k l j := Int.mul_nonneg (by omega) (by have := sz_pos hk hl h0 j; omega)
    rw [ed]
    omega
theorem ct_ok (hk : 2 ≤ k) (hs : ∀ j, 0 ≤ s j) (hl : ∀ j, 0 ≤ l j) (h0 : 0 < l 0) (h : Nat) : CtOk (ctO k s l h) where
  k2 := hk
  la := fun j => by
    show 0 ≤ if j = 0 then siz k l h else l (h + j)
    split
    · have := sz_pos hk hl h0 h
      omega
    · exact hl _
  l0 := sz_pos hk hl h0 h
  sp := fun j => hs _
  o0 := hl h
  o1 := sz_ge hk hl h0 h
  a0 := by
    show 0 ≤ fp k s l h
    unfold fp
    have h1 := hs h
    split
    · omega
    · have := ed_nn hk hs hl h0 (h - 1)
      omega
  ae := by
    show fp k s l h ≤ ed k s l h
    unfold fp
    cases h with
    | zero =>
      show 0 + s 0 ≤ s 0
      omega
    | succ h =>
      rw [if_neg (by omega), Nat.add_sub_cancel, ed]
      have h3 : 0 ≤ ((k : Int) - 1) * siz k l h := Int.mul_nonneg (by omega) (by have := sz_pos hk hl h0 h; omega)
      omega
/-- as finishing reckons it -/
theorem pl_form {h b : Nat} (hb : 0 < b) {N N' : Nat} (hN : b < k ^ N) (hN' : b < k ^ (N' + 1)) (hk : 2 ≤ k) : pl k s l h b = ed k s l h + ((b : Int) - 1) * siz k l h + l h + smN (fun j => if k ^ j ≤ b then s (h + 1 + j) else 0) N + smN (fun j => ((b / k ^ (j + 1) : Nat) : Int) * l (h + (j + 1))) N' := by
  unfold pl pp
  rw [if_neg (by omega)]
  have e1 : smN (fun j => if (ctO k s l h).k ^ j ≤ b then (ctO k s l h).sp j else 0) b = smN (fun j => if k ^ j ≤ b then s (h + 1 + j) else 0) N := by
    show smN (fun j => if k ^ j ≤ b then s (h + 1 + j) else 0) b = _
    have key : ∀ m, b < k ^ m → ∀ j, m ≤ j → (if k ^ j ≤ b then s (h + 1 + j) else 0) = 0 := fun m hm j hj => if_neg (by
      have := Nat.pow_le_pow_right (n := k) (by omega) hj
      omega)
    rcases Nat.le_total N b with z | z
    · exact smN_ext z (key N hN)
    · exact (smN_ext z (key b (lt_pow hk b))).symm
  have e2 : fq (ctO k s l h) b b = (b : Int) * siz k l h + smN (fun j => ((b / k ^ (j + 1) : Nat) : Int) * l (h + (j + 1))) N' := by
    unfold fq
    rw [smN_head]
    show (if (0 : Nat) = 0 then siz k l h else l (h + 0)) * ((b / k ^ 0 : Nat) : Int) + smN (fun j => (if j + 1 = 0 then siz k l h else l (h + (j + 1))) * ((b / k ^ (j + 1) : Nat) : Int)) b = _
    rw [if_pos rfl, Nat.pow_zero, Nat.div_one, Int.mul_comm]
    congr 1
    have e3 : smN (fun j => (if j + 1 = 0 then siz k l h else l (h + (j + 1))) * ((b / k ^ (j + 1) : Nat) : Int)) b = smN (fun j => ((b / k ^ (j + 1) : Nat) : Int) * l (h + (j + 1))) b := smN_congr fun j _ => by rw [if_neg (by omega), Int.mul_comm]
    rw [e3]
    have key : ∀ m, b < k ^ (m + 1) → ∀ j, m ≤ j → ((b / k ^ (j + 1) : Nat) : Int) * l (h + (j + 1)) = 0 := fun m hm j hj => by
      have := Nat.pow_le_pow_right (n := k) (by omega) (show m + 1 ≤ j + 1 by omega)
      rw [Nat.div_eq_of_lt (by omega)]
      simp
    rcases Nat.le_total N' b with z | z
    · exact smN_ext z (key N' hN')
    · exact (smN_ext z (key b (Nat.lt_of_lt_of_le (lt_pow hk b) (Nat.pow_le_pow_right (by omega) (by omega))))).symm
  rw [e1, e2]
  show ed k s l h - siz k l h + l h + _ + _ = _
  rw [Int.sub_mul]
  omega
theorem pl_zero {h : Nat} : pl k s l h 0 = fp k s l h := rfl
/-! ### linear -/
variable {s1 l1 s2 l2 : Nat → Int}
variable {m : Int}
theorem pl_nn (hk : 2 ≤ k) (hs : ∀ j, 0 ≤ s j) (hl : ∀ j, 0 ≤ l j) (h0 : 0 < l 0) (h b : Nat) : 0 ≤ pl k s l h b := by
  have ok := ct_ok hk hs hl h0 h
  rcases Nat.eq_zero_or_pos b with z | z
  · subst z
    exact ok.a0
  · obtain ⟨u, d, i, rfl, d1, hd, hi⟩ := stage_of hk z
    have h1 : en (ctO k s l h) u ≤ pp (ctO k s l h) (d * k ^ u + i) := (pp_ge ok d1 hd hi).1
    have h2 := en_mono ok (Nat.zero_le u)
    have h3 := ok.ae
    have h4 := ok.a0
    have : en (ctO k s l h) 0 = (ctO k s l h).eh := rfl
    show 0 ≤ pp (ctO k s l h) _
    omega
/-- how many nodes of height h are finished by n -/
def Cnt (k : Nat) (s l : Nat → Int) (h : Nat) (n v : Int) : Prop := 0 ≤ v ∧ ∀ b : Nat, (b : Int) < v ↔ pl k s l h b ≤ n
theorem Cnt.uniq {h : Nat} {n v u : Int} (a : Cnt k s l h n v) (b : Cnt k s l h n u) : v = u := cnt_uniq a.1 b.1 fun x => (a.2 x).trans (b.2 x).symm
end
end Sm
namespace K39
open PySem L2 Ab Sm
/-! ### counters: the cells -/
def szS (S : Sc) (j : Nat) : Int := siz S.a.toNat (item S.lv) j
def edS (S : Sc) (j : Nat) : Int := ed S.a.toNat (item S.sp) (item S.lv) j
def pwS (S : Sc) (j : Nat) : Int := ((S.a.toNat ^ j : Nat) : Int)
def ctS (S : Sc) (h : Nat) : Ct := ctO S.a.toNat (item S.sp) (item S.lv) h
def upL (g : Nat → Int) (n : Nat) : List Int := (List.range (n + 1)).map g
def cF (C : Addr) (S : Sc) (h : Nat) (p1 p2 p3 : Addr) : List (Str × Val) := [("own_schedule", scV C S), ("own_height", .int (h : Int)), ("sizes", .ptr p1), ("ends", .ptr p2), ("powers", .ptr p3)]
structure Cn (C C2 : Addr) (M : Mem) (i : Nat) (c p1 p2 p3 : Addr) (S : Sc) (h n : Nat) : Prop where
  c0 : M[i]? = some (c, .ins C2 (cF C S h p1 p2 p3))
  c1 : M[i + 1]? = some (p1, .lst ((upL (szS S) n).map .int))
  c2 : M[i + 2]? = some (p2, .lst ((upL (edS S) n).map .int))
  c3 : M[i + 3]? = some (p3, .lst ((upL (pwS S) n).map .int))
def grown (M : Mem) (i : Nat) (p1 p2 p3 : Addr) (S : Sc) (n : Nat) : Mem := ((M.set (i + 1) (p1, .lst ((upL (szS S) n).map .int))).set (i + 2) (p2, .lst ((upL (edS S) n).map .int))).set (i + 3) (p3, .lst ((upL (pwS S) n).map .int))
section
variable {C C2 : Addr} {M : Mem} {i : Nat} {c p1 p2 p3 : Addr} {S : Sc} {h n m : Nat}
theorem Cn.len (q : Cn C C2 M i c p1 p2 p3 S h n) : i + 3 < M.length := (List.getElem?_eq_some_iff.mp q.c3).1
theorem Cn.grow (q : Cn C C2 M i c p1 p2 p3 S h n) : Cn C C2 (grown M i p1 p2 p3 S m) i c p1 p2 p3 S h m := by
  have hl := q.len
  unfold grown
  refine ⟨?_, ?_, ?_, ?_⟩
  · rw [List.getElem?_set_ne (by omega), List.getElem?_set_ne (by omega), List.getElem?_set_ne (by omega)]
    exact q.c0
  · rw [List.getElem?_set_ne (by omega), List.getElem?_set_ne (by omega), List.getElem?_set_self (by omega)]
  · rw [List.getElem?_set_ne (by omega), List.getElem?_set_self (by rw [List.length_set]; omega)]
  · rw [List.getElem?_set_self (by rw [List.length_set, List.length_set]; omega)]
theorem set_id {α : Type} {l : List α} {j : Nat} {x : α} (h : l[j]? = some x) : l.set j x = l := by
  apply List.ext_getElem?
  intro z
  by_cases e : j = z
  · subst e
    rw [List.getElem?_set_self (List.getElem?_eq_some_iff.mp h).1, h]
  · rw [List.getElem?_set_ne e]
theorem Cn.self (q : Cn C C2 M i c p1 p2 p3 S h n) : grown M i p1 p2 p3 S n = M := by
  unfold grown
  rw [set_id q.c1, set_id q.c2, set_id q.c3]
end
/-- spine_at, level_at, arity, as counters use them -/
structure Sm2 (P : Program) (w : World) (K : PySem.W.Frag) (mg : Str → Option Value) (base : Heap) (C : Addr) : Prop where
  sat : ∃ f, Meth K C "spine_at" f ∧ FX P w K mg base 3 f fun ds _ => aSat C ds
  lat : ∃ f, Meth K C "level_at" f ∧ FX P w K mg base 3 f fun ds _ => aLat C ds
section
variable {P : Program} {w : World} {K : PySem.W.Frag} {mg : Str → Option Value} {base : Heap} {k : Nat} {f C C2 : Addr}
theorem av_sa {X : Cx} {Γ : Gam} {M : Mem} {o e : Expr} {pos apos : Pos} {m : Nat} {S : Sc} {i : Int} {pl : Sem Bool} (T : Rs X.K X.mg C) (Q : Sm2 X.prog X.w X.K X.mg X.base C) (hr : Rm m X.A) (hm : 3 ≤ m) (ho : aV X o Γ M (scV C S)) (he : aV X e Γ M (.int i)) (hS : GoodS S) (h0 : 0 ≤ i) (hst : starEach [e] X.env = (false, eval e X.env) :: starEach [] X.env := by rfl)
    (ht : eval (.Call (.Attribute o "spine_at" apos) [e] [] pos) X.env = (do
      let ov ← eval o X.env
      standAt apos.atName
      let (f, first) ← holding [ov] (getMethod ov "spine_at" pl)
      callWith pos f first (backTo pos (starEach [e] X.env)) (backToKw pos (keywordEach [] X.env))) := by rfl) : aV X (.Call (.Attribute o "spine_at" apos) [e] [] pos) Γ M (.int (item S.sp i.toNat)) := by
  obtain ⟨f, mt, F⟩ := Q.sat
  exact ae_meth T.cl mt F (hr.mono hm) ho (.im _) rfl (aa_cons (he.val (aa_nil (ak_nil ⟨rfl, S, i, rfl, hS, h0, rfl, rfl⟩))) hst) rfl rfl hst (by rw [hst]; rfl) ht
theorem av_la {X : Cx} {Γ : Gam} {M : Mem} {o e : Expr} {pos apos : Pos} {m : Nat} {S : Sc} {i : Int} {pl : Sem Bool} (T : Rs X.K X.mg C) (Q : Sm2 X.prog X.w X.K X.mg X.base C) (hr : Rm m X.A) (hm : 3 ≤ m) (ho : aV X o Γ M (scV C S)) (he : aV X e Γ M (.int i)) (hS : GoodS S) (h0 : 0 ≤ i) (hst : starEach [e] X.env = (false, eval e X.env) :: starEach [] X.env := by rfl)
    (ht : eval (.Call (.Attribute o "level_at" apos) [e] [] pos) X.env = (do
      let ov ← eval o X.env
      standAt apos.atName
      let (f, first) ← holding [ov] (getMethod ov "level_at" pl)
      callWith pos f first (backTo pos (starEach [e] X.env)) (backToKw pos (keywordEach [] X.env))) := by rfl) : aV X (.Call (.Attribute o "level_at" apos) [e] [] pos) Γ M (.int (item S.lv i.toNat)) := by
  obtain ⟨f, mt, F⟩ := Q.lat
  exact ae_meth T.cl mt F (hr.mono hm) ho (.im _) rfl (aa_cons (he.val (aa_nil (ak_nil ⟨rfl, S, i, rfl, hS, h0, rfl, rfl⟩))) hst) rfl rfl hst (by rw [hst]; rfl) ht
/-! ### check_at_least -/
/-! ### grow -/
end
end K39
namespace K39
open PySem L2 Ab Sm
section
variable {S : Sc}
theorem GoodS.k2 (g : GoodS S) : 2 ≤ S.a.toNat := by have := g.a2; omega
theorem GoodS.k9 (g : GoodS S) : S.a.toNat ≤ 9 := by have := g.a9; omega
theorem GoodS.s0 (g : GoodS S) (j : Nat) : 0 ≤ item S.sp j := (g.ls.item j).1
theorem GoodS.l0 (g : GoodS S) (j : Nat) : 0 ≤ item S.lv j := (g.ll.item j).1
theorem GoodS.lp (g : GoodS S) : 0 < item S.lv 0 := by have := g.l0 0; have := g.lf; omega
theorem GoodS.ct (g : GoodS S) (h : Nat) : CtOk (ctS S h) := ct_ok g.k2 g.s0 g.l0 g.lp h
end
end K39
namespace K39
open PySem L2 Ab Sm
def CntS (S : Sc) (h : Nat) (n v : Int) : Prop := Cnt S.a.toNat (item S.sp) (item S.lv) h n v
end K39
namespace K39
open PySem L2 Ab Sm
theorem Cn.cons {C C2 : Addr} {M : Mem} {i : Nat} {c p1 p2 p3 : Addr} {S : Sc} {h n : Nat} {x : Addr × Cell} (q : Cn C C2 M i c p1 p2 p3 S h n) : Cn C C2 (x :: M) (i + 1) c p1 p2 p3 S h n := ⟨q.c0, q.c1, q.c2, q.c3⟩
end K39
namespace K39
open PySem L2 Ab Sm
/-! ### the law's streams of draws: a dict -/
def stD (cs : List Int) (t y : Int) : Cell := .dk [(.inr "cells", .lst (cs.map .int)), (.inr "at", .int t), (.inr "left", .int y)]
theorem stD_inj {cs cs' : List Int} {t y t' y' : Int} (h : stD cs t y = stD cs' t' y') : t = t' := by
  unfold stD at h
  injection h with h
  injection h with h
  injection h with h1 h
  injection h with h2 h
  have := congrArg Prod.snd h2
  simpa using this
/-- the stream's cell stands at place i; its count is at most N -/
def SD (M : Mem) (i : Nat) (a : Addr) (N : Nat) : Prop := ∃ cs t y, M[i]? = some (a, stD cs t y) ∧ cs ≠ [] ∧ cs.length ≤ 1000 ∧ 0 ≤ t ∧ t ≤ (N : Int)
def Dq (i : Nat) (a : Addr) (c : Nat) (M M' : Mem) : Prop := ∃ cs t y cs' t' y', M[i]? = some (a, stD cs t y) ∧ M' = M.set i (a, stD cs' t' y') ∧ (cs ≠ [] → cs' ≠ []) ∧ (cs.length ≤ 1000 → cs'.length ≤ 1000) ∧ (0 ≤ t → 0 ≤ t') ∧ t' ≤ t + (c : Int)
theorem Dq.trans {M M' M'' : Mem} {i : Nat} {a : Addr} {c e : Nat} (d : Dq i a c M M') (d' : Dq i a e M' M'') : Dq i a (c + e) M M'' := by
  obtain ⟨cs1, t1, y1, cs2, t2, y2, hm1, rfl, f1, f2, g0, g1⟩ := d
  obtain ⟨cs3, t3, y3, cs4, t4, y4, hm3, rfl, f3, f4, g2, g3⟩ := d'
  rw [List.getElem?_set_self (List.getElem?_eq_some_iff.mp hm1).1] at hm3
  have e := (Prod.mk.inj (Option.some.inj hm3)).2
  have et := stD_inj e
  have ec : cs2 = cs3 := by
    unfold stD at e
    injection e with e
    injection e with e
    injection e with e1 e
    have e2 := congrArg Prod.snd e1
    have e3 : cs2.map Val.int = cs3.map Val.int := by simpa using e2
    exact (List.map_inj_right (fun a b h => by injection h)).mp e3
  subst et ec
  exact ⟨cs1, t1, y1, cs4, t4, y4, hm1, by rw [List.set_set], fun h => f3 (f1 h), fun h => f4 (f2 h), fun h => g2 (g0 h), by omega⟩
theorem Dq.mono {M M' : Mem} {i : Nat} {a : Addr} {c e : Nat} (d : Dq i a c M M') (h : c ≤ e) : Dq i a e M M' := by
  obtain ⟨cs1, t1, y1, cs2, t2, y2, hm1, e1, f1, f2, g0, g1⟩ := d
  exact ⟨cs1, t1, y1, cs2, t2, y2, hm1, e1, f1, f2, g0, by omega⟩
theorem SD.refl {M : Mem} {i : Nat} {a : Addr} {N : Nat} (h : SD M i a N) : Dq i a 0 M M := by
  obtain ⟨cs, t, y, h, _⟩ := h
  exact ⟨cs, t, y, cs, t, y, h, (set_id h).symm, fun h => h, fun h => h, fun h => h, by omega⟩
theorem SD.cons {M : Mem} {i : Nat} {a : Addr} {N : Nat} {c : Addr × Cell} (h : SD M i a N) : SD (c :: M) (i + 1) a N := h
theorem Dq.cons {M M' : Mem} {i : Nat} {a : Addr} {e : Nat} {c : Addr × Cell} (h : Dq (i + 1) a e (c :: M) M') : ∃ M'', M' = c :: M'' ∧ Dq i a e M M'' := by
  obtain ⟨x1, t1, y1, x2, t2, y2, hm1, rfl, g⟩ := h
  exact ⟨_, rfl, x1, t1, y1, x2, t2, y2, hm1, rfl, g⟩
end K39
namespace Ab
open PySem PySem.Spec PyProof.Rows L2
end Ab
namespace Ab
open PySem PySem.Spec PyProof.Rows L2
/-! ### t[::-1] of a tuple -/
end Ab
/-! boxes: opened, closed; promises over boxes -/
namespace Ab
open PySem PySem.Spec PyProof.Rows L2
section
variable {X : Cx} {Γ : Gam} {M M' : Mem} {P : Val → Mem → Prop} {e : Expr} {sts : List Stmt} {k : AK} {p : Addr} {φ φ' : Mem0 → Prop} {B : Mem0} {i : Nat}
/-- a box is opened for the rest of a block -/
theorem as_open (hi : M[i]? = some (p, .box φ)) (h : ∀ B, φ B → p ∈ B.map (·.1) → aSs X sts Γ (bs B ++ M.eraseIdx i) k) : aSs X sts Γ M k := fun Hi H σ ok en D q => by
  obtain ⟨B, h1, h2, ok'⟩ := ok.opn hi
  exact h B h1 h2 Hi H σ ok' en D q
/-- cells into a box, behind an expression -/
theorem ae_close (h : aE X e Γ M fun d M1 => ∃ φ B M2 p, M1 = bs B ++ M2 ∧ φ B ∧ p ∈ B.map (·.1) ∧ P d ((p, .box φ) :: M2)) : aE X e Γ M P := fun Hi H σ ok en Q q => h Hi H σ ok en Q fun d M1 v Hi1 H1 h1 s1 ok1 r1 => by
  obtain ⟨φ, B, M2, p, rfl, hφ, hp, hP⟩ := h1
  exact q d _ v Hi1 H1 hP s1 (ok1.cls hφ hp) r1
end
section
variable {P : Program} {w : World} {K : PySem.W.Frag} {mg : Str → Option Value} {base : Heap} {k : Nat} {f : Addr} {ks : List Str} {sp sp' : List V → List V → Hp → VK → Prop} {sx sx' : ASx}
theorem FnX.weak (F : FnX P w K mg base k f ks sp) (h : ∀ vs zs H Q, sp' vs zs H Q → sp vs zs H Q) : FnX P w K mg base k f ks sp' :=
  ⟨fun A outer s H us ws vs zs Q a b c d e g => F.run A outer s H us ws vs zs Q a b c d e (h vs zs H Q g)⟩
/-- a promise by another one -/
theorem FnX.imp (F : FnX P w K mg base k f ks (spX K sx)) (h : ∀ ds es M R, sx' ds es M R → sx ds es M R) : FnX P w K mg base k f ks (spX K sx') :=
  F.weak fun vs zs H Q ⟨Hi, M, ds, es, R, r1, r2, ok, hs, q⟩ => ⟨Hi, M, ds, es, R, r1, r2, ok, h ds es M R hs, q⟩
theorem set_at {α : Type} {M : List α} {i : Nat} {x : α} (h : M[i]? = some x) : M.set i x = M := by
  induction M generalizing i with
  | nil => rfl
  | cons y M ih =>
    cases i with
    | zero => cases h; rfl
    | succ i => rw [List.set_cons_succ, ih h]
/-- a promise over cells, told over their box -/
theorem FnX.box (F : FnX P w K mg base k f ks (spX K sx)) (h : ∀ ds es M R, sx' ds es M R → ∃ (i : Nat) (p : Addr) (φ : Mem0 → Prop), M[i]? = some (p, .box φ) ∧
    ∀ B, φ B → p ∈ B.map (·.1) → sx ds es (bs B ++ M.eraseIdx i) fun d M' => ∃ B' φ', M' = bs B' ++ M.eraseIdx i ∧ φ' B' ∧ p ∈ B'.map (·.1) ∧ R d (M.set i (p, .box φ'))) : FnX P w K mg base k f ks (spX K sx') :=
  F.weak fun vs zs H Q ⟨Hi, M, ds, es, R, r1, r2, ok, hs, q⟩ => by
    obtain ⟨i, p, φ, hi, hb⟩ := h ds es M R hs
    obtain ⟨B, h1, h2, ok'⟩ := ok.opn hi
    refine ⟨Hi, _, ds, es, _, r1, r2, ok', hb B h1 h2, fun d M' v Hi' H' hd s' ok2 r => ?_⟩
    obtain ⟨B', φ', rfl, h3, h4, h5⟩ := hd
    exact q d _ v Hi' H' h5 s' (ok2.clsAt hi h3 h4) r
/-- new cells into a box at a call's end -/
theorem FnX.boxNew (F : FnX P w K mg base k f ks (spX K sx)) (h : ∀ ds es M R, sx' ds es M R → sx ds es M fun d M' => ∃ p B φ M2, M' = bs B ++ M2 ∧ φ B ∧ p ∈ B.map (·.1) ∧ R d ((p, .box φ) :: M2)) : FnX P w K mg base k f ks (spX K sx') :=
  F.weak fun vs zs H Q ⟨Hi, M, ds, es, R, r1, r2, ok, hs, q⟩ => by
    refine ⟨Hi, _, ds, es, _, r1, r2, ok, h ds es M R hs, fun d M' v Hi' H' hd s' ok2 r => ?_⟩
    obtain ⟨p, B, φ, M2, rfl, h3, h4, h5⟩ := hd
    exact q d _ v Hi' H' h5 s' (ok2.cls h3 h4) r
end
end Ab
/-! repr of data of any depth; memories read otherwise -/
namespace Ab
open PySem PySem.Spec PyProof.Rows L2
mutual
def shV : Val → Prop
  | .non => True
  | .bl _ => True
  | .int i => showI i
  | .str x => x.cps.toList.all (fun c => decide (c < 16 ^ 8)) = true
  | .lst xs => shVs xs
  | .tup xs => shVs xs
  | .ty _ => False
  | .ptr _ => False
  | .obj _ _ => False
  | .exc _ _ => False
  | .lam _ _ => False
def shVs : List Val → Prop
  | [] => True
  | x :: xs => shV x ∧ shVs xs
end
mutual
def wdV : Val → Nat
  | .non => 5
  | .bl _ => 5
  | .int _ => 1921
  | .str x => 10 * x.length + 2
  | .lst xs => wdVs xs + 3
  | .tup xs => wdVs xs + 3
  | .ty _ => 0
  | .ptr _ => 0
  | .obj _ _ => 0
  | .exc _ _ => 0
  | .lam _ _ => 0
def wdVs : List Val → Nat
  | [] => 0
  | x :: xs => wdV x + 2 + wdVs xs
end
mutual
def dpV : Val → Nat
  | .non => 0
  | .bl _ => 0
  | .int _ => 0
  | .str _ => 0
  | .lst xs => dpVs xs + 1
  | .tup xs => dpVs xs + 1
  | .ty _ => 0
  | .ptr _ => 0
  | .obj _ _ => 0
  | .exc _ _ => 0
  | .lam _ _ => 0
def dpVs : List Val → Nat
  | [] => 0
  | x :: xs => max (dpV x) (dpVs xs)
end
structure ShD (v : Val) (p : PyData) : Prop where
  td : toD v = some p
  sh : p.showable = true
  nd : p.hasDict = false
  ln : p.shown.length ≤ wdV v
  dp : p.depth ≤ dpV v
structure ShDs (v : List Val) (p : List PyData) : Prop where
  td : toDs v = some p
  sh : PyData.showableAll p = true
  nd : PyData.hasDictAll p = false
  ln : ((PyData.shownAll p).map (·.length)).sum + 2 * (PyData.shownAll p).length ≤ wdVs v
  dp : PyData.depthAll p ≤ dpVs v
mutual
theorem shd : ∀ (v : Val), shV v → ∃ p, ShD v p
  | .non, _ => ⟨.none, by unfold toD; rfl, rfl, rfl, by decide, by simp [PyData.depth]⟩
  | .bl b, _ => ⟨.bool b, by unfold toD; rfl, rfl, rfl, by cases b <;> decide, by simp [PyData.depth]⟩
  | .int i, h => ⟨.int i, by unfold toD; rfl, by unfold PyData.showable; exact decide_eq_true h, rfl, by unfold wdV; exact shownI_le h, by simp [PyData.depth]⟩
  | .str x, h => ⟨.str x, by unfold toD; rfl, rfl, rfl, by
      unfold wdV PyData.shown
      have := StrLaws.reprText_len x (fun c hc => by unfold shV at h; exact of_decide_eq_true (List.all_eq_true.mp h c hc))
      omega, by simp [PyData.depth]⟩
  | .lst xs, h => by
    unfold shV at h
    obtain ⟨ps, q⟩ := shds xs h
    refine ⟨.list ps, by unfold toD; rw [q.td]; rfl, by unfold PyData.showable; exact q.sh, by unfold PyData.hasDict; exact q.nd, ?_, by unfold PyData.depth dpV; have := q.dp; omega⟩
    unfold wdV PyData.shown
    have h1 := listText_len_le (PyData.shownAll ps)
    have h2 := q.ln
    omega
  | .tup xs, h => by
    unfold shV at h
    obtain ⟨ps, q⟩ := shds xs h
    refine ⟨.tuple ps, by unfold toD; rw [q.td]; rfl, by unfold PyData.showable; exact q.sh, by unfold PyData.hasDict; exact q.nd, ?_, by unfold PyData.depth dpV; have := q.dp; omega⟩
    unfold wdV PyData.shown
    have h1 := tupleText_len_le (PyData.shownAll ps)
    have h2 := q.ln
    omega
  | .ty _, h => h.elim
  | .ptr _, h => h.elim
  | .obj _ _, h => h.elim
  | .exc _ _, h => h.elim
  | .lam _ _, h => h.elim
theorem shds : ∀ (v : List Val), shVs v → ∃ p, ShDs v p
  | [], _ => ⟨[], rfl, rfl, rfl, by decide, by simp [PyData.depthAll]⟩
  | x :: xs, h => by
    unfold shVs at h
    obtain ⟨p, q⟩ := shd x h.1
    obtain ⟨ps, qs⟩ := shds xs h.2
    refine ⟨p :: ps, by unfold toDs; rw [q.td, qs.td]; rfl, by unfold PyData.showableAll; rw [q.sh, qs.sh]; rfl, by unfold PyData.hasDictAll; rw [q.nd, qs.nd]; rfl, ?_, by unfold PyData.depthAll dpVs; have := q.dp; have := qs.dp; omega⟩
    unfold PyData.shownAll wdVs
    rw [List.map_cons, List.sum_cons, List.length_cons]
    have := q.ln
    have := qs.ln
    omega
end
def rpr (v : Val) : Str := match toD v with
  | some p => p.shown
  | none => ""
def isSq : Val → Prop
  | .lst _ => True
  | .tup _ => True
  | _ => False
section
variable {X : Cx} {Γ : Gam} {M M' : Mem} {P : Val → Mem → Prop} {e a b c o : Expr} {pos p1 : Pos} {sts : List Stmt} {k : AK} {d v : Val} {n : Nat}
theorem ae_reprV (hr : Rm n X.A) (hm : X.mg "repr" = none) (ha : aE X a Γ M fun d M' => ∃ v, Vw M' d v ∧ isSq v ∧ shV v ∧ wdV v ≤ sizeLine ∧ dpV v ≤ 60 ∧ P (.str (rpr v)) M')
    (hg : Gl X "repr" := by rfl) (hst : starEach [a] X.env = [(false, eval a X.env)] := by rfl) : aE X (.Call (.Name "repr" p1) [a] [] pos) Γ M P := by
  refine ae_repr hr hm (ha.mono fun d M1 ⟨v, h1, h2, h3, h4, h5, h6⟩ => ?_) hg hst
  obtain ⟨p, q⟩ := shd v h3
  have e : rpr v = p.shown := by unfold rpr; rw [q.td]
  rw [e] at h6
  refine ⟨v, p, h1, q.td, ?_, q.sh, q.nd, Nat.le_trans q.dp h5, Nat.le_trans q.ln h4, h6⟩
  have t := q.td
  cases v with
  | lst xs =>
    unfold toD at t
    obtain ⟨ds, _, rfl⟩ := Option.map_eq_some_iff.mp t
    exact .inl ⟨_, rfl⟩
  | tup xs =>
    unfold toD at t
    obtain ⟨ds, _, rfl⟩ := Option.map_eq_some_iff.mp t
    exact .inr ⟨_, rfl⟩
  | _ => exact h2.elim
end
section
variable {P : Val → Mem → Prop} {d : Val} {M M' : Mem} {B : Mem0} {p : Addr} {φ : Mem0 → Prop} {x : Cell} {i : Nat}
/-- a def's end: the cells go back into their box -/
theorem Ret.clsAt (hi : M[i]? = some (p, x)) (h : φ B) (hp : p ∈ B.map (·.1)) (hr : Ret P d (M.set i (p, .box φ))) : Ret P d (bs B ++ M.eraseIdx i) := .tr (fun _ _ _ ok => ok.clsAt hi h hp) hr
theorem Ret.cls (h : φ B) (hp : p ∈ B.map (·.1)) (hr : Ret P d ((p, .box φ) :: M)) : Ret P d (bs B ++ M) := .tr (fun _ _ _ ok => ok.cls h hp) hr
end
end Ab
/-! comparisons whose outcome is known; data compared -/
namespace Ab
open PySem PySem.Spec PyProof.Rows L2
mutual
def dtV : Val → Prop
  | .non => True
  | .bl _ => True
  | .int _ => True
  | .str x => PyData.strOk x = true
  | .lst xs => dtVs xs
  | .tup xs => dtVs xs
  | .ty _ => False
  | .ptr _ => False
  | .obj _ _ => False
  | .exc _ _ => False
  | .lam _ _ => False
def dtVs : List Val → Prop
  | [] => True
  | x :: xs => dtV x ∧ dtVs xs
end
structure DtD (v : Val) (p : PyData) : Prop where
  td : toD v = some p
  cl : p.canLay0 = true
  dp : p.depth ≤ dpV v
structure DtDs (v : List Val) (p : List PyData) : Prop where
  td : toDs v = some p
  cl : PyData.canLayAll0 p = true
  dp : PyData.depthAll p ≤ dpVs v
mutual
theorem dtd : ∀ (v : Val), dtV v → ∃ p, DtD v p
  | .non, _ => ⟨.none, by unfold toD; rfl, rfl, by simp [PyData.depth]⟩
  | .bl b, _ => ⟨.bool b, by unfold toD; rfl, rfl, by simp [PyData.depth]⟩
  | .int i, h => ⟨.int i, by unfold toD; rfl, rfl, by simp [PyData.depth]⟩
  | .str x, h => ⟨.str x, by unfold toD; rfl, by unfold dtV at h; unfold PyData.canLay0; exact h, by simp [PyData.depth]⟩
  | .lst xs, h => by
    unfold dtV at h
    obtain ⟨ps, q⟩ := dtds xs h
    exact ⟨.list ps, by unfold toD; rw [q.td]; rfl, by unfold PyData.canLay0; exact q.cl, by unfold PyData.depth dpV; have := q.dp; omega⟩
  | .tup xs, h => by
    unfold dtV at h
    obtain ⟨ps, q⟩ := dtds xs h
    exact ⟨.tuple ps, by unfold toD; rw [q.td]; rfl, by unfold PyData.canLay0; exact q.cl, by unfold PyData.depth dpV; have := q.dp; omega⟩
  | .ty _, h => h.elim
  | .ptr _, h => h.elim
  | .obj _ _, h => h.elim
  | .exc _ _, h => h.elim
  | .lam _ _, h => h.elim
theorem dtds : ∀ (v : List Val), dtVs v → ∃ p, DtDs v p
  | [], _ => ⟨[], rfl, rfl, by simp [PyData.depthAll]⟩
  | x :: xs, h => by
    unfold dtVs at h
    obtain ⟨p, q⟩ := dtd x h.1
    obtain ⟨ps, qs⟩ := dtds xs h.2
    exact ⟨p :: ps, by unfold toDs; rw [q.td, qs.td]; rfl, by unfold PyData.canLayAll0; rw [q.cl, qs.cl]; rfl, by unfold PyData.depthAll dpVs; have := q.dp; have := qs.dp; omega⟩
end
theorem dt_ints (xs : List Int) : dtVs (xs.map .int) := by
  induction xs with
  | nil => trivial
  | cons x xs ih => exact ⟨trivial, ih⟩
theorem dp_ints (xs : List Int) : dpVs (xs.map .int) = 0 := by
  induction xs with
  | nil => rfl
  | cons x xs ih =>
    rw [List.map_cons]
    unfold dpVs dpV
    rw [ih]
    rfl
section
variable {X : Cx} {Γ : Gam} {M M' : Mem} {P : Val → Mem → Prop} {e a b c o : Expr} {pos p1 : Pos} {sts : List Stmt} {k : AK} {d d1 d2 v w : Val} {n : Nat} {i j : Int}
theorem cmp_neV (h1 : Vw M d1 v) (h2 : Vw M d2 w) (h : v = w) (hd : dtV v) (hp : dpV v ≤ 60) (hu : X.A.units + 64 < cLine) : Cmp X .NotEq M d1 d2 false := by
  subst h
  obtain ⟨p, q⟩ := dtd v hd
  have hs : SeqAt.shaped p = true := Bool.and_eq_true_iff.mpr ⟨q.cl, decide_eq_true (by have := q.dp; omega)⟩
  have := cmp_neD (X := X) h1 h2 q.td q.td hs hs hu
  rwa [SeqAt.eqv_refl _ q.cl] at this
theorem cmp_neT (h : i ≠ j) : Cmp X .NotEq M (.int i) (.int j) true := cmp_neI.eq (by simp [h])
theorem cmp_eqST {x y : Str} (h : x = y) : Cmp X .Eq M (.str x) (.str y) true := cmp_eqS.eq (by simp [h])
theorem cmp_neSF {x y : Str} (h : x = y) : Cmp X .NotEq M (.str x) (.str y) false := cmp_neS.eq (by simp [h])
end
end Ab
namespace Ab
open PySem PySem.Spec PyProof.Rows L2
section
variable {P : Program} {w : World} {K : PySem.W.Frag} {mg : Str → Option Value} {base : Heap}
/-- a def with defaults, called by positions and keywords in any way -/
theorem fnx_dflG {x qual : Str} {params : Arguments} {body : List Stmt} {sc : Scope} {dvs : List V} {kws : List (Str × V)} {f : Addr} {fd : FuncData} {N ps ks : List Str} {k n : Nat} {s0 : ASp} (g : {α : Type} → List α → List α → List α → List α) (F : FunD K x qual params body sc dvs kws f fd) (S : FnScope N ps sc) (hd : dvs ≠ []) (dd : List Val) (hdd : ∀ H, RepA K H dd dvs)
    (h : ∀ (T : Addr) (kV doc pm : Value) (an : Option Addr) (cdv ct : Value) (us ws its : List Value), us.length = n → ws.length = ks.length → its.length = dvs.length →
      ∃ k, bindArgs (PySem.W.fnOf x qual params body sc (.ref T) kV doc pm an cdv ct) ⟨us, ks.zip ws⟩ = seqItems? (.ref T) >>= k ∧ k (some its.toArray) = pure (ps.zip (g us ws its)))
    (hv : ∀ {vs zs ys : List V} {us ws its : List Value}, Vals vs us → Vals zs ws → Vals ys its → Vals (g vs zs ys) (g us ws its))
    (hr : ∀ {H : Hp} {ds es fs : List Val} {vs zs ys : List V}, RepA K H ds vs → RepA K H es zs → RepA K H fs ys → RepA K H (g ds es fs) (g vs zs ys))
    (len : ∀ ds M R, s0 ds M R → ds.length = ps.length) (hb : BodyOk P w K mg base k f N qual sc body s0) : FnX P w K mg base (k + 1) f ks (spX K fun ds es M R => ds.length = n ∧ s0 (g ds es dd) M R) := by
  obtain ⟨oc, od, dV, kV, doc, pm, an, cdv, ct, osl, e, lk, hcd, hD, hK⟩ := F.ex
  rcases hD with ⟨e, _⟩ | ⟨_, T, o, its, m, e2, lT, oT, rT⟩
  · exact absurd e hd
  · subst e2
    subst e
    have l1 : its.length = dvs.length := rT.length.symm
    refine fnx_kbn (n := n) (ks := ks) (fun ds es => g ds es dd) F S (g := fun us ws => g us ws its) (gV := fun vs zs => g vs zs dvs) ⟨fun s us ws X l2 h2 => ?_, fun r1 r2 => hv r1 r2 rT⟩ (fun H ds vs es zs r1 r2 _ _ => hr r1 r2 (hdd H)) len hb
    obtain ⟨k', e1, e2⟩ := h T kV doc pm an cdv ct us ws its l2 h2 l1
    refine BindsTo.of_looks fun M => ?_
    show PySem.W.Looks M s.heap (bindArgs _ ⟨us, ks.zip ws⟩) _
    rw [e1]
    exact looks_items X lT oT (.of_pure e2)
/-- a written tuple -/
theorem rep_wt {H : Hp} {a : Addr} {c : Value} {od : Option Addr} {its : List Value} {n : Nat} {sl : Array (Option Value)} {vs : List V} {ds : List Val} (l : K.lookup a = some ⟨c, od, .seq its.toArray n, sl⟩) (hc : c = .type "tuple") (hz : its.length ≤ sizeLine) (hv : Vals vs its) (r : RepA K H ds vs) : Rep K H (.tup ds) (.ref a) :=
  .tup (.inr ⟨_, _, _, l, hc, rfl, by simpa using hz, by simpa using hv⟩) r
end
end Ab
namespace K39
open PySem L2 Ab Sm
/-- a short stream -/
structure Sq3 (lo : Int) (s : Stm) : Prop where
  sq : Seq lo s
  a1 : ∀ v ∈ s.1, v ≤ 3
  a2 : ∀ v ∈ s.2, v ≤ 3
  l3 : s.1.length ≤ 3
theorem Sq3.it {lo : Int} {s : Stm} (h : Sq3 lo s) (i : Nat) : item s i ≤ 3 := by
  rcases item_mem h.sq.ne i with z | z
  · exact h.a1 _ z
  · exact h.a2 _ z
end K39
namespace Sm
/-! ### the value of a sequence of levels, as a limit -/
def ff (k : Int) (w : Nat → Int) : Nat → Int
  | 0 => 0
  | n + 1 => ff k w n * k + w n
structure Vl (k : Int) (w : Nat → Int) (x b : Int) : Prop where
  b0 : 0 < b
  bd : ∃ c : Int, ∀ n, -c ≤ x * k ^ n - b * ff k w n ∧ x * k ^ n - b * ff k w n ≤ c
theorem pow_big {k : Int} (hk : 2 ≤ k) (n : Nat) : (n : Int) < k ^ n := by
  induction n with
  | zero => simp
  | succ n ih =>
    rw [Int.pow_succ]
    have : k ^ n * 2 ≤ k ^ n * k := Int.mul_le_mul_of_nonneg_left hk (by omega)
    omega
section
variable {k : Int} {w w1 w2 : Nat → Int} {x b x' b' x1 b1 x2 b2 m : Int}
theorem Vl.uniq (hk : 2 ≤ k) (h : Vl k w x b) (h' : Vl k w x' b') : x * b' = x' * b := by
  obtain ⟨c, hc⟩ := h.bd
  obtain ⟨c', hc'⟩ := h'.bd
  have b0 := h.b0
  have b0' := h'.b0
  have key : ∀ n, -(b' * c + b * c') ≤ (x * b' - x' * b) * k ^ n ∧ (x * b' - x' * b) * k ^ n ≤ b' * c + b * c' := by
    intro n
    obtain ⟨h1, h2⟩ := hc n
    obtain ⟨h3, h4⟩ := hc' n
    have e : (x * b' - x' * b) * k ^ n = b' * (x * k ^ n - b * ff k w n) - b * (x' * k ^ n - b' * ff k w n) := by
      rw [Int.mul_sub, Int.mul_sub, Int.sub_mul]
      have e1 : b' * (b * ff k w n) = b * (b' * ff k w n) := by rw [Int.mul_left_comm]
      have e2 : x * b' * k ^ n = b' * (x * k ^ n) := by rw [Int.mul_comm x b', Int.mul_assoc]
      have e3 : x' * b * k ^ n = b * (x' * k ^ n) := by rw [Int.mul_comm x' b, Int.mul_assoc]
      rw [e1, e2, e3]
      omega
    have p1 := Int.mul_le_mul_of_nonneg_left h1 (show 0 ≤ b' by omega)
    have p2 := Int.mul_le_mul_of_nonneg_left h2 (show 0 ≤ b' by omega)
    have p3 := Int.mul_le_mul_of_nonneg_left h3 (show 0 ≤ b by omega)
    have p4 := Int.mul_le_mul_of_nonneg_left h4 (show 0 ≤ b by omega)
    rw [Int.mul_neg] at p1 p3
    rw [e]
    omega
  generalize hd : x * b' - x' * b = d at key
  have : d = 0 := by
    have hcc := (key 0)
    have c0 : 0 ≤ b' * c + b * c' := by rw [Int.pow_zero, Int.mul_one] at hcc; omega
    have hN := key ((b' * c + b * c').toNat)
    have hp := pow_big hk ((b' * c + b * c').toNat)
    rw [Int.toNat_of_nonneg c0] at hp
    rcases Int.lt_trichotomy d 0 with z | z | z
    · have : (-1) * k ^ (b' * c + b * c').toNat ≥ d * k ^ (b' * c + b * c').toNat := Int.mul_le_mul_of_nonneg_right (by omega) (by omega)
      omega
    · exact z
    · have : 1 * k ^ (b' * c + b * c').toNat ≤ d * k ^ (b' * c + b * c').toNat := Int.mul_le_mul_of_nonneg_right (by omega) (by omega)
      omega
  omega
end
/-! ### lowest terms -/
theorem lowest_eq {a b c d : Nat} (hb : 0 < b) (hd : 0 < d) (h : a * d = c * b) : a / Nat.gcd a b = c / Nat.gcd c d ∧ b / Nat.gcd a b = d / Nat.gcd c d := by
  have g1 : 0 < Nat.gcd a b := Nat.gcd_pos_of_pos_right _ hb
  have g2 : 0 < Nat.gcd c d := Nat.gcd_pos_of_pos_right _ hd
  obtain ⟨p, hp⟩ := Nat.gcd_dvd_left a b
  obtain ⟨q, hq⟩ := Nat.gcd_dvd_right a b
  obtain ⟨r, hr⟩ := Nat.gcd_dvd_left c d
  obtain ⟨t, ht⟩ := Nat.gcd_dvd_right c d
  have e1 : a / Nat.gcd a b = p := by
    have := Nat.mul_div_cancel_left p g1
    rw [← hp] at this
    exact this
  have e2 : b / Nat.gcd a b = q := by
    have := Nat.mul_div_cancel_left q g1
    rw [← hq] at this
    exact this
  have e3 : c / Nat.gcd c d = r := by
    have := Nat.mul_div_cancel_left r g2
    rw [← hr] at this
    exact this
  have e4 : d / Nat.gcd c d = t := by
    have := Nat.mul_div_cancel_left t g2
    rw [← ht] at this
    exact this
  have c1 : Nat.Coprime p q := by
    have := Nat.coprime_div_gcd_div_gcd g1
    rwa [e1, e2] at this
  have c2 : Nat.Coprime r t := by
    have := Nat.coprime_div_gcd_div_gcd g2
    rwa [e3, e4] at this
  have hpt : p * t = r * q := by
    have h1 : Nat.gcd a b * Nat.gcd c d * (p * t) = Nat.gcd a b * Nat.gcd c d * (r * q) := by
      have l1 : Nat.gcd a b * Nat.gcd c d * (p * t) = (Nat.gcd a b * p) * (Nat.gcd c d * t) := Nat.mul_mul_mul_comm _ _ _ _
      have l2 : Nat.gcd a b * Nat.gcd c d * (r * q) = (Nat.gcd c d * r) * (Nat.gcd a b * q) := by rw [Nat.mul_comm (Nat.gcd a b), Nat.mul_mul_mul_comm]
      rw [l1, l2, ← hp, ← hq, ← hr, ← ht]
      exact h
    exact Nat.eq_of_mul_eq_mul_left (Nat.mul_pos g1 g2) h1
  have d1 : q ∣ t := c1.symm.dvd_of_dvd_mul_left (by rw [hpt]; exact Nat.dvd_mul_left q r)
  have d2 : t ∣ q := c2.symm.dvd_of_dvd_mul_left (by rw [← hpt]; exact Nat.dvd_mul_left t p)
  have e5 : q = t := Nat.dvd_antisymm d1 d2
  have q0 : 0 < q := by
    rcases Nat.eq_zero_or_pos q with z | z
    · rw [z, Nat.mul_zero] at hq
      omega
    · exact z
  have e6 : p = r := by
    rw [← e5] at hpt
    exact Nat.eq_of_mul_eq_mul_right q0 hpt
  rw [e1, e2, e3, e4]
  exact ⟨e6, e5⟩
end Sm
/-! the mean gap as a fraction; blocks of leaves -/
namespace Sm
/-- a / b is k times the value of the levels w -/
structure Gq (k : Int) (w : Nat → Int) (a b : Nat) : Prop where
  b0 : 0 < b
  ex : ∃ x y, Vl k w x y ∧ 0 ≤ x ∧ (a : Int) * y = x * k * b
variable {k : Int} {w w1 w2 : Nat → Int} {a b a' b' a1 b1 a2 b2 : Nat} {x y : Int}
theorem Gq.of (hk : 2 ≤ k) (h : Vl k w x y) (h0 : 0 ≤ x) : Gq k w (x * k).toNat y.toNat := by
  have y0 := h.b0
  have xk : 0 ≤ x * k := Int.mul_nonneg h0 (by omega)
  exact ⟨by omega, x, y, h, h0, by rw [Int.toNat_of_nonneg xk, Int.toNat_of_nonneg (by omega)]⟩
theorem mul_cancel {p q r : Int} (hr : 0 < r) (h : p * r = q * r) : p = q := Int.eq_of_mul_eq_mul_right (by omega) h
theorem Gq.uniq (hk : 2 ≤ k) (h : Gq k w a b) (h' : Gq k w a' b') : a * b' = a' * b := by
  obtain ⟨b0, x, y, v, x0, e⟩ := h
  obtain ⟨b0', x', y', v', x0', e'⟩ := h'
  have u := v.uniq hk v'
  have y0 := v.b0
  have y0' := v'.b0
  have e1 : ((a : Int) * b') * (y * y') = ((a' : Int) * b) * (y * y') := by
    calc ((a : Int) * b') * (y * y') = (a * y) * (b' * y') := by ac_rfl
      _ = (x * k * b) * (b' * y') := by rw [e]
      _ = (x * y') * (k * b * b') := by ac_rfl
      _ = (x' * y) * (k * b * b') := by rw [u]
      _ = (x' * k * b') * (b * y) := by ac_rfl
      _ = (a' * y') * (b * y) := by rw [e']
      _ = ((a' : Int) * b) * (y * y') := by ac_rfl
  have := mul_cancel (Int.mul_pos y0 y0') e1
  exact Int.ofNat_inj.mp (by rw [Int.natCast_mul, Int.natCast_mul]; exact this)
theorem Gq.low (hk : 2 ≤ k) (h : Gq k w a b) (h' : Gq k w a' b') : a / Nat.gcd a b = a' / Nat.gcd a' b' ∧ b / Nat.gcd a b = b' / Nat.gcd a' b' := lowest_eq h.b0 h'.b0 (h.uniq hk h')
/-! ### the place of a leaf, by counting and by the sum -/
theorem pl0_place {k : Nat} {s l : Nat → Int} {b : Nat} (hk : 2 ≤ k) : pl k s l 0 b = place k s l b := by
  rcases Nat.eq_zero_or_pos b with h | h
  · subst h
    rw [pl_zero, place_zero]
    simp [fp]
  · rw [pl_form h (lt_pow hk b) (Nat.lt_trans (lt_pow hk b) (Nat.pow_lt_pow_right (by omega) (Nat.lt_succ_self b))) hk]
    unfold place plT
    rw [smN_add, show ed k s l 0 = s 0 from rfl, show siz k l 0 = l 0 from rfl]
    have e1 : smN (fun j => if k ^ j ≤ b then s (0 + 1 + j) else 0) b = smN (fun j => if k ^ j ≤ b then s (j + 1) else 0) b := smN_congr fun j _ => by rw [show 0 + 1 + j = j + 1 by omega]
    have e2 : smN (fun j => ((b / k ^ (j + 1) : Nat) : Int) * l (0 + (j + 1))) b = smN (fun j => l (j + 1) * ((b / k ^ (j + 1) : Nat) : Int)) b := smN_congr fun j _ => by rw [Int.mul_comm, Nat.zero_add]
    rw [e1, e2, Int.sub_mul]
    omega
theorem smN_sub {f g : Nat → Int} {n : Nat} : smN (fun j => f j - g j) n = smN f n - smN g n := by
  induction n with
  | zero => rfl
  | succ n ih => rw [smN, smN, smN, ih]; omega
theorem place_two {k : Nat} {s l : Nat → Int} {b N : Nat} (hk : 2 ≤ k) (hN : b < k ^ N) : place k s l b = s 0 + smN (fun h => if k ^ h ≤ b then s (h + 1) else 0) N + smN (fun h => l h * ((b / k ^ h : Nat) : Int)) (N + 1) := by
  rw [place_N hk hN]
  unfold plT
  rw [smN_add, smN_head (f := fun h => l h * ((b / k ^ h : Nat) : Int)), Nat.pow_zero, Nat.div_one, Int.mul_comm (b : Int)]
  omega
end Sm
namespace K39
open PySem L2 Ab Sm
/-! ### the draws of stage 4: a dict in a box -/
section
variable {P : Program} {w : World} {K : PySem.W.Frag} {mg : Str → Option Value} {base : Heap} {k : Nat} {f C C2 : Addr}
def sm4 (v : Int) : Prop := 0 ≤ v ∧ v ≤ 29
/-- a small stream of draws -/
structure Sg4 (s : Stm) : Prop where
  l1 : s.1.length ≤ 4
  l2 : s.2.length ≤ 3
  ne : s.2 ≠ []
  a1 : ∀ v ∈ s.1, sm4 v
  a2 : ∀ v ∈ s.2, sm4 v
theorem Sg4.item {s : Stm} (h : Sg4 s) (i : Nat) : sm4 (item s i) := by
  rcases item_mem h.ne i with z | z
  · exact h.a1 _ z
  · exact h.a2 _ z
/-! ### _law_item -/
end
end K39
namespace K39
open PySem L2 Ab Sm
section
variable {P : Program} {w : World} {K : PySem.W.Frag} {mg : Str → Option Value} {base : Heap} {k : Nat} {f C C2 : Addr}
/-! ### _law_lowest -/
/-! ### check_integer with both limits, grafted -/
/-! ### Schedule(a), Schedule(a, levels=l), Schedule(a, spine=s) -/
def dSp : Stm := ([1], [0])
def dLv : Stm := ([], [1])
structure MkD (P : Program) (w : World) (K : PySem.W.Frag) (mg : Str → Option Value) (base : Heap) (C : Addr) : Prop where
  ex : ∃ fi, Mk K C fi ∧ FnX P w K mg base 4 fi [] (spX K fun ds _ M R => ds.length = 2 ∧ aInitS C (ds ++ [stV dSp, stV dLv]) M R) ∧
    FnX P w K mg base 4 fi ["levels"] (spX K fun ds es M R => ds.length = 2 ∧ aInitS C (ds ++ [stV dSp] ++ es) M R) ∧ FnX P w K mg base 4 fi ["spine"] (spX K fun ds es M R => ds.length = 2 ∧ aInitS C (ds ++ es ++ [stV dLv]) M R)
theorem lim_dSp : Lim dSp := ⟨by decide, by decide, by decide, by simp [dSp, okI], by simp [dSp, okI]⟩
theorem lim_dLv : Lim dLv := ⟨by decide, by decide, by decide, by simp [dLv, okI], by simp [dLv, okI]⟩
theorem ae_schD {X : Cx} {Γ : Gam} {M : Mem} {R : Val → Mem → Prop} {e : Expr} {p1 pos : Pos} {m : Nat} (T : Rs X.K X.mg C) (I : MkD X.prog X.w X.K X.mg X.base C) (hr : Rm m X.A) (hm : 5 ≤ m)
    (h : aE X e Γ M fun x M1 => ∃ a, x = .int a ∧ 2 ≤ a ∧ a ≤ 9 ∧ R (scV C ⟨a, nf dSp, nf dLv⟩) M1)
    (hg : Gl X "Schedule" := by rfl) (he : starEach [e] X.env = (false, eval e X.env) :: starEach [] X.env := by rfl) : aE X (.Call (.Name "Schedule" p1) [e] [] pos) Γ M R := by
  obtain ⟨fi, mk, F, _, _⟩ := I.ex
  refine ae_frzO (ae_make mk F (hr.mono hm) T.gC (aa_cons (h.mono fun x M1 h1 => aa_nil (ak_nil ⟨rfl, fun p hn => ⟨rfl, ?_⟩⟩)) he) hg rfl rfl (by decide) he (by rw [he]; rfl))
  obtain ⟨a, rfl, a2, a9, hR⟩ := h1
  exact ⟨p, a, dSp, dLv, M1, rfl, rfl, a2, a9, lim_dSp, lim_dLv, by decide, rfl, p, C, _, M1, rfl, rfl, hR⟩
/-- a method by its name -/
abbrev Mt (P : Program) (w : World) (K : PySem.W.Frag) (mg : Str → Option Value) (base : Heap) (C : Addr) (n : Nat) (m : Str) (s : ASp) : Prop := ∃ f, Meth K C m f ∧ FX P w K mg base n f fun ds _ => s ds
end
end K39
/-! defs that say super(): judgements at the def's own code -/
namespace Ab
open PySem PySem.Spec PyProof.Rows L2 NdefX
structure ZR (X : Cx) (pins : List (Addr × Obj)) (Hi : Hp) (k : AK) (Φ : Flow → Shared → Prop) : Prop where
  nx : ∀ Γ M σ Hi' H' s', k.nx Γ M → Same Hi Hi' → Ok X.K Hi' M H' → EnvR X.K Hi' Γ σ → Inv X pins σ H' s' → Φ .next s'
  rt : ∀ d M v u σ Hi' H' s', k.rt d M → Same Hi Hi' → Ok X.K Hi' M H' → Rep X.K Hi' d v → Inv X pins σ H' s' → RelV v u → Φ (.ret u) s'
  bk : ∀ Γ M σ Hi' H' s', k.bk Γ M → Same Hi Hi' → Ok X.K Hi' M H' → EnvR X.K Hi' Γ σ → Inv X pins σ H' s' → Φ .brk s'
  ct : ∀ Γ M σ Hi' H' s', k.ct Γ M → Same Hi Hi' → Ok X.K Hi' M H' → EnvR X.K Hi' Γ σ → Inv X pins σ H' s' → Φ .cont s'
theorem ZR.up {X : Cx} {pins : List (Addr × Obj)} {Hi Hi1 : Hp} {k : AK} {Φ : Flow → Shared → Prop} (h : ZR X pins Hi k Φ) (e : Same Hi Hi1) : ZR X pins Hi1 k Φ :=
  ⟨fun Γ M σ Hi' H' s' p q => h.nx Γ M σ Hi' H' s' p (e.trans q), fun d M v u σ Hi' H' s' p q => h.rt d M v u σ Hi' H' s' p (e.trans q), fun Γ M σ Hi' H' s' p q => h.bk Γ M σ Hi' H' s' p (e.trans q), fun Γ M σ Hi' H' s' p q => h.ct Γ M σ Hi' H' s' p (e.trans q)⟩
end Ab
/-! methods of instances that stand in boxes -/
namespace Ab
open PySem PySem.Spec PyProof.Rows L2
/-- d is an instance of the class at C without an attribute m of its own -/
def ObM (M : Mem) (C : Addr) (d : Val) (m : Str) : Prop := ∀ K Hi H v, Ok K Hi M H → Rep K Hi d v → ∃ p dx gs, v = .ref p ∧ H p = some (.ins C dx gs) ∧ gs.lookup m = none
theorem Ob.obM {M : Mem} {C : Addr} {d : Val} {fs : List (Str × Val)} {m : Str} (h : Ob M C d fs) (hl : fs.lookup m = none) : ObM M C d m := fun K Hi H v ok r => by
  obtain ⟨p, dx, gs, h1, h2, h3⟩ := h.rep ok r
  exact ⟨p, dx, gs, h1, h2, h3.none hl⟩
section
variable {X : Cx} {Γ : Gam} {M : Mem} {P : Val → Mem → Prop} {e a b c o : Expr} {es : List Expr} {kws : List Keyword} {pos p1 p2 apos kpos : Pos} {k : AK} {d d1 d2 d3 : Val} {i j : Int} {x y m : Str} {n : Nat} {f C : Addr} {ks : List Str} {sx : ASx}
theorem ae_methG {pl : Sem Bool} (c : Cls X.K C) (hm : Meth X.K C m f) (F : FnX X.prog X.w X.K X.mg X.base n f ks (spX X.K sx)) (hr : Rm n X.A)
    (h : aE X o Γ M fun d M0 => ObM M0 C d m ∧ aA X (e :: es) Γ M0 fun ds M1 => aKw X kws Γ M1 fun zs M2 => zs.length = ks.length ∧ sx (d :: ds) zs M2 P)
    (hall : (backToKw pos (keywordEach kws X.env)).all (·.1.isSome) = true := by rfl) (hks : (backToKw pos (keywordEach kws X.env)).filterMap (·.1) = ks := by rfl)
    (he : starEach (e :: es) X.env = (false, eval e X.env) :: starEach es X.env := by rfl) (hpl : ((backTo pos (starEach (e :: es) X.env)).any (·.1) || (backToKw pos (keywordEach kws X.env)).any (·.1.isNone)) = false := by rfl)
    (ht : eval (.Call (.Attribute o m apos) (e :: es) kws pos) X.env = (do
      let ov ← eval o X.env
      standAt apos.atName
      let (f, first) ← holding [ov] (getMethod ov m pl)
      callWith pos f first (backTo pos (starEach (e :: es) X.env)) (backToKw pos (keywordEach kws X.env))) := by rfl) : aE X (.Call (.Attribute o m apos) (e :: es) kws pos) Γ M P := fun Hi H σ ok en Q q => by
  refine ⟨fun σ H Q => WE X o σ H fun x H0 => ∃ a dx fs, x = .ref a ∧ H0 a = some (.ins C dx fs) ∧ fs.lookup m = none ∧ WA X (e :: es) σ H0 fun vs H1 => WK X kws σ H1 fun zs H2 => zs.length = ks.length ∧ spX X.K sx (x :: vs) zs H2 Q, ⟨fun pins s σ H Q I h => ?_⟩, ?_⟩
  · refine PySem.W.methodCall_KW (pl := pl) (thn (pe_we.run pins s σ H _ I h) fun u s1 ⟨x, H1, I1, rx, a, dx, fs, ex, ea, l, q⟩ => ?_) ht
    subst ex
    obtain rfl : u = Value.ref a := rx
    refine getmeth_ok I1 ea c hm l ?_
    refine PySem.W.callWith_KW (first := [.ref a]) (h₀ := X.base) I.ok.mod.kin hm.kp hall (thn (pa_wa.run pos pins s1 σ H1 _ I1 q) fun us s2 ⟨vs, H2, I2, r, q2⟩ => ?_) hpl he
    refine thn (pk_wk.run pos pins s2 σ H2 _ I2 q2) fun ws s3 ⟨zs, H3, I3, rz, l2, q3⟩ => ⟨I3.kIn, ?_⟩
    rw [hks]
    exact run_x (us := .ref a :: us) (vs := .ref a :: vs) F hr I3 (.cons rfl r) rz l2 q3
  · refine h Hi H σ ok en _ fun x M0 v0 Hi0 H0 h0 s0 ok0 r0 => ?_
    obtain ⟨hob, h0⟩ := h0
    obtain ⟨p, dx, gs, rfl, hp, hn⟩ := hob _ _ _ _ ok0 r0
    refine ⟨p, dx, gs, rfl, hp, hn, ?_⟩
    refine h0 Hi0 H0 σ ok0 (en.mono s0) _ fun ds M1 vs Hi1 H1 h1 s1 ok1 r1 => ?_
    refine h1 Hi1 H1 σ ok1 (en.mono (s0.trans s1)) _ fun zs M2 ws Hi2 H2 h2 s2 ok2 r2 => ?_
    exact ⟨r2.length.symm.trans h2.1, Hi2, M2, _ :: ds, zs, P, .cons (r0.mono (s1.trans s2)) (r1.mono s2), r2, ok2, h2.2, q.up ((s0.trans s1).trans s2)⟩
theorem ae_methG0 {pl : Sem Bool} (c : Cls X.K C) (hm : Meth X.K C m f) (F : FnX X.prog X.w X.K X.mg X.base n f ks (spX X.K sx)) (hr : Rm n X.A)
    (h : aE X o Γ M fun d M0 => ObM M0 C d m ∧ aKw X kws Γ M0 fun zs M2 => zs.length = ks.length ∧ sx [d] zs M2 P)
    (hall : (backToKw pos (keywordEach kws X.env)).all (·.1.isSome) = true := by rfl) (hks : (backToKw pos (keywordEach kws X.env)).filterMap (·.1) = ks := by rfl)
    (hpl : ((backTo pos (starEach [] X.env)).any (·.1) || (backToKw pos (keywordEach kws X.env)).any (·.1.isNone)) = false := by rfl)
    (ht : eval (.Call (.Attribute o m apos) [] kws pos) X.env = (do
      let ov ← eval o X.env
      standAt apos.atName
      let (f, first) ← holding [ov] (getMethod ov m pl)
      callWith pos f first (backTo pos (starEach [] X.env)) (backToKw pos (keywordEach kws X.env))) := by rfl) : aE X (.Call (.Attribute o m apos) [] kws pos) Γ M P := fun Hi H σ ok en Q q => by
  refine ⟨fun σ H Q => WE X o σ H fun x H0 => ∃ a dx fs, x = .ref a ∧ H0 a = some (.ins C dx fs) ∧ fs.lookup m = none ∧ WK X kws σ H0 fun zs H2 => zs.length = ks.length ∧ spX X.K sx [x] zs H2 Q, ⟨fun pins s σ H Q I h => ?_⟩, ?_⟩
  · refine PySem.W.methodCall_KW (pl := pl) (thn (pe_we.run pins s σ H _ I h) fun u s1 ⟨x, H1, I1, rx, a, dx, fs, ex, ea, l, q⟩ => ?_) ht
    subst ex
    obtain rfl : u = Value.ref a := rx
    refine getmeth_ok I1 ea c hm l ?_
    refine PySem.W.callWith_KW0 (first := [.ref a]) (h₀ := X.base) I.ok.mod.kin hm.kp hall ?_ hpl
    refine thn (pk_wk.run pos pins s1 σ H1 _ I1 q) fun ws s3 ⟨zs, H3, I3, rz, l2, q3⟩ => ⟨I3.kIn, ?_⟩
    rw [hks]
    exact run_x (us := [.ref a]) (vs := [.ref a]) F hr I3 (.cons rfl .nil) rz l2 q3
  · refine h Hi H σ ok en _ fun x M0 v0 Hi0 H0 h0 s0 ok0 r0 => ?_
    obtain ⟨hob, h0⟩ := h0
    obtain ⟨p, dx, gs, rfl, hp, hn⟩ := hob _ _ _ _ ok0 r0
    refine ⟨p, dx, gs, rfl, hp, hn, ?_⟩
    refine h0 Hi0 H0 σ ok0 (en.mono s0) _ fun zs M2 ws Hi2 H2 h2 s2 ok2 r2 => ?_
    exact ⟨r2.length.symm.trans h2.1, Hi2, M2, [_], zs, P, .cons (r0.mono s2) .nil, r2, ok2, h2.2, q.up (s0.trans s2)⟩
/-- o.m(), o.m(e), o.m(e, b), o.m(k = e), by a promise that hides the address -/
theorem ae_m0 {n q : Nat} {s : ASp} {pl : Sem Bool} (c : Cls X.K C) (F : ∃ f, Meth X.K C m f ∧ FX X.prog X.w X.K X.mg X.base n f fun ds _ => s ds) (hr : Rm q X.A) (hq : n ≤ q) (h : aE X o Γ M fun d M0 => ObM M0 C d m ∧ s [d] M0 P)
    (ht : eval (.Call (.Attribute o m apos) [] [] pos) X.env = (do
      let ov ← eval o X.env
      standAt apos.atName
      let (f, first) ← holding [ov] (getMethod ov m pl)
      callWith pos f first (backTo pos (starEach [] X.env)) (backToKw pos (keywordEach [] X.env))) := by rfl) : aE X (.Call (.Attribute o m apos) [] [] pos) Γ M P := by
  obtain ⟨f, mt, F⟩ := F
  exact ae_methG0 c mt F (hr.mono hq) (h.mono fun d M0 ⟨h1, h2⟩ => ⟨h1, ak_nil ⟨rfl, h2⟩⟩) rfl rfl rfl ht
theorem ae_m1 {n q : Nat} {s : ASp} {pl : Sem Bool} (c : Cls X.K C) (F : ∃ f, Meth X.K C m f ∧ FX X.prog X.w X.K X.mg X.base n f fun ds _ => s ds) (hr : Rm q X.A) (hq : n ≤ q) (h : aE X o Γ M fun d M0 => ObM M0 C d m ∧ aE X e Γ M0 fun x M1 => s [d, x] M1 P)
    (hst : starEach [e] X.env = (false, eval e X.env) :: starEach [] X.env := by rfl)
    (ht : eval (.Call (.Attribute o m apos) [e] [] pos) X.env = (do
      let ov ← eval o X.env
      standAt apos.atName
      let (f, first) ← holding [ov] (getMethod ov m pl)
      callWith pos f first (backTo pos (starEach [e] X.env)) (backToKw pos (keywordEach [] X.env))) := by rfl) : aE X (.Call (.Attribute o m apos) [e] [] pos) Γ M P := by
  obtain ⟨f, mt, F⟩ := F
  exact ae_methG c mt F (hr.mono hq) (h.mono fun d M0 ⟨h1, h2⟩ => ⟨h1, aa_cons (h2.mono fun x M1 hx => aa_nil (ak_nil ⟨rfl, hx⟩)) hst⟩) rfl rfl hst (by rw [hst]; rfl) ht
theorem ae_m2 {n q : Nat} {s : ASp} {pl : Sem Bool} (c : Cls X.K C) (F : ∃ f, Meth X.K C m f ∧ FX X.prog X.w X.K X.mg X.base n f fun ds _ => s ds) (hr : Rm q X.A) (hq : n ≤ q) (h : aE X o Γ M fun d M0 => ObM M0 C d m ∧ aE X e Γ M0 fun x M1 => aE X b Γ M1 fun y M2 => s [d, x, y] M2 P)
    (hst : starEach [e, b] X.env = (false, eval e X.env) :: starEach [b] X.env := by rfl) (hst2 : starEach [b] X.env = (false, eval b X.env) :: starEach [] X.env := by rfl)
    (ht : eval (.Call (.Attribute o m apos) [e, b] [] pos) X.env = (do
      let ov ← eval o X.env
      standAt apos.atName
      let (f, first) ← holding [ov] (getMethod ov m pl)
      callWith pos f first (backTo pos (starEach [e, b] X.env)) (backToKw pos (keywordEach [] X.env))) := by rfl) : aE X (.Call (.Attribute o m apos) [e, b] [] pos) Γ M P := by
  obtain ⟨f, mt, F⟩ := F
  exact ae_methG c mt F (hr.mono hq) (h.mono fun d M0 ⟨h1, h2⟩ => ⟨h1, aa_cons (h2.mono fun x M1 hx => aa_cons (hx.mono fun y M2 hy => aa_nil (ak_nil ⟨rfl, hy⟩)) hst2) hst⟩) rfl rfl hst (by rw [hst, hst2]; rfl) ht
end
end Ab
/-! two keywords in the other order -/
namespace Ab
open PySem PySem.Spec PyProof.Rows L2
def swp {α : Type} : List α → List α
  | [a, b] => [b, a]
  | xs => xs
theorem vals_swp : ∀ {xs : List V} {us : List Value}, Vals xs us → Vals (swp xs) (swp us)
  | _, _, .nil => .nil
  | _, _, .cons h .nil => .cons h .nil
  | _, _, .cons h1 (.cons h2 .nil) => .cons h2 (.cons h1 .nil)
  | _, _, .cons h1 (.cons h2 (.cons h3 r)) => .cons h1 (.cons h2 (.cons h3 r))
theorem repa_swp {K : PySem.W.Frag} {H : Hp} : ∀ {xs : List Val} {us : List V}, RepA K H xs us → RepA K H (swp xs) (swp us)
  | _, _, .nil => .nil
  | _, _, .cons h .nil => .cons h .nil
  | _, _, .cons h1 (.cons h2 .nil) => .cons h2 (.cons h1 .nil)
  | _, _, .cons h1 (.cons h2 (.cons h3 r)) => .cons h1 (.cons h2 (.cons h3 r))
end Ab
/-! list.extend -/
namespace Ab
open PySem PySem.Spec PyProof.Rows L2
end Ab
/-! Ab35: statements that end in more than one way are joined; boxes are weakened. -/
namespace Ab
open PySem PySem.Spec PyProof.Rows L2
section
variable {X : Cx} {Γ Γ1 : Gam} {M : Mem} {k : AK} {st : Stmt} {sts : List Stmt} {p : Addr} {φ φ' : Mem0 → Prop}
theorem aS.mono {k' : AK} (h : aS X st Γ M k) (f1 : ∀ Γ M, k.nx Γ M → k'.nx Γ M) (f2 : ∀ d M, k.rt d M → k'.rt d M) (f3 : ∀ Γ M, k.bk Γ M → k'.bk Γ M) (f4 : ∀ Γ M, k.ct Γ M → k'.ct Γ M) : aS X st Γ M k' := fun Hi H σ ok en D q =>
  h Hi H σ ok en D ⟨fun Γ M σ Hi' H' p => q.nx Γ M σ Hi' H' (f1 Γ M p), fun d M v Hi' H' p => q.rt d M v Hi' H' (f2 d M p), fun Γ M σ Hi' H' p => q.bk Γ M σ Hi' H' (f3 Γ M p), fun Γ M σ Hi' H' p => q.ct Γ M σ Hi' H' (f4 Γ M p)⟩
/-- behind the statement J holds, whichever way it went -/
theorem as_consJ (J : Gam → Mem → Prop) (h : aS X st Γ M { k with nx := J }) (h2 : ∀ Γ' M', J Γ' M' → aSs X sts Γ' M' k) : aSs X (st :: sts) Γ M k :=
  as_cons (h.mono (fun Γ M p => h2 Γ M p) (fun _ _ p => p) (fun _ _ p => p) (fun _ _ p => p))
end
end Ab
/-! Ab36: own exception classes over any built-in base: made by an own __init__ that calls the base's and stores fields. -/
namespace Ab
open PySem PySem.Spec PyProof.Rows L2
structure XCl (K : PySem.W.Frag) (C : Addr) (B newId initId : String) (tl : List Value) : Prop where
  fb : ExcBaseFacts B newId initId tl
  sf : StoreFacts B tl "object.__setattr__" "object"
  ini : PySem.W.excInitIn K C tl newId = true
  ovr : PySem.W.excOver K C tl = true
  hd : PySem.W.hasDictIn K C = true
  sa : PySem.W.findIn K (.ref C) "__setattr__" = some (some (.builtin "object.__setattr__"))
  exC : PySem.W.subIn K (.ref C) (.type "BaseException") = some true
  tyC : PySem.W.typeIn K (.ref C) = some (.type "type")
  kC : PySem.W.keepIn K (.ref C) = true
section
open Builtin.ObjectAttr
variable {prog : Program} {w : World} {A : Around} {E : Value → Shared → Prop} {R : Result → Shared → Prop} {hp : Heap} {g : Array GenState} {d : Drawn} {t : Nat} {os : OsState}
variable {K : PySem.W.Frag} {C : Addr} {B newId initId : String} {tl : List Value}
theorem XCl.cd (T : XCl K C B newId initId tl) : ∃ cd, PySem.W.clsIn K C = some cd ∧ cd.hasDict = true := by
  have h0 := T.hd
  unfold PySem.W.hasDictIn at h0
  cases e : PySem.W.clsIn K C with
  | none => simp [e] at h0
  | some c0 => exact ⟨c0, rfl, by simpa [e] using h0⟩
/-- the first field -/
theorem xo_new {nm : Str} {tk : Tok} {v : Value} {x : Addr} {fv : Array Value} (T : XCl K C B newId initId tl) (KX : K.In hp) (hx : hp.get? x = some { cls := .ref C, data := .fields fv }) (ha : PySem.W.findIn K (.ref C) nm = some none)
    (hq : ∀ h' tk' dx, (∀ b o, b ≠ x → hp.get? b = some o → h'.get? b = some o) → hp.objs.size ≤ dx → dx ≠ x → h'.get? x = some { cls := .ref C, dict := some dx, data := .fields fv } → h'.Ns1 dx (fun y => if y = nm then some v else none) → R (.ok (.ret .none)) ⟨h', g, d, tk', os⟩) :
    codeAny (model prog w) A (.call (.builtin "object.__setattr__") ⟨[.ref x, .str nm tk, v], []⟩) R ⟨hp, g, d, t, os⟩ := by
  obtain ⟨cd, hcd, hdd⟩ := T.cd
  have hxs : x ≠ hp.objs.size := Nat.ne_of_lt (Heap.lt_size hx)
  have Lc : PySem.W.Looks (model prog w) hp (classData C) cd := PySem.W.looks_clsIn KX hcd
  refine PySem.W.osa_openX (od := none) T.sf KX (⟨hx, rfl, rfl, trivial⟩ : PySem.W.InstAt hp x { cls := .ref C, data := .fields fv } C none) T.ovr (r := none) (by unfold PySem.W.takerIn; rw [ha]; rfl) fun b0 => ?_
  show wpAny _ _ (storeInOwnDict (.ref x) (.ref C) (.str nm tk) nm v b0) _ _ _
  obtain ⟨n0, b1, b2, b3, b4, b5, b6, b7, b8, b9, b10⟩ := cd
  dsimp only at hdd
  subst hdd
  unfold storeInOwnDict ownDictForStores
  repeat (first | with_reducible refine PySem.HandSPX.store_in_new ?_ ?_ | with_reducible refine wpAny_loadPart_at hx ?_ | with_reducible refine Lc.at ?_ | wp_step)
  · exact ⟨_, #[], _, (Heap.get?_update_ne _ _ _ _ hxs.symm).trans (Heap.get?_push_at rfl rfl), rfl, fun z1 z2 => absurd z2 (by simp), fun _ => rfl⟩
  · intro h' tk' hn' hs
    have hx1 : (hp.push { cls := .type "dict", data := .dict #[] }).get? x = some { cls := .ref C, data := .fields fv } := Heap.get?_push_of_some _ hx
    refine hq h' tk' hp.objs.size (fun b1 o1 z1 z2 => ?_) (Nat.le_refl _) hxs.symm ?_ hn'
    · exact (hs.2 b1 (Nat.ne_of_lt (Heap.lt_size z2))).trans ((Heap.get?_update_ne _ _ _ _ z1).trans (Heap.get?_push_of_some _ z2))
    · exact (hs.2 x hxs).trans (Heap.get?_update_self _ hx1 rfl)
/-- a further field -/
theorem xo_old {nm : Str} {tk : Tok} {v : Value} {x dx : Addr} {fv : Array Value} {m0 : Str → Option Value} {nl : List Str} (T : XCl K C B newId initId tl) (KX : K.In hp) (hx : hp.get? x = some { cls := .ref C, dict := some dx, data := .fields fv }) (hns : hp.Ns1 dx m0) (hw : Within m0 nl) (hz : nl.length ≤ 1000) (ha : PySem.W.findIn K (.ref C) nm = some none)
    (hq : ∀ h' tk', (∀ b o, b ≠ dx → hp.get? b = some o → h'.get? b = some o) → h'.Ns1 dx (fun y => if y = nm then some v else m0 y) → R (.ok (.ret .none)) ⟨h', g, d, tk', os⟩) :
    codeAny (model prog w) A (.call (.builtin "object.__setattr__") ⟨[.ref x, .str nm tk, v], []⟩) R ⟨hp, g, d, t, os⟩ := by
  obtain ⟨cd, hcd, hdd⟩ := T.cd
  obtain ⟨o2, _, _, ho2, _, _⟩ := hns.count hw
  have Lc : PySem.W.Looks (model prog w) hp (classData C) cd := PySem.W.looks_clsIn KX hcd
  refine PySem.W.osa_openX (od := some o2) T.sf KX (⟨hx, rfl, rfl, ho2⟩ : PySem.W.InstAt hp x { cls := .ref C, dict := some dx, data := .fields fv } C (some o2)) T.ovr (r := none) (by unfold PySem.W.takerIn; rw [ha]; rfl) fun b0 => ?_
  show wpAny _ _ (storeInOwnDict (.ref x) (.ref C) (.str nm tk) nm v b0) _ _ _
  obtain ⟨n0, b1, b2, b3, b4, b5, b6, b7, b8, b9, b10⟩ := cd
  dsimp only at hdd
  subst hdd
  unfold storeInOwnDict ownDictForStores
  repeat (first | with_reducible refine PySem.OEX.store_in_old hns hw hz ?_ | with_reducible refine wpAny_loadPart_at hx ?_ | with_reducible refine Lc.at ?_ | wp_step)
  intro h' tk' hn' hs
  exact hq h' tk' (fun b1 o1 z1 z2 => (hs.2 b1 z1).trans z2) hn'
end
section
variable {X : Cx} {pins : List (Addr × Obj)} {σ : L2.St} {H : Hp} {s : Shared} {a C dx : Addr} {f : Str} {y : V} {u : Value} {fs : List (Str × V)} {E : Value → Shared → Prop} {A : Around} {B newId initId : String} {tl : List Value}
/-- Base.__init__(self, ..): nothing of it is told -/
theorem x_init {us : List Value} {Q : Value → Shared → Prop} (T : XCl X.K C B newId initId tl) (I : Inv X pins σ H s) (e : H a = some (exo a C none)) (hl : us.length ≤ sizeLine) (h : ∀ s', Inv X pins σ H s' → Q .none s') :
    wpAny (model X.prog X.w) A (call (.builtin initId) (.ref a :: us)) Q E s := by
  obtain ⟨t1, w1⟩ := exo_at I.hok e
  obtain ⟨n1, n2, n3, n4, bm, n5, n6, n7, n8, n9, n10, n11, n12, n13, n14, n15, hC, hT⟩ := PySem.W.excInit_of I.kIn T.ini
  obtain ⟨hp, g, d, t, os⟩ := s
  refine wpAny_call (PySem.HandSPX.init_base T.fb hT hC w1 hl fun h' t2 k1 w2 => ?_)
  have J := Inv.write (t' := t) (x := a) (o := exo a C none) I (by rw [e]; exact True.intro) (.inl rfl) k1 ⟨_, w2⟩ (exo_ok w2)
  rw [show upd H a (exo a C none) = H from funext fun b => by
    by_cases hb : b = a
    · subst hb; rw [upd_same, e]
    · exact upd_ne hb] at J
  exact h _ J
/-- self.f = y, the first field -/
theorem x_new {Q : Unit → Shared → Prop} (T : XCl X.K C B newId initId tl) (I : Inv X pins σ H s) (e : H a = some (exo a C none)) (hno : PySem.W.findIn X.K (.ref C) f = some none) (ry : RelV y u)
    (h : ∀ dx s', H dx = none → dx ≠ a → Inv X pins σ (upd (upd H dx (exd dx [(f, y)])) a (exo a C (some dx))) s' → Q () s') : wpAny (model X.prog X.w) A (setAttr (.ref a) f u) Q E s := by
  obtain ⟨t1, w1⟩ := exo_at I.hok e
  obtain ⟨hp, g, d, t, os⟩ := s
  refine PySem.W.set_plain I.kIn (od := none) (ox := { cls := .ref C, dict := none, data := .fields #[.ref t1, .none, .none, .none, .bool false, .none] }) ⟨w1, rfl, rfl, trivial⟩ T.sa ?_
  refine xo_new T I.kIn w1 hno (fun h' tk' dx k1 dn dne w2 hn => ?_)
  have hnd : H dx = none := I.hok.fresh dn
  have nd : ∀ {b : Addr} {o : Obj}, hp.get? b = some o → b ≠ dx := fun {b o} z => Nat.ne_of_lt (Nat.lt_of_lt_of_le (Heap.lt_size z) dn)
  have na : ∀ {b : Addr}, H b = none → b ≠ a := fun {b} z1 z2 => by
    subst z2
    rw [e] at z1
    cases z1
  refine h dx _ hnd dne (I.un (t' := tk') ⟨fun b o z z2 _ _ => k1 b o (na z2) z, fun b o z z2 _ _ => ⟨o.slots, k1 b o (na z2) z⟩, fun b o z z2 _ => by rw [upd_ne (na z2), upd_ne (nd z)]; exact z2, fun b o z _ => ?_, fun b xs z => ?_, fun b o v z => ?_, fun b ps z => ?_⟩ fun b o z => ?_)
  · by_cases hb : b = a
    · subst hb
      exact ⟨_, w2⟩
    · exact ⟨o, k1 b o hb z⟩
  · rw [upd_ne (at_ne e z exo_tup), upd_ne (ne_of_none z hnd)]
    exact z
  · rw [upd_ne (at_ne e z exo_frz), upd_ne (ne_of_none z hnd)]
    exact z
  · refine ⟨#[], ?_⟩
    rw [upd_ne (at_ne e z exo_tbl), upd_ne (ne_of_none z hnd), z]
    simp
  · by_cases hb : b = a
    · subst hb
      rw [upd_same] at z
      cases z
      exact exo_ok w2
    · rw [upd_ne hb] at z
      by_cases hd : b = dx
      · subst hd
        rw [upd_same] at z
        cases z
        exact exd_ok hn (relO_put (fs := []) ry fun _ => True.intro)
      · rw [upd_ne hd] at z
        refine (I.hok b o z).stay (fun c v hc z2 => k1 c v ?_ z2) (fun c hc => ?_) (fun c xs hc => ?_)
        · rcases hc with z3 | z3
          · rw [z3]; exact hb
          · exact at_ne e z3 exo_own
        · rw [upd_ne (at_ne e hc exo_own), upd_ne (ne_of_none hc hnd)]
          exact hc
        · rw [upd_ne (at_ne e hc exo_tup), upd_ne (ne_of_none hc hnd)]
          exact hc
/-- self.f = y, a further field -/
theorem x_old {Q : Unit → Shared → Prop} (T : XCl X.K C B newId initId tl) (I : Inv X pins σ H s) (e : H a = some (exo a C (some dx))) (ed : H dx = some (exd dx fs)) (hl : fs.length ≤ 900) (hno : PySem.W.findIn X.K (.ref C) f = some none) (ry : RelV y u)
    (h : ∀ s', Inv X pins σ (upd H dx (exd dx ((f, y) :: fs))) s' → Q () s') : wpAny (model X.prog X.w) A (setAttr (.ref a) f u) Q E s := by
  obtain ⟨t1, w1⟩ := exo_at I.hok e
  obtain ⟨mA, hns, rel⟩ := exd_at I.hok ed
  obtain ⟨o2, _, _, ho2, _, _⟩ := hns.count (within_of rel)
  obtain ⟨hp, g, d, t, os⟩ := s
  refine PySem.W.set_plain I.kIn (od := some o2) (ox := { cls := .ref C, dict := some dx, data := .fields #[.ref t1, .none, .none, .none, .bool false, .none] }) ⟨w1, rfl, rfl, ho2⟩ T.sa ?_
  refine xo_old T I.kIn w1 hns (within_of rel) (by rw [List.length_map]; omega) hno (fun h' tk' k1 hn => ?_)
  refine h _ (Inv.write (t' := tk') (x := dx) (e := dx) (o := exd dx ((f, y) :: fs)) I (by rw [ed]; exact True.intro) (.inl rfl) k1 ?_ (exd_ok hn (relO_put ry rel)))
  obtain ⟨o3, _, _, w3, _⟩ := hn
  exact ⟨o3, w3⟩
end
end Ab
/-! Ab37: the __init__ of an own exception class; C(..) makes an exception. -/
namespace Ab
open PySem PySem.Spec PyProof.Rows L2
section
variable {X : Cx} {B newId initId : String} {tl : List Value} {o e : Expr} {es : List Expr} {to te : TE} {ta : TA} {f : Str} {p p' p1 p2 pos : Pos}
/-- Base.__init__(self, ..), Base an own class -/
theorem px_init {C0 : Addr} {xb : Str} {pl : Sem Bool} (hh : PySem.W.handedIn (.builtin initId) = true) (r : ClX.CRead X.K C0 (.type "type")) (fv : PySem.W.findCls X.K (.ref C0) (.type "type") "__init__" = some (.val (.builtin initId))) (hg : Gl X xb) (hm : X.mg xb = some (.ref C0)) (ha : PA X (e :: es) ta)
    (hc : eval (.Call (.Attribute (.Name xb p1) "__init__" p2) (e :: es) [] pos) X.env = (do
      let v0 ← eval (.Name xb p1) X.env
      standAt p2.atName
      let (f0, first) ← holding [v0] (getMethod v0 "__init__" pl)
      callWith pos f0 first (backTo pos (starEach (e :: es) X.env)) (backToKw pos (keywordEach [] X.env))) := by rfl)
    (he : starEach (e :: es) X.env = (false, eval e X.env) :: starEach es X.env := by rfl) (hpl : (backTo pos (starEach es X.env)).any (·.1) = false := by rfl) (hdb : (xb == ("__debug__" : Str)) = false := by decide) :
    PE X (.Call (.Attribute (.Name xb p1) "__init__" p2) (e :: es) [] pos) (fun σ H Q => ta σ H fun vs H1 => ∃ (a C : Addr) (ws : List V), vs = .ref a :: ws ∧ ws.length ≤ 1000 ∧ XCl X.K C B newId initId tl ∧ H1 a = some (exo a C none) ∧ Q .non H1) := by
  refine ⟨fun pins s σ H Q I h => PySem.W.methodCall_KW (pl := pl) (ld_glob I hg hm ?_ hdb) hc⟩
  refine PySem.W.method_cls I.kIn r.ga (PySem.W.cls_value I.kIn r.rd fv hh ?_)
  show wpAny _ _ (callWith pos (Value.builtin initId) [] (backTo pos (starEach (e :: es) X.env)) []) _ _ _
  refine PyProof.Rows.callWith_method1 (thn (ha.run pos pins _ σ H _ (I.tok _) h) fun us s1 ⟨vs, H1, I1, r1, a, C, ws, ev, hl, T, ea, q⟩ => ?_) he hpl
  subst ev
  cases r1 with
  | @cons _ u0 _ ur ra rr =>
    obtain rfl : u0 = Value.ref a := ra
    exact x_init T I1 ea (by rw [← Paired.length rr, sizeLine_eq]; omega) fun s' J => ⟨.non, H1, J, rfl, q⟩
/-- self.f = e -/
theorem qx_set (ho : PE X o to) (he : PE X e te) (hs : swapsWith e (some (.Attribute o f p')) pos.line X.env = pure false := by rfl) :
    PS X (.Assign [.Attribute o f p'] e pos) (fun D σ H => te σ H fun y H1 => to σ H1 fun x H2 => ∃ a C : Addr, x = .ref a ∧ XCl X.K C B newId initId tl ∧ PySem.W.findIn X.K (.ref C) f = some none ∧
      ((H2 a = some (exo a C none) ∧ ∀ dx, H2 dx = none → dx ≠ a → D.nx σ (upd (upd H2 dx (exd dx [(f, y)])) a (exo a C (some dx)))) ∨
        ∃ (dx : Addr) (fs : List (Str × V)), H2 a = some (exo a C (some dx)) ∧ H2 dx = some (exd dx fs) ∧ fs.length ≤ 900 ∧ D.nx σ (upd H2 dx (exd dx ((f, y) :: fs))))) := by
  refine ⟨fun pins s σ H D I h => plainObj_wpAny_Assign_Attribute (thn (he.run pins s σ H _ I h) fun v s1 ⟨y, H1, I1, r1, q1⟩ => thn (ho.run pins s1 σ H1 _ I1 q1) fun u s2 ⟨x, H2, I2, r2, a, C, ex, T, hno, q⟩ => ?_) hs⟩
  subst ex
  obtain rfl : u = Value.ref a := r2
  rcases q with ⟨ea, q⟩ | ⟨dx, fs, ea, ed, hl, q⟩
  · exact x_new T I2 ea hno r1 fun dx s' n1 n2 J => ⟨σ, _, J, q dx n1 n2⟩
  · exact x_old T I2 ea ed hl hno r1 fun s' J => ⟨σ, _, J, q⟩
end
/-! ### a def told by readings -/
section
variable {P : Program} {w : World} {K : PySem.W.Frag} {mg : Str → Option Value} {base : Heap} {x qual : Str} {f : Addr} {fd : FuncData}
theorem fnx_raw {params : Arguments} {body : List Stmt} {sc : Scope} {kws : List (Str × V)} {N ps : List Str} {k : Nat} {sp : List V → Hp → VK → Prop} (F : FunD K x qual params body sc [] kws f fd) (S : FnScope N ps sc)
    (h : ∀ (kV doc pm : Value) (an : Option Addr) (cdv ct : Value) (us : List Value), us.length = ps.length → bindArgs (PySem.W.fnOf x qual params body sc .none kV doc pm an cdv ct) ⟨us, []⟩ = pure (ps.zip us))
    (hb : ∀ cdv A outer s H, Rm k (A.deeper (envOfC qual sc s.heap.objs.size f cdv)) → Mod K mg base → ∀ vs Q, sp vs H Q → ∃ t, PSs (cxOf CX0 P w K mg base N qual sc f cdv A outer s H E0) body t ∧ t { nx := fun _ H' => Q .non H', rt := Q } (L2.start N vs) H) :
    FnX P w K mg base (k + 1) f [] fun vs _ H Q => vs.length = ps.length ∧ sp vs H Q := by
  refine ⟨fun A outer s H us ws vs zs Q hr e0 r rz hz ⟨hl, hs⟩ => ?_⟩
  obtain ⟨oc, od, dV, kV, doc, pm, an, cdv, ct, osl, rfl, lk, hcd, hD, _⟩ := F.ex
  obtain ⟨_, rfl⟩ : ([] : List V) = [] ∧ dV = .none := by
    rcases hD with h | ⟨e, _⟩
    · exact h
    · exact absurd rfl e
  obtain rfl : ws = [] := by
    have : zs = [] := List.length_eq_zero_iff.mp hz
    subst this
    cases rz
    rfl
  refine StX.run_bnd (CX := CX0) (E := E0) (G := fun vs' H2 => vs' = vs ∧ H2 = H) lk hcd S hr.room e0 (fun A' Ex Q' h' => ?_) fun s2 H2 vs' hG hr' => ?_
  · exact BindsTo.of_eq (h kV doc pm an cdv ct us (by rw [← r.length]; exact hl)) _ _ _ _ (h' s H vs us e0 Un.refl rfl (fun _ _ z => z) r hl ⟨rfl, rfl⟩)
  · obtain ⟨rfl, rfl⟩ := hG
    exact hb cdv A outer s2 H2 (hr.deeper _) e0.mod vs' Q hs
end
/-! ### C(e, ..) -/
/-- what C(..) wants and gives: fs the fields, the last one first -/
abbrev SpI (C : Addr) (g : List V → List (Str × V)) (n : Nat) : List V → List V → Hp → VK → Prop := fun vs _ H Q => ∃ a ws, vs = .ref a :: ws ∧ ws.length = n ∧ H a = some (exo a C none) ∧ ∀ dx, H dx = none → dx ≠ a → Q .non (upd (upd H dx (exd dx (g ws))) a (exo a C (some dx)))
section
variable {X : Cx} {B newId initId : String} {tl : List Value} {x : Str} {C fI : Addr} {k n : Nat} {g : List V → List (Str × V)} {e : Expr} {es : List Expr} {p pos : Pos}
theorem pmk_x (T : XCl X.K C B newId initId tl) (iC : PySem.W.findIn X.K (.ref C) "__init__" = some (some (.ref fI))) (tI : PySem.W.typeIn X.K (.ref fI) = some (.type "function"))
    (F : FnX X.prog X.w X.K X.mg X.base k fI [] (SpI C g n)) (hr : Rm (k + 1) X.A) (hg : Gl X x) (hm : X.mg x = some (.ref C)) (hn : n ≤ 900)
    (hdb : (x == ("__debug__" : Str)) = false := by decide) (he : starEach (e :: es) X.env = (false, eval e X.env) :: starEach es X.env := by rfl) (hpl : (backTo pos (starEach es X.env)).any (·.1) = false := by rfl) :
    PMk X (.Call (.Name x p) (e :: es) [] pos) (fun σ H Q => WA X (e :: es) σ H fun vs H1 => vs.length = n ∧ ∀ d, H1 d = none → Q (.ref C) (some d) (upd H1 d (.xd (g vs)))) := by
  intro pins s σ H Q I h
  obtain ⟨n1, n2, n3, n4, bm, n5, n6, n7, n8, n9, n10, n11, n12, n13, n14, n15, hC, hT⟩ := PySem.W.excInit_of I.kIn T.ini
  refine wpAny_Call_Name_kw (ld_glob I hg hm ?_ hdb)
  refine PySem.W.callWith_K (h₀ := X.base) I.ok.mod.kin T.kC (thn (pa_wa.run pos pins s σ H _ I h) fun us s1 ⟨vs, H1, I1, r1, hz, q1⟩ => ⟨I1.kIn, ?_⟩) he hpl
  show wpAny _ _ (call (.ref C) us) _ _ _
  obtain ⟨m1, m2, m3, m4, bm', m5, m6, m7, m8, m9, m10, m11, m12, m13, m14, m15, hC1, hT1⟩ := PySem.W.excInit_of I1.kIn T.ini
  obtain ⟨hp, g0, dr, tk, os⟩ := s1
  have hsz : hp.objs.size ≤ hp.objs.size + 1 := Nat.le_succ _
  have hnA : H1 (hp.objs.size + 1) = none := I1.hok.fresh hsz
  have kk : ∀ b u, hp.get? b = some u → ((hp.push (PySem.W.kdv_tup us)).push (PySem.HandSPX.excO C hp.objs.size)).get? b = some u := fun b u z => Heap.get?_push_of_some _ (Heap.get?_push_of_some _ z)
  have hgt : ((hp.push (PySem.W.kdv_tup us)).push (PySem.HandSPX.excO C hp.objs.size)).get? (hp.objs.size + 1) = some (PySem.HandSPX.excO C hp.objs.size) := by heap_get
  have I2 : Inv X pins σ (upd H1 (hp.objs.size + 1) (exo (hp.objs.size + 1) C none)) ⟨(hp.push (PySem.W.kdv_tup us)).push (PySem.HandSPX.excO C hp.objs.size), g0, dr, tk, os⟩ :=
    Inv.laid (t' := tk) I1 kk hsz (exo_ok hgt)
  have r2 : Vals (V.ref (hp.objs.size + 1) :: vs) (Value.ref (hp.objs.size + 1) :: us) := .cons rfl r1
  have hus : us.length ≤ sizeLine := by
    rw [← Paired.length r1, sizeLine_eq, hz]
    omega
  have hq : SpI C g n (V.ref (hp.objs.size + 1) :: vs) [] (upd H1 (hp.objs.size + 1) (exo (hp.objs.size + 1) C none)) (fun v H2 => v = .non ∧ ∃ (d : Addr) (fs : List (Str × V)), H2 (hp.objs.size + 1) = some (exo (hp.objs.size + 1) C (some d)) ∧ H2 d = some (exd d fs) ∧ H1 d = none ∧ Q (.ref C) (some d) (upd (del H2 (hp.objs.size + 1)) d (.xd fs))) := by
    refine ⟨_, vs, rfl, hz, upd_same, fun d hd hda => ⟨rfl, d, g vs, upd_same, ?_, ?_, ?_⟩⟩
    · rw [upd_ne hda, upd_same]
    · rw [upd_ne hda] at hd
      exact hd
    · rw [upd_ne hda] at hd
      have ee : upd (del (upd (upd (upd H1 (hp.objs.size + 1) (exo (hp.objs.size + 1) C none)) d (exd d (g vs))) (hp.objs.size + 1) (exo (hp.objs.size + 1) C (some d))) (hp.objs.size + 1)) d (.xd (g vs)) = upd H1 d (.xd (g vs)) := funext fun b => by
        by_cases h1 : b = d
        · rw [h1, upd_same, upd_same]
        · rw [upd_ne h1, upd_ne h1]
          by_cases h2 : b = hp.objs.size + 1
          · rw [h2, del_same, hnA]
          · rw [del_ne h2, upd_ne h2, upd_ne h1, upd_ne h2]
      rw [ee]
      exact q1 d hd
  refine wpAny_call (PySem.HandSPX.call_own T.fb hT1 hC1 (PySem.W.looks_findIn I1.kIn iC) (fun self => PySem.W.bind_fn I1.kIn self tI) hus
    (codeAny_mono (F.run _ X.stack _ _ (Value.ref (hp.objs.size + 1) :: us) [] _ [] _ (hr.make C us []) (I2.env0.make C us []) r2 .nil rfl hq) fun r s' hq' => ?_))
  cases r with
  | error er => exact False.elim hq'
  | ok fl =>
    cases fl with
    | ret u =>
      obtain ⟨v, H2, os2, bare2, un2, hok2, rv, ev, d, fs, ea, ed, hd1, q2⟩ := hq'
      subst ev
      obtain ⟨h2, g2, d2, t2, os'⟩ := s'
      exact ⟨rv, mk_end (raises_own T.exC T.tyC) I1 hsz kk un2 hok2 os2 bare2 ea ed hd1 q2⟩
    | next => exact False.elim hq'
    | brk => exact False.elim hq'
    | cont => exact False.elim hq'
end
end Ab
/-! Ab38: pieces that may raise: yE, yS, ySs; raise; calls of defs that may raise; the promise of such a def. -/
namespace Ab
open PySem PySem.Spec PyProof.Rows L2
def XRep (K : PySem.W.Frag) (H : Hp) (cls : Value) (d : Option Addr) (C : Addr) (fs : List (Str × Val)) : Prop := cls = .ref C ∧ ((d = none ∧ fs = []) ∨ ∃ dd gs, d = some dd ∧ H dd = some (.xd gs) ∧ RepF K H fs gs)
theorem XRep.mono {K : PySem.W.Frag} {H H' : Hp} {cls : Value} {d : Option Addr} {C : Addr} {fs : List (Str × Val)} (e : Same H H') (h : XRep K H cls d C fs) : XRep K H' cls d C fs := by
  obtain ⟨h1, h2 | ⟨dd, gs, h2, h3, h4⟩⟩ := h
  · exact ⟨h1, .inl h2⟩
  · exact ⟨h1, .inr ⟨dd, gs, h2, e _ _ h3, h4.mono e⟩⟩
/-- an exception's class, fields, the memory -/
abbrev XP := Addr → List (Str × Val) → Mem → Prop
abbrev XG := Gam → XP
def XPost (K : PySem.W.Frag) (Hi : Hp) (PE : XP) (E : XK) : Prop := ∀ C fs M' Hi' H' cls d, PE C fs M' → Same Hi Hi' → Ok K Hi' M' H' → XRep K Hi' cls d C fs → E cls d H'
theorem XPost.up {K : PySem.W.Frag} {Hi Hi1 : Hp} {PE : XP} {E : XK} (h : XPost K Hi PE E) (e : Same Hi Hi1) : XPost K Hi1 PE E := fun C fs M' Hi' H' cls d p s => h C fs M' Hi' H' cls d p (e.trans s)
def XReal (K : PySem.W.Frag) (Hi : Hp) (ex : XG) (W : WX) : Prop := ∀ Γ C fs M' σ Hi' H' cls d, ex Γ C fs M' → Same Hi Hi' → Ok K Hi' M' H' → EnvR K Hi' Γ σ → XRep K Hi' cls d C fs → W cls d σ H'
theorem XReal.up {K : PySem.W.Frag} {Hi Hi1 : Hp} {ex : XG} {W : WX} (h : XReal K Hi ex W) (e : Same Hi Hi1) : XReal K Hi1 ex W := fun Γ C fs M' σ Hi' H' cls d p s => h Γ C fs M' σ Hi' H' cls d p (e.trans s)
theorem XReal.at {K : PySem.W.Frag} {Hi : Hp} {ex : XG} {W : WX} {Γ : Gam} {σ : L2.St} (h : XReal K Hi ex W) (en : EnvR K Hi Γ σ) : XPost K Hi (ex Γ) fun cls d H => W cls d σ H := fun C fs M' Hi' H' cls d p s ok => h Γ C fs M' σ Hi' H' cls d p s ok (en.mono s)
abbrev Po (X : Cx) : Prop := PassesOwn (model X.prog X.w) X.A X.env X.xe
def yE (X : Cx) (e : Expr) (Γ : Gam) (M : Mem) (P : Val → Mem → Prop) (PE : XP) : Prop := ∀ W, Takes X W → Po X → ∀ Hi H σ, Ok X.K Hi M H → EnvR X.K Hi Γ σ → ∀ Q : VK, Post X.K Hi P Q → XPost X.K Hi PE (fun cls d H' => W cls d σ H') → WE X e σ H Q
def yS (X : Cx) (s : Stmt) (Γ : Gam) (M : Mem) (k : AK) (ex : XG) : Prop := ∀ W, Takes X W → Po X → ∀ Hi H σ, Ok X.K Hi M H → EnvR X.K Hi Γ σ → ∀ D, Real X.K Hi k D → XReal X.K Hi ex W → WS X s D σ H
def ySs (X : Cx) (s : List Stmt) (Γ : Gam) (M : Mem) (k : AK) (ex : XG) : Prop := ∀ W, Takes X W → Po X → ∀ Hi H σ, Ok X.K Hi M H → EnvR X.K Hi Γ σ → ∀ D, Real X.K Hi k D → XReal X.K Hi ex W → WB X s D σ H
/-- a block that ends by an exception -/
abbrev k0 : AK := { nx := fun _ _ => False, rt := fun _ _ => False }
section
variable {X : Cx} {Γ : Gam} {M : Mem} {P : Val → Mem → Prop} {PE : XP} {ex : XG} {e c : Expr} {es : List Expr} {pos p1 : Pos} {k : AK} {st : Stmt} {sts s1 s2 : List Stmt} {x : Str} {n : Nat}
theorem ys_of (h : aS X st Γ M k) : yS X st Γ M k ex := fun _ _ _ Hi H σ ok en D q _ => h Hi H σ ok en D q
theorem yss_of (h : aSs X sts Γ M k) : ySs X sts Γ M k ex := fun _ _ _ Hi H σ ok en D q _ => h Hi H σ ok en D q
theorem ys_cons (h : yS X st Γ M { k with nx := fun Γ' M' => ySs X sts Γ' M' k ex } ex) : ySs X (st :: sts) Γ M k ex := fun W tk po Hi H σ ok en D q y =>
  ⟨_, pss_cons ps_ws pss_wb, h W tk po Hi H σ ok en { D with nx := WB X sts D } ⟨fun Γ' M' σ' Hi' H' hn s ok' en' => hn W tk po Hi' H' σ' ok' en' D (q.up s) (y.up s), q.rt, q.bk, q.ct⟩ y⟩
theorem ys_one (h : yS X st Γ M k ex) : ySs X [st] Γ M k ex := fun W tk po Hi H σ ok en D q y => ⟨_, pss_one ps_ws, h W tk po Hi H σ ok en D q y⟩
theorem ys_expr (h : yE X e Γ M (fun _ M' => k.nx Γ M') (ex Γ)) (hs : swapsWith e none pos.line X.env = pure false := by rfl) : yS X (.Expr e pos) Γ M k ex := fun W tk po Hi H σ ok en D q y =>
  ⟨_, ps_expr pe_we hs, h W tk po Hi H σ ok en _ (fun d M1 v Hi1 H1 h1 s1 ok1 r1 => q.nx _ _ _ Hi1 H1 h1 s1 ok1 (en.mono s1)) (y.at en)⟩
theorem ys_if (h : aT X c Γ M fun b M' => (b = true → ySs X s1 Γ M' k ex) ∧ (b = false → ySs X s2 Γ M' k ex)) : yS X (.If c s1 s2 pos) Γ M k ex := fun W tk po Hi H σ ok en D q y => by
  refine ⟨_, ps_if pt_wt pss_wb pss_wb, h Hi H σ ok en _ fun b M1 Hi1 H1 h1 z1 ok1 => ?_⟩
  cases b with
  | true => exact iteT (h1.1 rfl W tk po Hi1 H1 σ ok1 (en.mono z1) D (q.up z1) (y.up z1))
  | false => exact iteF (h1.2 rfl W tk po Hi1 H1 σ ok1 (en.mono z1) D (q.up z1) (y.up z1))
theorem yE.mono {P' : Val → Mem → Prop} {PE' : XP} (h : yE X e Γ M P PE) (f : ∀ d M', P d M' → P' d M') (f2 : ∀ C fs M', PE C fs M' → PE' C fs M') : yE X e Γ M P' PE' := fun W tk po Hi H σ ok en Q q y => h W tk po Hi H σ ok en Q (fun d M1 v Hi1 H1 p => q d M1 v Hi1 H1 (f d M1 p)) fun C fs M' Hi' H' cls d p => y C fs M' Hi' H' cls d (f2 C fs M' p)
end
/-! ### raise C(e, ..) -/
/-- an exception class as its name says: n arguments, their fields g -/
structure XMk (P : Program) (w : World) (K : PySem.W.Frag) (mg : Str → Option Value) (base : Heap) (x : Str) (C : Addr) (n : Nat) (g : List Val → List (Str × Val)) : Prop where
  ex : ∃ B newId initId tl fI gV, XCl K C B newId initId tl ∧ PySem.W.findIn K (.ref C) "__init__" = some (some (.ref fI)) ∧ PySem.W.typeIn K (.ref fI) = some (.type "function") ∧ FnX P w K mg base 1 fI [] (SpI C gV n) ∧ mg x = some (.ref C) ∧ ∀ H ds vs, RepA K H ds vs → ds.length = n → RepF K H (g ds) (gV vs)
  n9 : n ≤ 900
section
variable {X : Cx} {Γ : Gam} {M : Mem} {ex : XG} {e : Expr} {es : List Expr} {pos p1 pos' : Pos} {k : AK} {x : Str} {n m : Nat} {C : Addr} {g : List Val → List (Str × Val)}
theorem ys_raise (T : XMk X.prog X.w X.K X.mg X.base x C n g) (hr : Rm m X.A) (hm : 2 ≤ m) (hc : X.calm = true) (h : aA X (e :: es) Γ M fun ds M1 => ds.length = n ∧ ex Γ C (g ds) M1) (hg : Gl X x := by rfl)
    (hdb : (x == ("__debug__" : Str)) = false := by decide) (he : starEach (e :: es) X.env = (false, eval e X.env) :: starEach es X.env := by rfl) (hpl : (backTo pos (starEach es X.env)).any (·.1) = false := by rfl) :
    yS X (.Raise (some (.Call (.Name x p1) (e :: es) [] pos)) none pos') Γ M k ex := fun W tk po Hi H σ ok en D q y => by
  obtain ⟨B, newId, initId, tl, fI, gV, T1, iC, tI, F, mx, rel⟩ := T.ex
  refine ⟨_, ps_raise hc tk (pmk_x T1 iC tI F (hr.mono hm) hg mx T.n9 hdb he hpl), ?_⟩
  refine h Hi H σ ok en _ fun ds M1 vs Hi1 H1 h1 z1 ok1 r1 => ⟨r1.length.symm.trans h1.1, fun d hd => ?_⟩
  have z2 := same_upd (o := .xd (gV vs)) (Ok.none ok1 hd)
  exact y Γ C (g ds) M1 σ (upd Hi1 d (.xd (gV vs))) _ _ _ h1.2 (z1.trans z2) (ok1.imm hd) ((en.mono z1).mono z2) ⟨rfl, .inr ⟨d, gV vs, rfl, upd_same, (rel Hi1 ds vs r1 h1.1).mono z2⟩⟩
end
end Ab
/-! Ab39: calls of defs that may raise, their promises. -/
namespace Ab
open PySem PySem.Spec PyProof.Rows L2
abbrev ASe := List Val → Mem → (Val → Mem → Prop) → XP → Prop
abbrev ASxe := List Val → List Val → Mem → (Val → Mem → Prop) → XP → Prop
def spE (K : PySem.W.Frag) (s : ASxe) (vs zs : List V) (H : Hp) (Q : VK) (E : XK) : Prop := ∃ Hi M ds es P PE, RepA K Hi ds vs ∧ RepA K Hi es zs ∧ Ok K Hi M H ∧ s ds es M P PE ∧ Post K Hi P Q ∧ XPost K Hi PE E
structure FnE (P : Program) (w : World) (K : PySem.W.Frag) (mg : Str → Option Value) (base : Heap) (k : Nat) (f : Addr) (ks : List Str) (sp : List V → List V → Hp → VK → XK → Prop) : Prop where
  run : ∀ (A : Around) (outer : List Env) (s : Shared) (H : Hp) (us ws : List Value) (vs zs : List V) (Q : VK) (E : XK), Rm k A → Env0 P w K mg base A outer s H → Vals vs us → Vals zs ws → zs.length = ks.length → sp vs zs H Q E →
    codeAny (model P w) A (.call (.ref f) ⟨us, ks.zip ws⟩) (CR (L2.CX P w) outer P w H s Q E) s
/-- the cells of a def may be dropped when it raises -/
inductive RetX (PE : XP) : XP
  | ok {C : Addr} {fs : List (Str × Val)} {M : Mem} : PE C fs M → RetX PE C fs M
  | drop {C : Addr} {fs : List (Str × Val)} {c : Addr × Cell} {M : Mem} : RetX PE C fs M → RetX PE C fs (c :: M)
theorem RetX.post {K : PySem.W.Frag} {PE : XP} {E : XK} {Hi : Hp} (q : XPost K Hi PE E) {C : Addr} {fs : List (Str × Val)} {M : Mem} (h : RetX PE C fs M) : ∀ {Hi' H' : Hp} {cls : Value} {d : Option Addr}, Same Hi Hi' → Ok K Hi' M H' → XRep K Hi' cls d C fs → E cls d H' := by
  induction h with
  | ok p => exact fun s ok r => q _ _ _ _ _ _ _ p s ok r
  | drop _ ih => exact fun s ok r => ih s ok.tail r
abbrev ecx (P : Program) (w : World) (K : PySem.W.Frag) (mg : Str → Option Value) (base : Heap) (N : List Str) (qual : Str) (sc : Scope) (f : Addr) (cdv : Value) (A : Around) (outer : List Env) (s : Shared) (H : Hp) (E : XK) : Cx := cxOf (L2.CX P w) P w K mg base N qual sc f cdv A outer s H E
abbrev BodyE (P : Program) (w : World) (K : PySem.W.Frag) (mg : Str → Option Value) (base : Heap) (k : Nat) (f : Addr) (N : List Str) (qual : Str) (sc : Scope) (body : List Stmt) (s0 : ASe) : Prop :=
  ∀ cdv A outer s H E, Rm k (A.deeper (envOfC qual sc s.heap.objs.size f cdv)) → Po (ecx P w K mg base N qual sc f cdv A outer s H E) → ∀ ds M R PE, s0 ds M R PE → ySs (ecx P w K mg base N qual sc f cdv A outer s H E) body (gam N ds) M (kOf R) fun _ => RetX PE
section
variable {P : Program} {w : World} {K : PySem.W.Frag} {mg : Str → Option Value} {base : Heap} {x qual : Str} {f : Addr} {fd : FuncData}
theorem fne_kbn {params : Arguments} {body : List Stmt} {sc : Scope} {dvs : List V} {kws : List (Str × V)} {N ps ks : List Str} {k n : Nat} {s0 : ASe} {g : List Value → List Value → List Value} {gV : List V → List V → List V} (gA : List Val → List Val → List Val)
    (F : FunD K x qual params body sc dvs kws f fd) (S : FnScope N ps sc) (b : KBn K fd ps n ks g gV)
    (hrel : ∀ H ds vs es zs, RepA K H ds vs → RepA K H es zs → ds.length = n → es.length = ks.length → RepA K H (gA ds es) (gV vs zs)) (len : ∀ ds M R PE, s0 ds M R PE → ds.length = ps.length)
    (hb : BodyE P w K mg base k f N qual sc body s0) : FnE P w K mg base (k + 1) f ks (spE K fun ds es M R PE => ds.length = n ∧ s0 (gA ds es) M R PE) := by
  refine ⟨fun A outer s H us ws vs zs Q E hr e0 r rz hz ⟨Hi, M, ds, es, R, PE, ra, re, ok, ⟨hn, hs⟩, q, qx⟩ => ?_⟩
  obtain ⟨oc, od, dV, kV, doc, pm, an, cdv, ct, osl, rfl, lk, hcd, _, _⟩ := F.ex
  have KX : K.In s.heap := e0.mod.kin.keeps fun b1 o1 z1 => (e0.bs b1 o1 z1).1
  have hbt := b.to s us ws KX (by rw [← r.length, ← ra.length]; exact hn) (by rw [← rz.length]; exact hz)
  have rg := hrel Hi ds vs es zs ra re hn (re.length.trans hz)
  have hl : (gV vs zs).length = ps.length := rg.length.symm.trans (len _ _ _ _ hs)
  refine StX.run_bnd (CX := L2.CX P w) (E := E) (G := fun vs' H2 => vs' = gV vs zs ∧ H2 = H) lk hcd S hr.room e0 (fun A' Ex Q' h => ?_) fun s2 H2 vs' hG hr' => ?_
  · exact hbt _ _ _ _ (h s H (gV vs zs) (g us ws) e0 Un.refl rfl (fun _ _ z => z) (b.rel r rz) hl ⟨rfl, rfl⟩)
  · obtain ⟨rfl, rfl⟩ := hG
    obtain ⟨t, p, z⟩ := hb cdv A outer s2 H2 E (hr.deeper _) (passes_of (K := fun e s'' => L2.CX P w outer H2 s2 E e s'') (E₁ := _) rfl) (gA ds es) M R PE hs (fun cls d _ H => E cls d H) (takes_of rfl rfl rfl rfl) (passes_of (K := fun e s'' => L2.CX P w outer H2 s2 E e s'') (E₁ := _) rfl) Hi H2 _ ok (env_start rg)
      { nx := fun _ H' => Q .non H', rt := Q } ⟨fun Γ M' σ Hi' H' h1 s1 ok1 _ => h1.post q s1 ok1 .non, fun d M' v Hi' H' h1 s1 ok1 r1 => h1.post q s1 ok1 r1, fun _ _ _ _ _ z => z.elim, fun _ _ _ _ _ z => z.elim⟩
      (fun Γ C fs M' σ Hi' H' cls d h1 s1 ok1 _ r1 => h1.post qx s1 ok1 r1)
    exact ⟨t, p, z⟩
theorem fne_pos {params : Arguments} {body : List Stmt} {sc : Scope} {kws : List (Str × V)} {N ps : List Str} {k : Nat} {s0 : ASe} (F : FunD K x qual params body sc [] kws f fd) (S : FnScope N ps sc)
    (h : ∀ (kV doc pm : Value) (an : Option Addr) (cdv ct : Value) (us : List Value), us.length = ps.length → bindArgs (PySem.W.fnOf x qual params body sc .none kV doc pm an cdv ct) ⟨us, []⟩ = pure (ps.zip us))
    (len : ∀ ds M R PE, s0 ds M R PE → ds.length = ps.length) (hb : BodyE P w K mg base k f N qual sc body s0) : FnE P w K mg base (k + 1) f [] (spE K fun ds _ => s0 ds) := by
  have F1 := fne_kbn (n := ps.length) (ks := []) (fun ds _ => ds) F S (g := fun us _ => us) (gV := fun vs _ => vs) (by
    obtain ⟨oc, od, dV, kV, doc, pm, an, cdv, ct, osl, rfl, lk, hcd, hD, _⟩ := F.ex
    obtain ⟨_, rfl⟩ : ([] : List V) = [] ∧ dV = .none := by
      rcases hD with z | ⟨z, _⟩
      · exact z
      · exact absurd rfl z
    refine ⟨fun s us ws _ h1 h2 => .of_eq ?_, fun r1 _ => r1⟩
    obtain rfl := List.length_eq_zero_iff.mp h2
    exact h kV doc pm an cdv ct us h1) (fun H ds vs es zs r _ _ _ => r) len hb
  exact ⟨fun A outer s H us ws vs zs Q E hr e0 r rz hz ⟨Hi, M, ds, es, R, PE, ra, re, ok, hs, q, qx⟩ => F1.run A outer s H us ws vs zs Q E hr e0 r rz hz ⟨Hi, M, ds, es, R, PE, ra, re, ok, ⟨len _ _ _ _ hs, hs⟩, q, qx⟩⟩
theorem FnE.weak {k : Nat} {ks : List Str} {sp sp' : List V → List V → Hp → VK → XK → Prop} (F : FnE P w K mg base k f ks sp) (h : ∀ vs zs H Q E, sp' vs zs H Q E → sp vs zs H Q E) : FnE P w K mg base k f ks sp' :=
  ⟨fun A outer s H us ws vs zs Q E hr e0 r rz hz hs => F.run A outer s H us ws vs zs Q E hr e0 r rz hz (h _ _ _ _ _ hs)⟩
theorem FnE.imp {k : Nat} {ks : List Str} {sx sx' : ASxe} (F : FnE P w K mg base k f ks (spE K sx)) (h : ∀ ds es M R PE, sx' ds es M R PE → sx ds es M R PE) : FnE P w K mg base k f ks (spE K sx') :=
  F.weak fun vs zs H Q E ⟨Hi, M, ds, es, R, PE, r1, r2, ok, hs, q⟩ => ⟨Hi, M, ds, es, R, PE, r1, r2, ok, h _ _ _ _ _ hs, q⟩
theorem FnE.mono {j k : Nat} {ks : List Str} {sp : List V → List V → Hp → VK → XK → Prop} (F : FnE P w K mg base j f ks sp) (h : j ≤ k) : FnE P w K mg base k f ks sp := ⟨fun A outer s H us ws vs zs Q E hr => F.run A outer s H us ws vs zs Q E (hr.mono h)⟩
end
/-- a method that may raise -/
abbrev MtE (P : Program) (w : World) (K : PySem.W.Frag) (mg : Str → Option Value) (base : Heap) (C : Addr) (n : Nat) (m : Str) (ks : List Str) (s : ASxe) : Prop := ∃ f, Meth K C m f ∧ FnE P w K mg base n f ks (spE K s)
section
variable {X : Cx} {Γ : Gam} {M : Mem} {P : Val → Mem → Prop} {PE : XP} {e o : Expr} {es : List Expr} {kws : List Keyword} {pos p1 apos : Pos} {x m : Str} {n q : Nat} {f C : Addr} {ks : List Str} {sx : ASxe} {W : WX}
theorem run_e {pins : List (Addr × Obj)} {σ : L2.St} {H : Hp} {s : Shared} {Q : VK} {us ws : List Value} {vs zs : List V} {sp : List V → List V → Hp → VK → XK → Prop} (tk : Takes X W) (F : FnE X.prog X.w X.K X.mg X.base n f ks sp) (hr : Rm n X.A)
    (I : Inv X pins σ H s) (r : Vals vs us) (rz : Vals zs ws) (l2 : zs.length = ks.length) (h : sp vs zs H Q fun cls d H' => W cls d σ H') : wpAny (model X.prog X.w) X.A (call (.ref f) us (ks.zip ws)) (EP X pins σ Q) X.xe s := by
  refine wpAny_call (codeAny_mono (F.run X.A X.stack s H us ws vs zs Q _ hr I.env0 r rz l2 h) fun r s' hq => ?_)
  cases r with
  | error e => exact tk e s' (XE.of_call I (fun _ _ _ z => z) hq)
  | ok fl =>
    cases fl with
    | ret u => exact I.after hq
    | next => exact False.elim hq
    | brk => exact False.elim hq
    | cont => exact False.elim hq
/-- o.m(e, .., k = v, ..) -/
theorem ye_m {pl : Sem Bool} (c : Cls X.K C) (F : MtE X.prog X.w X.K X.mg X.base C n m ks sx) (hr : Rm q X.A) (hq : n ≤ q)
    (h : aE X o Γ M fun d M0 => ObM M0 C d m ∧ aA X (e :: es) Γ M0 fun ds M1 => aKw X kws Γ M1 fun zs M2 => zs.length = ks.length ∧ sx (d :: ds) zs M2 P PE)
    (hall : (backToKw pos (keywordEach kws X.env)).all (·.1.isSome) = true := by rfl) (hks : (backToKw pos (keywordEach kws X.env)).filterMap (·.1) = ks := by rfl)
    (he : starEach (e :: es) X.env = (false, eval e X.env) :: starEach es X.env := by rfl) (hpl : ((backTo pos (starEach (e :: es) X.env)).any (·.1) || (backToKw pos (keywordEach kws X.env)).any (·.1.isNone)) = false := by rfl)
    (ht : eval (.Call (.Attribute o m apos) (e :: es) kws pos) X.env = (do
      let ov ← eval o X.env
      standAt apos.atName
      let (f, first) ← holding [ov] (getMethod ov m pl)
      callWith pos f first (backTo pos (starEach (e :: es) X.env)) (backToKw pos (keywordEach kws X.env))) := by rfl) : yE X (.Call (.Attribute o m apos) (e :: es) kws pos) Γ M P PE := fun W tk po Hi H σ ok en Q q1 y1 => by
  obtain ⟨f, hm, F⟩ := F
  refine ⟨fun σ H Q => WE X o σ H fun x H0 => ∃ a dx fs, x = .ref a ∧ H0 a = some (.ins C dx fs) ∧ fs.lookup m = none ∧ WA X (e :: es) σ H0 fun vs H1 => WK X kws σ H1 fun zs H2 => zs.length = ks.length ∧ spE X.K sx (x :: vs) zs H2 Q fun cls d H' => W cls d σ H', ⟨fun pins s σ H Q I h => ?_⟩, ?_⟩
  · refine PySem.W.methodCall_KW (pl := pl) (thn (pe_we.run pins s σ H _ I h) fun u s1 ⟨x, H1, I1, rx, a, dx, fs, ex, ea, l, z⟩ => ?_) ht
    subst ex
    obtain rfl : u = Value.ref a := rx
    refine getmeth_ok I1 ea c hm l ?_
    refine PySem.W.callWith_KW (first := [.ref a]) (h₀ := X.base) I.ok.mod.kin hm.kp hall (thn (pa_wa.run pos pins s1 σ H1 _ I1 z) fun us s2 ⟨vs, H2, I2, r, z2⟩ => ?_) hpl he
    refine thn (pk_wk.run pos pins s2 σ H2 _ I2 z2) fun ws s3 ⟨zs, H3, I3, rz, l2, z3⟩ => ⟨I3.kIn, ?_⟩
    rw [hks]
    exact run_e (us := .ref a :: us) (vs := .ref a :: vs) tk (F.mono hq) hr I3 (.cons rfl r) rz l2 z3
  · refine h Hi H σ ok en _ fun x M0 v0 Hi0 H0 h0 s0 ok0 r0 => ?_
    obtain ⟨hob, h0⟩ := h0
    obtain ⟨p, dx, gs, rfl, hp, hn⟩ := hob _ _ _ _ ok0 r0
    refine ⟨p, dx, gs, rfl, hp, hn, ?_⟩
    refine h0 Hi0 H0 σ ok0 (en.mono s0) _ fun ds M1 vs Hi1 H1 h1 s1 ok1 r1 => ?_
    refine h1 Hi1 H1 σ ok1 (en.mono (s0.trans s1)) _ fun zs M2 ws Hi2 H2 h2 s2 ok2 r2 => ?_
    exact ⟨r2.length.symm.trans h2.1, Hi2, M2, _ :: ds, zs, P, PE, .cons (r0.mono (s1.trans s2)) (r1.mono s2), r2, ok2, h2.2, q1.up ((s0.trans s1).trans s2), y1.up ((s0.trans s1).trans s2)⟩
end
end Ab
/-! Ab40: try: .. except C as n: ..; the caught exception is a value from then on. -/
namespace Ab
open PySem PySem.Spec PyProof.Rows L2
theorem exH_ok {P : Program} {w : World} {H : Hp} {h : Heap} {a C : Addr} {d : Option Addr} {oe : Obj} {vs : Array Value} (e : h.get? a = some oe) (z : Zc (.ref C) d oe) (hd : oe.data = .fields vs) : ObjOk P w H h a (exH a C d) :=
  ⟨⟨oe, vs, e, z, hd⟩, ⟨oe, e⟩, fun _ _ ⟨o, v, q, r⟩ k => ⟨o, v, k o q, r⟩⟩
section
variable {X : Cx} {pins : List (Addr × Obj)} {σ : L2.St} {H : Hp} {sI s s' : Shared} {B : Heap} {a C : Addr} {d : Option Addr} {oe : Obj} {vs : Array Value}
/-- landed, and the exception tracked -/
theorem Inv_landV (I : Inv X pins σ H sI) (nb : ∀ b o, sI.heap.get? b = some o → b ∉ frs X.stack → B.get? b = some o) (st : B.StaysIn s'.heap) (up : sI.heap.UpToSlots s'.heap) (os : s'.os = sI.os) (ag : AllBare s'.gens)
    (ha : s'.heap.get? a = some oe) (hz : Zc (.ref C) d oe) (hd : oe.data = .fields vs) (na : H a = none) (sn : sI.heap.get? a = none) : Inv X pins σ (upd H a (exH a C d)) s' := by
  have nf : ∀ b ∈ frs X.stack, ∀ o, sI.heap.get? b = some o → ∃ sl, s'.heap.get? b = some { o with slots := sl } := fun b hb o z => by
    obtain ⟨_, o', z1, z2⟩ := I.stack.mem hb
    rw [z] at z1
    cases z1
    exact up b o z z2
  have ne : ∀ b o, sI.heap.get? b = some o → b ≠ a := fun b o z1 z2 => by
    rw [z2, sn] at z1
    cases z1
  have ok0 : HOk X.prog X.w H s'.heap := (I.inGround nb).kept st
  refine Inv.call' (ch := []) I os ⟨fun b o z _ hb _ => st b o (nb b o z hb), fun b o z _ hb _ => nf b hb o z, fun b o z z2 _ => by rw [upd_ne (ne b o z)]; exact z2, fun b o z _ => ?_, fun b xs z => by rw [upd_ne (ne_of_none z na)]; exact z, fun b o u z => by rw [upd_ne (ne_of_none z na)]; exact z, fun b ps z => ⟨#[], by rw [upd_ne (ne_of_none z na), z]; simp⟩⟩ (fun b o z => ?_) ag (fun _ z => nomatch z)
  · by_cases hb : b ∈ frs X.stack
    · obtain ⟨sl, q⟩ := nf b hb o z
      exact ⟨_, q⟩
    · exact ⟨o, st b o (nb b o z hb)⟩
  · by_cases hb : b = a
    · subst hb
      rw [upd_same] at z
      cases z
      exact exH_ok ha hz hd
    · rw [upd_ne hb] at z
      exact (ok0 b o z).stay (fun _ _ _ q => q) (fun c q => by rw [upd_ne (ne_of_none q na)]; exact q) fun c xs q => by rw [upd_ne (ne_of_none q na)]; exact q
theorem Inv_inS (I : Inv X pins σ H s) (a : Addr) : Inv (X.suite a (X.pn ++ pins)) [] σ H s :=
  ⟨I.ok.suite _ _, I.os, I.bare, I.base, I.loc, I.cell, I.free, I.freeC, fun p hp => I.pin p (by rw [List.append_nil] at hp; exact hp), I.hok, I.len⟩
theorem Inv_outS {pn' : List (Addr × Obj)} (I : Inv (X.suite a (X.pn ++ pins)) pn' σ H s) (ok : X.Ok) : Inv X pins σ H s :=
  ⟨ok, I.os, I.bare, I.base, I.loc, I.cell, I.free, I.freeC, fun p hp => I.pin p (List.mem_append_left _ hp), I.hok, I.len⟩
end
/-! ### the same over values -/
section
variable {X : Cx} {Γ : Gam} {M : Mem} {k : AK} {ex : XG} {x n : Str} {c : Value} {body suite : List Stmt} {b0 : Stmt} {np pos pos' : Pos}
theorem xrep_rep {K : PySem.W.Frag} {Hi : Hp} {a C : Addr} {cls : Value} {d : Option Addr} {fs : List (Str × Val)} (h : XRep K Hi cls d C fs) (na : Hi a = none) : Rep K (upd Hi a (exH a C d)) (.exc C fs) (.ref a) := by
  obtain ⟨_, ⟨rfl, rfl⟩ | ⟨dd, gs, rfl, h1, h2⟩⟩ := h
  · exact .exc0 upd_same
  · exact .exc upd_same (by rw [upd_ne (ne_of_none h1 na)]; exact h1) (h2.mono (same_upd na))
end
end Ab
/-! Ab41: a caught exception's fields, its class. -/
namespace Ab
open PySem PySem.Spec PyProof.Rows L2
section
variable {X : Cx} {Γ : Gam} {M : Mem} {P : Val → Mem → Prop} {a b : Expr} {pos p1 : Pos} {C : Addr} {f : Str} {d2 : Val} {fs : List (Str × Val)}
/-- e.f, e a caught exception -/
theorem ae_xf (T : XfC X.K C) (hno : PySem.W.findIn X.K (.ref C) f = some none) (ha : aE X a Γ M fun d M' => ∃ fs v, d = .exc C fs ∧ fs.lookup f = some v ∧ P v M') (hb : attributeBase a f X.env (eval a X.env) = eval a X.env := by rfl) : aE X (.Attribute a f pos) Γ M P := fun Hi H σ ok en Q q => by
  refine ⟨fun σ H Q => WE X a σ H fun x H1 => ∃ (p dd : Addr) (gs : List (Str × V)) (v : V), x = .ref p ∧ H1 p = some (exH p C (some dd)) ∧ H1 dd = some (.xd gs) ∧ gs.lookup f = some v ∧ Q v H1, ⟨fun pins s σ H Q I h => attr_of hb (thn (pe_we.run pins s σ H _ I h) fun u s1 hh => ?_)⟩, ?_⟩
  · obtain ⟨x, H1, I1, rx, p, dd, gs, v, rfl, ep, ed, l, q1⟩ := hh
    obtain rfl : u = Value.ref p := rx
    have y1 : ObjOk X.prog X.w H1 s1.heap p (exH p C (some dd)) := I1.hok p _ ep
    obtain ⟨⟨oe, vs, z1, z2, z3⟩, _⟩ := y1
    have y2 : ObjOk X.prog X.w H1 s1.heap dd (.xd gs) := I1.hok dd _ ed
    obtain ⟨mA, hns, hr⟩ := y2
    obtain ⟨od, ho, hl⟩ := lookIn_ns hns
    obtain ⟨u, hu, ru⟩ := RelO.some_of (v := v) (o := mA f) (by rw [← l]; exact hr f)
    have J : PySem.W.InstAt s1.heap p oe C (some od) := ⟨z1, z2.1, by unfold PySem.W.notCls; rw [z3] <;> rfl, by rw [z2.2]; exact ho⟩
    exact HandSPX.exc_get I1.kIn J T.ga T.gg T.exC (PySem.W.findObj_own T.hdC hno rfl (by rw [hl, hu])) (handed_of ru) ⟨v, H1, I1.tok _, ru, q1⟩
  · refine ha Hi H σ ok en _ fun x M1 v Hi1 H1 h1 s1 ok1 r1 => ?_
    obtain ⟨fs, w, rfl, hl, hp⟩ := h1
    cases r1 with
    | exc e1 e2 rf =>
      obtain ⟨v, hv, rv⟩ := rf.lookup hl
      exact ⟨_, _, _, v, rfl, ok1.im _ _ e1, ok1.im _ _ e2, hv, q _ _ _ Hi1 H1 hp s1 ok1 rv⟩
    | exc0 e1 => cases hl
end
end Ab
/-! Ab42: loops whose body may raise; slots and cells forgotten. -/
namespace Ab
open PySem PySem.Spec PyProof.Rows L2
section
variable {X : Cx} {Γ : Gam} {M : Mem} {k : AK} {ex : XG} {c : Expr} {pos : Pos} {sts : List Stmt} {st : Stmt}
/-! slots and cells may be forgotten -/
theorem ySs.mono {k' : AK} (h : ySs X sts Γ M k ex) (f1 : ∀ Γ M, k.nx Γ M → k'.nx Γ M) (f2 : ∀ d M, k.rt d M → k'.rt d M) (f3 : ∀ Γ M, k.bk Γ M → k'.bk Γ M) (f4 : ∀ Γ M, k.ct Γ M → k'.ct Γ M) : ySs X sts Γ M k' ex := fun W tk po Hi H σ ok en D q y =>
  h W tk po Hi H σ ok en D ⟨fun Γ M σ Hi' H' p => q.nx Γ M σ Hi' H' (f1 Γ M p), fun d M v Hi' H' p => q.rt d M v Hi' H' (f2 d M p), fun Γ M σ Hi' H' p => q.bk Γ M σ Hi' H' (f3 Γ M p), fun Γ M σ Hi' H' p => q.ct Γ M σ Hi' H' (f4 Γ M p)⟩ y
end
end Ab
/-! Ab74: try with several clauses `except C as n` -/
namespace Ab
open PySem PySem.Spec PyProof.Rows L2
/-- a clause: its class, the slot of its name, its suite -/
structure Cls3 where
  c : Value
  i : Nat
  suite : List Stmt
abbrev TSx := Addr → Addr → Option Addr → TS
/-- what the clauses wish of an exception, one after the other -/
def wVs (K : PySem.W.Frag) (Wout : WX) (D : Ends) : List (Cls3 × TSx) → WX
  | [] => Wout
  | (c, ts) :: r => fun cls d σ H => ∃ C b, cls = .ref C ∧ PySem.W.exmOne K cls c.c = some b ∧
      (b = true → ∀ a, H a = none → ts a C d { nx := fun σ' H' => D.nx (σ'.set c.i none) H', rt := D.rt, bk := fun σ' H' => D.bk (σ'.set c.i none) H', ct := fun σ' H' => D.ct (σ'.set c.i none) H' } (σ.set c.i (some (.ref a))) (upd H a (exH a C d))) ∧ (b = false → wVs K Wout D r cls d σ H)
inductive HdsV (X : Cx) : List ExceptHandler → List (Cls3 × TSx) → Prop
  | nil : HdsV X [] []
  | cons {x n : Str} {c : Cls3} {ts : TSx} {b0 : Stmt} {suite : List Stmt} {np pos' : Pos} {hds : List ExceptHandler} {l : List (Cls3 × TSx)} (hc : Names X x c.c) (hi : X.N[c.i]? = some n) (hln : X.env.kindOf n = some .local)
      (hsu : ∀ (a C : Addr) (d : Option Addr) (pn : List (Addr × Obj)), PSs (X.suite a pn) (b0 :: suite) (ts a C d)) (r : HdsV X hds l) :
      HdsV X (.ExceptHandler (some (.Name x np)) (some n) (b0 :: suite) pos' :: hds) ((c, ts) :: l)
section
variable {X : Cx} {body : List Stmt} {h0 : ExceptHandler} {hds : List ExceptHandler} {l : List (Cls3 × TSx)} {pos : Pos} {tb : WX → TS} {Wout : WX}
theorem ps_try_vs (hs : X.stack = X.env :: X.outer) (hf : X.env.frame = some X.env.locals) (hN : X.N.Nodup) (tk : Takes X Wout)
    (hb : ∀ (W : WX) (pn : List (Addr × Obj)) (xe : Value → Shared → Prop), Takes (X.tr pn xe) W → PassesOwn (model X.prog X.w) X.A X.env xe → PSs (X.tr pn xe) body (tb W)) (hh : HdsV X (h0 :: hds) l) :
    PS X (.Try body (h0 :: hds) [] [] pos) (fun D σ H => tb (wVs X.K Wout D l) D σ H) := by
  refine ⟨fun pins s σ H D I h => wpAny_Try_except ?_⟩
  have ok := I.ok
  have hfr : X.A.frames = some (X.env :: X.outer) := by rw [ok.frames, hs]
  refine wpAny_mono ((hb (wVs X.K Wout D l) (X.pn ++ pins) (fun e z1 => wpAny (model X.prog X.w) X.A (noteFrame e X.env) (fun _ z2 => wpAny (model X.prog X.w) X.A (setFlight e none) (fun _ z3 =>
    wpAny (model X.prog X.w) X.A (handleBy e X.env (h0 :: hds)) (SP X pins D) X.xe z3) X.xe z2) X.xe z1) (fun u s' xx => ?_) PassesOwn.looking).run [] s σ H D (I.toTry _) h) (fun f s1 hsp => ?_) (fun _ _ z => z)
  · obtain ⟨a, B, sI, pins', σ1, H1, cls, d, rfl, J', nb, up, sky, na, os, ag, wish⟩ := xx
    have J : Inv X pins σ1 H1 sI := J'.ofTry ok
    show wpAny (model X.prog X.w) X.A (noteFrame (.ref a) X.env) _ _ _
    refine Sky.land Zc.steady hfr hf (show Sky B (X.env :: X.outer) a (Zc cls d) X.env.locals s'.heap by rw [← hs]; exact sky) fun h3 fl3 up3 => ?_
    have J3 : Inv X pins σ1 H1 { s' with heap := h3 } := J.landed nb fl3.1 (up.trans up3) os ag
    obtain ⟨oe3, vs3, he3, hz3, hd3⟩ := fl3.there
    have nfr : a ∉ frs (X.env :: X.outer) := fun hm => by
      obtain ⟨_, o', z1, z2⟩ := fl3.2.2.1.mem hm
      rw [he3] at z1
      cases z1
      exact z2 _ hd3
    have sn : sI.heap.get? a = none := by
      cases z : sI.heap.get? a with
      | none => rfl
      | some o =>
        have y := nb a o z (by rw [hs]; exact nfr)
        rw [fl3.2.1] at y
        cases y
    have nL : a ≠ X.env.locals := fun z => nfr (List.mem_filterMap.mpr ⟨X.env, List.mem_cons_self, by rw [hf, z]⟩)
    have nF : a ∉ X.fs := fun hm => by
      obtain ⟨e, z1, z2⟩ := List.mem_filterMap.mp hm
      exact nfr (List.mem_filterMap.mpr ⟨e, List.mem_cons_of_mem _ z1, z2⟩)
    have S3 := J3.suite he3 hd3 na nL nF
    have each : ∀ {hs2 : List ExceptHandler} {l2 : List (Cls3 × TSx)}, HdsV X hs2 l2 → wVs X.K Wout D l2 cls d σ1 H1 → wpAny (model X.prog X.w) X.A (handleBy (.ref a) X.env hs2) (SP X pins D) X.xe { s' with heap := h3 } := by
      intro hs2 l2 hk
      induction hk with
      | nil =>
        intro w
        refine wpAny_handleBy_nil ?_
        obtain ⟨k1, k2, k3, oe, vs, T, oT, t2, w1, w2, w3, w4, w5⟩ := id fl3
        unfold PySem.passOn
        refine wpAny_bind (wpAny_field w1 w3 w4 ?_)
        rw [if_neg (show ¬ ((Value.ref T == Value.none) = true) from by simp)]
        have fin : wpAny (model X.prog X.w) X.A (setFlight (.ref a) X.env.frame) (fun _ s4 => wpAny (model X.prog X.w) X.A (throw (.ref a) : Sem Flow) (SP X pins D) X.xe s4) X.xe { s' with heap := h3 } := by
          rw [hf]
          refine HandSPX.setFlight_upZ fl3 fun h4 hh4 up4 => wpAny_throw (tk _ _ ?_)
          exact ⟨a, B, sI, pins, σ1, H1, cls, d, rfl, J, nb, (up.trans up3).trans up4, .inr (.inr (by rw [hs]; exact hh4)), na, os, ag, w⟩
        first
          | exact wpAny_bind (wpAny_pure (wpAny_bind fin))
          | exact wpAny_bind fin
      | @cons x n c ts b0 suite np pos' hds3 l3 hc hi hln hsu r ih =>
        intro w
        obtain ⟨C, b, rfl, hb1, hyes, hno⟩ := w
        have hloc : Loc X.env.scope n := .inl hln
        refine wpAny_handleBy_cons (codeAny_handlers_test ?_) (by intro q; cases q)
        have LT : PySem.W.Looks (model X.prog X.w) h3 (typeOf (.ref a)) (.ref C) := fun A Q E s k q => wpAny_typeOf_ref (k _ _ he3) (by rw [hz3.1]; exact q)
        have test : ∀ {Q : Value → Shared → Prop} {E : Value → Shared → Prop}, Q c.c { s' with heap := h3 } → wpAny (model X.prog X.w) (X.A.mark (some (.ref a))) (eval (.Name x np) X.env) Q E { s' with heap := h3 } := fun {Q E} q => by
          obtain ⟨hg, hdbg, hm | ⟨hm, hv, hnn⟩⟩ := hc
          · exact ld_glob (X := X.suite a ((a, oe3) :: (X.pn ++ pins))) S3 hg hm q hdbg
          · exact ld_blt (X := X.suite a ((a, oe3) :: (X.pn ++ pins))) S3 hg hm hv q hnn hdbg
        refine test ((PySem.W.exm_one (M := model X.prog X.w) J3.kIn LT hb1).here ?_)
        cases b with
        | false => exact ih (hno rfl)
        | true =>
          refine codeAny_handlers_suite_as (HandSPX.lands_againZ fl3 fun h4 fl4 up4 => ?_)
          obtain ⟨oe4, vs4, he4, hz4, hd4⟩ := fl4.there
          have J4 : Inv X pins σ1 (upd H1 a (exH a C d)) { s' with heap := h4 } := Inv_landV (s' := { s' with heap := h4 }) J nb fl4.1 ((up.trans up3).trans up4) os ag he4 hz4 hd4 na sn
          refine store_ok (X := X.suite a (X.pn ++ pins)) (v := .ref a) (Inv_inS J4 a) hN hi hloc rfl (fun s5 S5 => ?_) (.inr hln)
          refine wpAny_mono ((hsu a C d (X.pn ++ pins)).run [] s5 _ _ _ S5 (hyes rfl a na)) (fun f s6 hsp => ?_) (fun _ _ z => False.elim z)
          have fin : ∀ {σ6 : L2.St} {H6 : Hp} {Q : Shared → Prop}, Inv (X.suite a (X.pn ++ pins)) [] σ6 H6 s6 → (∀ s7, Inv X pins (σ6.set c.i none) H6 s7 → Q s7) →
              wpAny (model X.prog X.w) X.A (do bindName X.env n .none; unbindBehindTheSuite X.env n pos') (fun _ s7 => Q s7) X.xe s6 := fun {σ6 H6 Q} S6 hq => gone_ok (Inv_outS S6 ok) hN hi hln hq
          cases f with
          | next =>
            obtain ⟨σ6, H6, S6, q6⟩ := hsp
            exact fin S6 fun s7 J7 => ⟨_, _, J7, q6⟩
          | brk =>
            obtain ⟨σ6, H6, S6, q6⟩ := hsp
            exact fin S6 fun s7 J7 => ⟨_, _, J7, q6⟩
          | cont =>
            obtain ⟨σ6, H6, S6, q6⟩ := hsp
            exact fin S6 fun s7 J7 => ⟨_, _, J7, q6⟩
          | ret u =>
            obtain ⟨v6, σ6, H6, S6, r6, q6⟩ := hsp
            exact fin S6 fun s7 J7 => ⟨_, _, _, J7, r6, q6⟩
    exact each hh wish
  · cases f with
    | next =>
      obtain ⟨σ1, H1, J', q⟩ := hsp
      exact wpAny_execs_nil ⟨σ1, H1, J'.ofTry ok, q⟩
    | brk =>
      obtain ⟨σ1, H1, J', q⟩ := hsp
      exact ⟨σ1, H1, J'.ofTry ok, q⟩
    | cont =>
      obtain ⟨σ1, H1, J', q⟩ := hsp
      exact ⟨σ1, H1, J'.ofTry ok, q⟩
    | ret u =>
      obtain ⟨v, σ1, H1, J', r, q⟩ := hsp
      exact ⟨v, σ1, H1, J'.ofTry ok, r, q⟩
end
/-! ### the same over values -/
/-- what the clauses wish: the first that fits -/
def exTs (X : Cx) (k : AK) (ex : XG) : List Cls3 → XG
  | [] => ex
  | c :: r => fun Γ C fs M => ∃ b, PySem.W.exmOne X.K (.ref C) c.c = some b ∧
      (b = true → ∀ a pn, aSs (X.suite a pn) c.suite (Γ.set c.i (some (.exc C fs))) M { nx := fun Γ' M' => k.nx (Γ'.set c.i none) M', rt := k.rt, bk := fun Γ' M' => k.bk (Γ'.set c.i none) M', ct := fun Γ' M' => k.ct (Γ'.set c.i none) M' }) ∧ (b = false → exTs X k ex r Γ C fs M)
inductive HdsW (X : Cx) : List ExceptHandler → List Cls3 → Prop
  | nil : HdsW X [] []
  | cons {x n : Str} {c : Value} {i : Nat} {b0 : Stmt} {suite : List Stmt} {np pos' : Pos} {hds : List ExceptHandler} {l : List Cls3} (hc : Names X x c) (hi : X.N[i]? = some n) (hln : X.env.kindOf n = some .local) (r : HdsW X hds l) :
      HdsW X (.ExceptHandler (some (.Name x np)) (some n) (b0 :: suite) pos' :: hds) (⟨c, i, b0 :: suite⟩ :: l)
abbrev tsV (X : Cx) (c : Cls3) : TSx := fun a C d D1 σ1 H1 => ∀ pn, WB (X.suite a pn) c.suite D1 σ1 H1
theorem HdsW.v {X : Cx} {hds : List ExceptHandler} {l : List Cls3} (h : HdsW X hds l) : HdsV X hds (l.map fun c => (c, tsV X c)) := by
  induction h with
  | nil => exact .nil
  | cons hc hi hln r ih => exact .cons hc hi hln (fun a C d pn => ⟨fun pins s σ1 H1 D1 I1 h1 => pss_wb.run pins s σ1 H1 D1 I1 (h1 pn)⟩) ih
section
variable {X : Cx} {Γ : Gam} {M : Mem} {k : AK} {ex : XG} {body : List Stmt} {h0 : ExceptHandler} {hds : List ExceptHandler} {l : List Cls3} {pos : Pos}
theorem try_cores (hN : X.N.Nodup) (hh : HdsW X (h0 :: hds) l) {W : WX} (tk : Takes X W) (hb : ∀ pn xe, Po (X.tr pn xe) → ySs (X.tr pn xe) body Γ M k (exTs X k ex l)) {Hi H : Hp} {σ : L2.St} (ok : Ok X.K Hi M H) (en : EnvR X.K Hi Γ σ) {D : Ends} (q : Real X.K Hi k D) (y : XReal X.K Hi ex W)
    (hs : X.stack = X.env :: X.outer) (hf : X.env.frame = some X.env.locals) : WS X (.Try body (h0 :: hds) [] [] pos) D σ H := by
  refine ⟨_, ps_try_vs (tb := fun W1 D1 σ1 H1 => ∀ pn xe, Takes (X.tr pn xe) W1 → PassesOwn (model X.prog X.w) X.A X.env xe → WB (X.tr pn xe) body D1 σ1 H1) hs hf hN tk (fun W1 pn xe t1 p1 => ⟨fun pins s σ1 H1 D1 I1 h1 => pss_wb.run pins s σ1 H1 D1 I1 (h1 pn xe t1 p1)⟩) hh.v, fun pn xe t1 p1 => ?_⟩
  refine hb pn xe p1 _ t1 p1 Hi H σ ok en D q fun Γ1 C fs M1 σ1 Hi1 H1 cls d h1 s1 ok1 en1 r1 => ?_
  have ec := r1.1
  subst ec
  have go : ∀ l2 : List Cls3, exTs X k ex l2 Γ1 C fs M1 → wVs X.K W D (l2.map fun c => (c, tsV X c)) (.ref C) d σ1 H1 := by
    intro l2
    induction l2 with
    | nil => exact fun h1 => y Γ1 C fs M1 σ1 Hi1 H1 _ d h1 s1 ok1 en1 r1
    | cons c r ih =>
      rintro ⟨b, hb1, hyes, hno⟩
      refine ⟨C, b, rfl, hb1, fun hbt a na pn2 => ?_, fun hbf => ih (hno hbf)⟩
      have ni : Hi1 a = none := Ok.none ok1 na
      have s2 := same_upd (o := exH a C d) ni
      have q2 := q.up (s1.trans s2)
      exact hyes hbt a pn2 (upd Hi1 a (exH a C d)) _ _ (ok1.imm na) ((en1.mono s2).set (xrep_rep r1 ni)) _ ⟨fun Γ3 M3 σ3 Hi3 H3 h3 s3 ok3 en3 => q2.nx _ _ _ Hi3 H3 h3 s3 ok3 (env_none c.i en3), fun d3 M3 v3 Hi3 H3 h3 s3 ok3 r3 => q2.rt _ _ _ Hi3 H3 h3 s3 ok3 r3,
        fun Γ3 M3 σ3 Hi3 H3 h3 s3 ok3 en3 => q2.bk _ _ _ Hi3 H3 h3 s3 ok3 (env_none c.i en3), fun Γ3 M3 σ3 Hi3 H3 h3 s3 ok3 en3 => q2.ct _ _ _ Hi3 H3 h3 s3 ok3 (env_none c.i en3)⟩
  exact go l h1
/-- try with clauses; nothing else leaves -/
theorem as_trys (hN : X.N.Nodup) (hh : HdsW X (h0 :: hds) l) (hb : ∀ pn xe, Po (X.tr pn xe) → ySs (X.tr pn xe) body Γ M k (exTs X k (fun _ _ _ _ => False) l))
    (hs : X.stack = X.env :: X.outer := by rfl) (hf : X.env.frame = some X.env.locals := by rfl) : aS X (.Try body (h0 :: hds) [] [] pos) Γ M k := fun Hi H σ ok en D q =>
  try_cores hN hh takes_none5 hb ok en q (fun _ _ _ _ _ _ _ _ _ z => z.elim) hs hf
end
end Ab
/-! Ab43: defs that may raise, with defaults or keywords. -/
namespace Ab
open PySem PySem.Spec PyProof.Rows L2
end Ab
/-! Ab44: repr of a number, a truth value, None, a text -/
namespace Ab
open PySem PySem.Spec PyProof.Rows L2
end Ab
/-! Ab45: classmethods (with keywords), making an instance through a local name, zip, not in, isinstance of several classes, constants of a class -/
namespace Ab
open PySem PySem.Spec PyProof.Rows L2
/-! ### classmethods -/
end Ab
/-! Ab75: x(*y, k=e) where x is a local name that holds a class; t * 1; tuple(range(a, b)); a def that may raise but does not -/
namespace Ab
open PySem PySem.Spec PyProof.Rows L2
section
variable {P : Program} {w : World} {K : PySem.W.Frag} {mg : Str → Option Value} {base : Heap} {f : Addr}
theorem FnE.toX {k : Nat} {ks : List Str} {sx : ASxe} (F : FnE P w K mg base k f ks (spE K sx)) : FnX P w K mg base k f ks (spX K fun ds es M R => sx ds es M R fun _ _ _ => False) :=
  ⟨fun A outer s H us ws vs zs Q hr e0 r rz hz ⟨Hi, M, ds, es, R, ra, re, ok, h, q⟩ => codeAny_mono (F.run A outer s H us ws vs zs Q (fun _ _ _ => False) hr e0 r rz hz ⟨Hi, M, ds, es, R, fun _ _ _ => False, ra, re, ok, h, q, fun _ _ _ _ _ _ _ z => z.elim⟩) fun r s' h => by
    cases r with
    | error e =>
      obtain ⟨a, B, H', cls, d, ea, fl, hok, ub, na, os, ag, he⟩ := h
      exact he.elim
    | ok fl =>
      cases fl <;> exact h⟩
end
/-! ### t * 1 -/
end Ab
/-! Ab76: == and != of instances that stand in boxes; Name(*y, k=e); a box behind which new cells are left -/
namespace Ab
open PySem PySem.Spec PyProof.Rows L2
end Ab
/-! Ab46: isinstance(x, (C1, C2)) -/
namespace Ab
open PySem PySem.Spec PyProof.Rows L2
end Ab
/-! repr of great ints (up to 12900 binary digits), alone and within lists and tuples -/
namespace Ab
open PySem PySem.Spec PyProof.Rows L2 PySem.Builtin
section
variable {prog : Program} {w : World} {A : Around} {E : Value → Shared → Prop} {s : Shared} {h₀ : Heap}
def Tells (prog : Program) (w : World) (h₀ : Heap) (v : Value) (p : PyData) : Prop := ∃ bs, ReadAtMost h₀ p.depth bs ∧ ReprK prog w bs h₀ p.depth v p.shown
theorem Tells.of {v : Value} {p : PyData} (h : ReprK prog w [] h₀ p.depth v p.shown) : Tells prog w h₀ v p := ⟨[], (fun _ z => nomatch z), h⟩
end
/-! ### on values -/
end Ab
/-! a run that cannot wake the generators that slept when it began leaves them as they are -/
namespace Ab
open PySem PySem.Spec PyProof.Rows L2 GenW
/-- what stands at a place of the two tables: in the run whose sleepers cannot be woken, in the run itself -/
inductive Tw : GenState → GenState → Prop
  | same {x : GenState} (h : ∀ k l c p fs cl, x = .suspended k l c p fs cl → splitAtGen fs = none) : Tw x x
  | slept {k : Resume → Sem PySem.Fin} {l : List Value} {c : Code} {p : Pos} {fs : List Frame} {cl : Bool} : Tw (.suspended (fun _ => .unsupported "slept") l c p fs cl) (.suspended k l c p fs cl)
def GTw (a b : Array GenState) : Prop := a.size = b.size ∧ ∀ (i : Nat) x y, a[i]? = some x → b[i]? = some y → Tw x y
def Sl (x : GenState) : Prop := ∃ l c p fs cl, x = .suspended (fun _ => .unsupported "slept") l c p fs cl
def Stay (a b a' b' : Array GenState) : Prop := ∀ (i : Nat) x, a[i]? = some x → Sl x → a'[i]? = some x ∧ b'[i]? = b[i]?
theorem Stay.refl (a b : Array GenState) : Stay a b a b := fun i x h _ => ⟨h, rfl⟩
theorem Stay.trans {a b a1 b1 a2 b2 : Array GenState} (h : Stay a b a1 b1) (h2 : Stay a1 b1 a2 b2) : Stay a b a2 b2 := fun i x e z => by
  obtain ⟨e1, e2⟩ := h i x e z
  obtain ⟨e3, e4⟩ := h2 i x e1 z
  exact ⟨e3, e4.trans e2⟩
theorem Tw.bare {x y : GenState} (h : Tw x y) : x.bare = y.bare := by
  cases h with
  | same => rfl
  | slept => rfl
theorem GTw.get {a b : Array GenState} (h : GTw a b) {i : Nat} {x : GenState} (e : a[i]? = some x) : ∃ y, b[i]? = some y ∧ Tw x y := by
  obtain ⟨hi, _⟩ := Array.getElem?_eq_some_iff.mp e
  have hi' : i < b.size := h.1 ▸ hi
  exact ⟨b[i], Array.getElem?_eq_getElem hi', h.2 i x _ e (Array.getElem?_eq_getElem hi')⟩
theorem GTw.set {a b : Array GenState} (h : GTw a b) (g : Nat) {x : GenState} (hx : ∀ k l c p fs cl, x = .suspended k l c p fs cl → splitAtGen fs = none) : GTw (a.setIfInBounds g x) (b.setIfInBounds g x) := by
  refine ⟨by rw [Array.size_setIfInBounds, Array.size_setIfInBounds]; exact h.1, fun i u v hu hv => ?_⟩
  rw [Array.getElem?_setIfInBounds] at hu hv
  by_cases e : g = i
  · subst e
    rw [if_pos rfl] at hu hv
    by_cases hl : g < a.size
    · rw [if_pos hl] at hu
      rw [if_pos (h.1 ▸ hl)] at hv
      cases hu
      cases hv
      exact .same hx
    · rw [if_neg hl] at hu
      cases hu
  · rw [if_neg e] at hu hv
    exact h.2 i u v hu hv
theorem GTw.push {a b : Array GenState} (h : GTw a b) (c : Code) : GTw (a.push (.fresh c)) (b.push (.fresh c)) := by
  refine ⟨by rw [Array.size_push, Array.size_push, h.1], fun i u v hu hv => ?_⟩
  rw [Array.getElem?_push] at hu hv
  by_cases e : i = a.size
  · rw [if_pos e] at hu
    rw [if_pos (e.trans h.1)] at hv
    cases hu
    cases hv
    exact .same fun _ _ _ _ _ _ z => nomatch z
  · rw [if_neg e] at hu
    rw [if_neg (fun z => e (z.trans h.1.symm))] at hv
    exact h.2 i u v hu hv
end Ab
/-! generators: the heap cut, objects that stand by while one sleeps -/
namespace Ab
open PySem PySem.Spec PyProof.Rows L2 GenW
/-- the first B objects -/
def cutH (B : Nat) (h : Heap) : Heap := ⟨(h.objs.toList.take B).toArray, h.life⟩
def cutS (B : Nat) (s : Shared) : Shared := { s with heap := cutH B s.heap }
/-! ### what stands by -/
abbrev Own := List (Addr × Obj)
section
variable {ow : Own} {H H' Hi Hi' : Hp} {b : Addr} {o : Obj} {x : HO}
/-- a raw thing is no exception -/
theorem raw_exc {C : Addr} {d : Option Addr} {o : Obj} : rawH b o ≠ exH b C d := fun e => by
  unfold rawH exH at e
  have e1 := HO.ext.inj e
  let o1 : Obj := { cls := .ref C, dict := d, data := .fields #[], slots := #[] }
  let o2 : Obj := { cls := .ref C, dict := d, data := .fields #[.none], slots := #[] }
  have go : ∀ (u : Obj) (vs : Array Value), u.data = .fields vs → Zc (.ref C) d u → u = o := fun u vs hd hz => by
    have hp : ∃ h : Heap, h.get? b = some u := by
      refine ⟨⟨Array.replicate (b + 1) u, {}⟩, ?_⟩
      unfold Heap.get?
      simp only [Array.getElem?_replicate, Nat.lt_succ_self, if_true]
      obtain ⟨c, dd, dt, sl⟩ := u
      have hd : dt = .fields vs := hd
      subst hd
      rfl
    obtain ⟨h, hh⟩ := hp
    have := congrFun e1 h
    have h2 : h.get? b = some o := this.mpr ⟨u, vs, hh, hz, hd⟩
    rw [hh] at h2
    cases h2
    rfl
  have e2 := go o1 #[] rfl ⟨rfl, rfl⟩
  have e3 := go o2 #[.none] rfl ⟨rfl, rfl⟩
  have e4 : o1 = o2 := e2.trans e3.symm
  have e5 := congrArg Obj.data e4
  cases e5
/-- nor a code object -/
theorem raw_code {q : Str} {o : Obj} : rawH b o ≠ LamX.CodeO b q := fun e => by
  unfold rawH LamX.CodeO at e
  have e1 := HO.ext.inj e
  let o1 : Obj := { cls := .none, dict := none, data := .fields #[.none, .str q 0], slots := #[] }
  let o2 : Obj := { cls := .none, dict := none, data := .fields #[.none, .str q 1], slots := #[] }
  have go : ∀ (u : Obj) (vs : Array Value) (tk : Tok), u.data = .fields vs → vs[1]? = some (.str q tk) → u = o := fun u vs tk hd hz => by
    have hp : ∃ h : Heap, h.get? b = some u := by
      refine ⟨⟨Array.replicate (b + 1) u, {}⟩, ?_⟩
      unfold Heap.get?
      simp only [Array.getElem?_replicate, Nat.lt_succ_self, if_true]
      obtain ⟨c, dd, dt, sl⟩ := u
      have hd : dt = .fields vs := hd
      subst hd
      rfl
    obtain ⟨h, hh⟩ := hp
    have := congrFun e1 h
    have h2 : h.get? b = some o := this.mpr ⟨u, vs, tk, hh, hd, hz⟩
    rw [hh] at h2
    cases h2
    rfl
  have e2 := go o1 #[.none, .str q 0] 0 rfl rfl
  have e3 := go o2 #[.none, .str q 1] 1 rfl rfl
  have e4 : o1 = o2 := e2.trans e3.symm
  have e5 := congrArg Obj.data e4
  simp [o1, o2] at e5
theorem Kp.sqL {K : PySem.W.Frag} {a : Addr} {xs : List V} (e : Kp H H') (h : SqL K H a xs) : SqL K H' a xs := by
  rcases h with (h | ⟨o, h⟩) | h
  · exact .inl (.inl (e _ _ h fun o z => by cases z))
  · exact .inl (.inr ⟨o, e _ _ h fun o z => by cases z⟩)
  · exact .inr h
theorem Kp.sqT {K : PySem.W.Frag} {a : Addr} {xs : List V} (e : Kp H H') (h : SqT K H a xs) : SqT K H' a xs := by
  rcases h with (h | ⟨o, h⟩) | h
  · exact .inl (.inl (e _ _ h fun o z => by cases z))
  · exact .inl (.inr ⟨o, e _ _ h fun o z => by cases z⟩)
  · exact .inr h
end
mutual
theorem Rep.kp {K : PySem.W.Frag} {H H' : Hp} (e : Kp H H') : ∀ {d : Val} {v : V}, Rep K H d v → Rep K H' d v
  | _, _, .non => .non
  | _, _, .bl b => .bl b
  | _, _, .int i => .int i
  | _, _, .str x => .str x
  | _, _, .ty n => .ty n
  | _, _, .ptr a => .ptr a
  | _, _, .lst h r => .lst (e.sqL h) (RepA.kp e r)
  | _, _, .tup h r => .tup (e.sqT h) (RepA.kp e r)
  | _, _, .obj h r => .obj (e _ _ h fun o z => by cases z) (RepF.kp e r)
  | _, _, .exc h d r => .exc (e _ _ h fun o z => raw_exc z.symm) (e _ _ d fun o z => by cases z) (RepF.kp e r)
  | _, _, .exc0 h => .exc0 (e _ _ h fun o z => raw_exc z.symm)
  | _, _, .lam h => .lam (h.trans e)
theorem RepA.kp {K : PySem.W.Frag} {H H' : Hp} (e : Kp H H') : ∀ {ds : List Val} {vs : List V}, RepA K H ds vs → RepA K H' ds vs
  | _, _, .nil => .nil
  | _, _, .cons a r => .cons (Rep.kp e a) (RepA.kp e r)
theorem RepF.kp {K : PySem.W.Frag} {H H' : Hp} (e : Kp H H') : ∀ {ds : List (Str × Val)} {vs : List (Str × V)}, RepF K H ds vs → RepF K H' ds vs
  | _, _, .nil => .nil
  | _, _, .cons a r => .cons (Rep.kp e a) (RepF.kp e r)
end
theorem RepK.kp {K : PySem.W.Frag} {H H' : Hp} (e : Kp H H') : ∀ {ds : List (Key × Val)} {vs : List (Key × V)}, RepK K H ds vs → RepK K H' ds vs
  | _, _, .nil => .nil
  | _, _, .cons a r => .cons (a.kp e) (RepK.kp e r)
theorem RepC.kp {K : PySem.W.Frag} {H H' : Hp} (e : Kp H H') : ∀ {c : Cell0} {o : HO}, RepC K H c o → RepC K H' c o
  | .lst _, _, ⟨xs, h, r⟩ => ⟨xs, h, r.kp e⟩
  | .dk _, _, ⟨kvs, h, r⟩ => ⟨kvs, h, r.kp e⟩
  | .ins _ _, _, ⟨dx, fs, h, r⟩ => ⟨dx, fs, h, r.kp e⟩
  | .fz _ _ _, _, ⟨h, r⟩ => ⟨h, r.kp e⟩
  | .tb _, _, ⟨ps, h, t, r⟩ => ⟨ps, h, t, fun pos cv hc => let ⟨c, h1, h2⟩ := r pos cv hc; ⟨c, h1, e _ _ h2 fun o z => raw_code z.symm⟩⟩
theorem EnvR.kp {K : PySem.W.Frag} {H H' : Hp} {Γ : Gam} {σ : L2.St} (e : Kp H H') (h : EnvR K H Γ σ) : EnvR K H' Γ σ := ⟨h.1, fun i d q => let ⟨v, h1, h2⟩ := h.2 i d q; ⟨v, h1, h2.kp e⟩⟩
end Ab
/-! generators: the contract, statements of a generator's body -/
namespace Ab
open PySem PySem.Spec PyProof.Rows L2 GenW
/-- what is wanted of a wake: an item and where the generator then stands, or its end; the cells then -/
abbrev Hnd (τ : Type) := Option (Val × τ) → Mem → Prop
/-- a wake: where the generator stands, the abstract heap and the cells then, what is wanted, what must stay as it is -/
structure Wkg (τ : Type) where
  x : τ
  Hi : Hp
  H : Hp
  M : Mem
  R : Hnd τ
  pn : List (Addr × Obj)
/-- a generator: Tr: what a wake does; Th: when its consumer wakes it -/
structure GX (τ : Type) where
  P : Program
  w : World
  K : PySem.W.Frag
  mg : Str → Option Value
  base : Heap
  N : List Str
  qual : Str
  sc : Scope
  f : Addr
  cdv : Value
  A : Around
  outer : List Env
  B : Nat
  gp : Addr × Obj
  Tr : τ → Mem → Hnd τ → Prop
  Th : Nat → Wkg τ → Shared → Prop
/-- the context of a generator's body since a wake -/
abbrev gcx (P : Program) (w : World) (K : PySem.W.Frag) (mg : Str → Option Value) (base : Heap) (N : List Str) (qual : Str) (sc : Scope) (f : Addr) (cdv : Value) (A : Around) (outer : List Env) (B : Nat) (pn : List (Addr × Obj)) (H : Hp) (s : Shared) : Cx :=
  { prog := P, w := w, K := K, mg := mg, base := base, A := A.deeper (envOfC qual sc B f cdv), N := N, s_0 := cutS B s, H_0 := H, env := envOfC qual sc B f cdv, outer := outer, stack := envOfC qual sc B f cdv :: outer,
    ex := [], fn := fun _ => true, calm := true, pn := pn, xe := fun _ _ => False }
section
variable {τ : Type}
abbrev GX.env (G : GX τ) : Env := envOfC G.qual G.sc G.B G.f G.cdv
abbrev GX.cx (G : GX τ) (H : Hp) (s : Shared) (pn : List (Addr × Obj)) : Cx := gcx G.P G.w G.K G.mg G.base G.N G.qual G.sc G.f G.cdv G.A G.outer G.B (G.gp :: pn) H s
/-- what is true of it through its life -/
structure GOk (G : GX τ) : Prop where
  mod : Mod G.K G.mg G.base
  kind : G.sc.kind = .function
  co : G.sc.isCoroutine = false
  inj : ∀ x y c, G.env.cells.lookup x = some c → G.env.cells.lookup y = some c → x = y
  has : ∀ x, (G.env.kindOf x = some .cell ∨ G.env.kindOf x = some .free) → ∃ c, G.env.cells.lookup x = some c
  cab : ∀ x c, G.env.cells.lookup x = some c → G.B < c
  hd : G.A.handled = none
  frames : G.A.frames = some G.outer
  bsz : G.base.objs.size ≤ G.B
  sml : ∀ b ∈ frs G.outer, b < G.B
  gpB : G.B < G.gp.1
  gpd : ∀ v, G.gp.2.data ≠ .cell v
  gpc : ∀ x c, G.env.cells.lookup x = some c → c ≠ G.gp.1
structure PinOk (G : GX τ) (H : Hp) (s : Shared) (p : Addr × Obj) : Prop where
  at_ : s.heap.get? p.1 = some p.2
  no : H p.1 = none
  loc : p.1 ≠ G.B
  fr : p.1 ∉ frs G.outer
  nc : ∀ v, p.2.data ≠ .cell v
/-- the state at a wake -/
structure Woke (G : GX τ) (n : Nat) (W : Wkg τ) (s : Shared) : Prop where
  th : G.Th n W s
  pos : 0 < n
  tr : G.Tr W.x W.M W.R
  ok : Ok G.K W.Hi W.M W.H
  le : G.B ≤ s.heap.objs.size
  bs : ∀ b o, G.base.get? b = some o → s.heap.get? b = some o ∧ W.H b = none
  funs : s.heap.FunFrames G.base G.outer
  frf : ∀ b ∈ frs G.outer, W.H b = none
  hok : HOk G.P G.w W.H s.heap
  bare : AllBare s.gens
  pn : ∀ p ∈ W.pn, PinOk G W.H s p
/-- what a run since a wake leaves -/
structure Seen (G : GX τ) (W : Wkg τ) (s₀ : Shared) (Hi H : Hp) (M : Mem) (s : Shared) : Prop where
  os : s.os = s₀.os
  bare : AllBare s.gens
  un : Un (frs G.outer) [] W.H H (cutH G.B s₀.heap) s.heap
  hok : HOk G.P G.w H s.heap
  pn : ∀ p ∈ G.gp :: W.pn, s.heap.get? p.1 = some p.2 ∧ H p.1 = none
  sm : Same W.Hi Hi
  ok : Ok G.K Hi M H
/-- what stands by -/
structure OwOk (G : GX τ) (ow : Own) (H : Hp) (s : Shared) : Prop where
  at_ : ∀ p ∈ ow, s.heap.get? p.1 = some p.2
  no : ∀ p ∈ ow, H p.1 = none
  ab : ∀ p ∈ ow, G.B ≤ p.1
  gp : G.gp ∈ ow
/-- the protocol -/
def YG (G : GX τ) : Protocol := fun n s₀ v s kap => ∃ (W : Wkg τ) (d : Val) (x' : τ) (vv : V) (M : Mem) (Hi H : Hp) (ow : Own), G.Th (n + 1) W s₀ ∧ W.R (some (d, x')) M ∧ RelV vv v ∧ Rep G.K Hi d vv ∧ Seen G W s₀ Hi H M s ∧ OwOk G ow H s ∧ (∀ p ∈ W.pn, ∀ q ∈ ow, p.1 ≠ q.1) ∧
  ∀ (W' : Wkg τ) (s' : Shared), Woke G n W' s' → W'.x = x' → Same Hi W'.Hi → OwOk G ow W'.H s' → (∀ p ∈ W'.pn, ∀ q ∈ ow, p.1 ≠ q.1) → kap (.send .none) s'
def EG (G : GX τ) (n : Nat) (s₀ s : Shared) : Prop := ∃ (W : Wkg τ) (M : Mem) (Hi H : Hp), G.Th n W s₀ ∧ W.R none M ∧ Seen G W s₀ Hi H M s
abbrev RG (G : GX τ) : GenEnd := fun n s₀ r s => ((r = .ok (.ret .none) ∨ r = .ok .next) ∧ EG G n s₀ s) ∨ ∃ e, r = .error e ∧ False
/-- what is wanted behind a statement of a generator: the wakes left, the wish, slots, cells -/
structure KG (τ : Type) where
  nx : Nat → Hnd τ → Gam → Mem → Prop
  rt : Nat → Hnd τ → Val → Mem → Prop
  bk : Nat → Hnd τ → Gam → Mem → Prop := fun _ _ _ _ => False
  ct : Nat → Hnd τ → Gam → Mem → Prop := fun _ _ _ _ => False
def KG.at (k : KG τ) (n : Nat) (R : Hnd τ) : AK := { nx := k.nx n R, rt := k.rt n R, bk := k.bk n R, ct := k.ct n R }
/-- where the generator's code stands -/
structure GCt (G : GX τ) (ip : List (Addr × Obj)) (c : Code) (fs : List Frame) (gd : Bool → Bool) : Prop where
  over : G.A.over c fs = G.A.deeper G.env
  split : splitAtGen fs = none
  guard : fs.any Frame.guarded = false
  gd : gd false = false
  ip : ∀ p ∈ ip, G.B ≤ p.1
abbrev SegG (G : GX τ) (n : Nat) (s₀ : Shared) (c : Code) (t : Sem PySem.Fin) (fs : List Frame) (s : Shared) : Prop := Seg (model G.P G.w) G.A (RG G) (YG G) n s₀ c t fs s
/-- the state amid a run since a wake -/
structure GIv (G : GX τ) (ip : List (Addr × Obj)) (n : Nat) (W : Wkg τ) (s₀ s : Shared) (σ : L2.St) (H Hi : Hp) (M : Mem) : Prop where
  th : G.Th n W s₀
  sm : Same W.Hi Hi
  inv : Inv (G.cx W.H s₀ W.pn) ip σ H s
  ok : Ok G.K Hi M H
  ap : ∀ p ∈ W.pn, ∀ q ∈ ip, p.1 ≠ q.1
  le : G.B ≤ s₀.heap.objs.size
  gpn : ∀ p ∈ W.pn, p.1 ≠ G.gp.1
structure GKo (G : GX τ) (ip : List (Addr × Obj)) (Hi0 : Hp) (c : Code) (fs : List Frame) (Kc : Flow → Sem PySem.Fin) (k : KG τ) : Prop where
  nx : ∀ n W s₀ s σ H Hi Γ M, GIv G ip n W s₀ s σ H Hi M → Same Hi0 Hi → EnvR G.K Hi Γ σ → k.nx n W.R Γ M → SegG G n s₀ c (Kc .next) fs s
  bk : ∀ n W s₀ s σ H Hi Γ M, GIv G ip n W s₀ s σ H Hi M → Same Hi0 Hi → EnvR G.K Hi Γ σ → k.bk n W.R Γ M → SegG G n s₀ c (Kc .brk) fs s
  ct : ∀ n W s₀ s σ H Hi Γ M, GIv G ip n W s₀ s σ H Hi M → Same Hi0 Hi → EnvR G.K Hi Γ σ → k.ct n W.R Γ M → SegG G n s₀ c (Kc .cont) fs s
  rt : ∀ n W s₀ s σ H Hi d v u M, GIv G ip n W s₀ s σ H Hi M → Same Hi0 Hi → Rep G.K Hi d v → RelV v u → k.rt n W.R d M → SegG G n s₀ c (Kc (.ret u)) fs s
def gS (G : GX τ) (st : Stmt) (n : Nat) (R : Hnd τ) (Γ : Gam) (M : Mem) (k : KG τ) : Prop := GOk G → ∀ ip W s₀ c fs Kc Jc gd lv s σ H Hi, GCt G ip c fs gd → GIv G ip n W s₀ s σ H Hi M → W.R = R → EnvR G.K Hi Γ σ →
  GKo G ip Hi c fs Kc k → SegG G n s₀ c ((exec st G.env).wrap Kc Jc gd lv) fs s
def gSs (G : GX τ) (st : List Stmt) (n : Nat) (R : Hnd τ) (Γ : Gam) (M : Mem) (k : KG τ) : Prop := GOk G → ∀ ip W s₀ c fs Kc Jc gd lv s σ H Hi, GCt G ip c fs gd → GIv G ip n W s₀ s σ H Hi M → W.R = R → EnvR G.K Hi Γ σ →
  GKo G ip Hi c fs Kc k → SegG G n s₀ c ((execs st G.env).wrap Kc Jc gd lv) fs s
end
section
variable {τ : Type} {G : GX τ} {st : Stmt} {sts rest : List Stmt} {n : Nat} {R : Hnd τ} {Γ : Gam} {M : Mem} {k : KG τ}
section
variable {ip : List (Addr × Obj)} {W : Wkg τ} {s₀ s : Shared} {σ : L2.St} {H Hi : Hp}
theorem GKo.up {Hi' : Hp} {c : Code} {fs : List Frame} {Kc : Flow → Sem PySem.Fin} (kk : GKo G ip Hi c fs Kc k) (sm : Same Hi Hi') : GKo G ip Hi' c fs Kc k :=
  ⟨fun n W s₀ s σ H Hi2 Γ M v s2 => kk.nx n W s₀ s σ H Hi2 Γ M v (sm.trans s2), fun n W s₀ s σ H Hi2 Γ M v s2 => kk.bk n W s₀ s σ H Hi2 Γ M v (sm.trans s2), fun n W s₀ s σ H Hi2 Γ M v s2 => kk.ct n W s₀ s σ H Hi2 Γ M v (sm.trans s2), fun n W s₀ s σ H Hi2 d v u M g s2 => kk.rt n W s₀ s σ H Hi2 d v u M g (sm.trans s2)⟩
theorem GIv.to (v : GIv G ip n W s₀ s σ H Hi M) {s' : Shared} {σ' : L2.St} {H' Hi' : Hp} {M' : Mem} (I : Inv (G.cx W.H s₀ W.pn) ip σ' H' s') (sm : Same Hi Hi') (ok : Ok G.K Hi' M' H') : GIv G ip n W s₀ s' σ' H' Hi' M' := ⟨v.th, v.sm.trans sm, I, ok, v.ap, v.le, v.gpn⟩
end
/-! ### while -/
end
end Ab
/-! generator defs: the call -/
namespace Ab
open PySem PySem.Spec PyProof.Rows L2 GenW
/-- a generator that has not begun; it stands at x -/
def GNew (P : Program) (w : World) (K : PySem.W.Frag) (mg : Str → Option Value) (base : Heap) (k : Nat) (outer : List Env) (B : Nat) {τ : Type} (Tr : τ → Mem → Hnd τ → Prop) (H Hi : Hp) (x : τ) (u : Value) (s : Shared) : Prop :=
  ∃ (N : List Str) (qual : Str) (sc : Scope) (f : Addr) (cdv : Value) (gp : Addr × Obj) (g : Nat) (c : Code) (ow : Own) (nm qn : Value),
    u = .ref gp.1 ∧ gp.2.cls = .type "generator" ∧ gp.2.data = .fields #[.int g 0, nm, qn] ∧ gp.2.slots = #[] ∧ s.gens[g]? = some (.fresh c) ∧
    (∀ p ∈ ow, s.heap.get? p.1 = some p.2 ∧ H p.1 = none ∧ B ≤ p.1) ∧ gp ∈ ow ∧
    ∀ (A : Around) (Th : Nat → Wkg τ → Shared → Prop), Rm k A → A.frames = some outer → GOk (GX.mk P w K mg base N qual sc f cdv A outer B gp Tr Th) ∧
      ∀ (n : Nat) (W : Wkg τ) (s2 : Shared), Woke (GX.mk P w K mg base N qual sc f cdv A outer B gp Tr Th) n W s2 → W.x = x → Same Hi W.Hi → OwOk (GX.mk P w K mg base N qual sc f cdv A outer B gp Tr Th) ow W.H s2 → (∀ p ∈ W.pn, ∀ q ∈ ow, p.1 ≠ q.1) →
        SegG (GX.mk P w K mg base N qual sc f cdv A outer B gp Tr Th) n s2 c ((model P w).den c) [] s2
/-- a generator def by its call -/
structure GnX (P : Program) (w : World) (K : PySem.W.Frag) (mg : Str → Option Value) (base : Heap) (k : Nat) (f : Addr) (ks : List Str) {τ : Type} (Tr : τ → Mem → Hnd τ → Prop) (s0 : List Val → List Val → τ → Prop) : Prop where
  run : ∀ (A : Around) (outer : List Env) (s : Shared) (H Hi : Hp) (us ws : List Value) (vs zs : List V) (ds es : List Val) (x : τ), Rm k A → Env0 P w K mg base A outer s H → Vals vs us → Vals zs ws → zs.length = ks.length → RepA K Hi ds vs → RepA K Hi es zs → s0 ds es x →
    codeAny (model P w) A (.call (.ref f) ⟨us, ks.zip ws⟩) (fun r s' => match r with
      | .ok (.ret u) => GNew P w K mg base k outer s.heap.objs.size Tr H Hi x u s' ∧ s'.os = s.os ∧ AllBare s'.gens ∧ ∀ b o, s.heap.get? b = some o → s'.heap.get? b = some o
      | _ => False) s
end Ab
/-! a for over a generator -/
namespace Ab
open PySem PySem.Spec PyProof.Rows L2 GenW
open Sem (wp)
end Ab
/-! calls of generator defs -/
namespace Ab
open PySem PySem.Spec PyProof.Rows L2 GenW
section
variable {X : Cx} {Γ : Gam} {M : Mem} {e o : Expr} {es : List Expr} {kws : List Keyword} {pos p1 apos : Pos} {x m : Str} {n : Nat} {f C : Addr} {ks : List Str} {τ : Type} {Tr : τ → Mem → Hnd τ → Prop} {s0 : List Val → List Val → τ → Prop} {P : τ → Mem → Prop}
theorem GnX.mono {P : Program} {w : World} {K : PySem.W.Frag} {mg : Str → Option Value} {base : Heap} {j k : Nat} (F : GnX P w K mg base j f ks Tr s0) (h : j ≤ k) : GnX P w K mg base k f ks Tr s0 := ⟨fun A outer s H Hi us ws vs zs ds es x hr e0 r rz l rd re hs =>
  codeAny_mono (F.run A outer s H Hi us ws vs zs ds es x (hr.mono h) e0 r rz l rd re hs) fun r s' hq => by
    cases r with
    | error e => exact hq
    | ok fl =>
      cases fl with
      | ret u =>
        obtain ⟨⟨N, qual, sc, f, cdv, gp, g, c, ow, nm, qn, h1, h2, h3, h4, h5, h6, h7, h8⟩, h9⟩ := hq
        exact ⟨⟨N, qual, sc, f, cdv, gp, g, c, ow, nm, qn, h1, h2, h3, h4, h5, h6, h7, fun A Th hr => h8 A Th (hr.mono h)⟩, h9⟩
      | next => exact hq
      | brk => exact hq
      | cont => exact hq⟩
end
end Ab
/-! a for within a generator's body -/
namespace Ab
open PySem PySem.Spec PyProof.Rows L2 GenW
end Ab
/-! dicts: keys that are ints or texts, get, locking, walking -/
namespace Ab
open PySem PySem.Spec PyProof.Rows L2
/-- a dict at p, locked or not -/
def DkAt (M : Mem) (p : Addr) (ds : List (Key × Val)) : Prop := ∃ n : Nat, M[n]? = some (p, .dk ds) ∨ ∃ od kvs, M[n]? = some (p, .b (.fz od kvs ds))
theorem DkAt.dk {M : Mem} {p : Addr} {ds : List (Key × Val)} (n : Nat) (h : M[n]? = some (p, .dk ds)) : DkAt M p ds := ⟨n, .inl h⟩
theorem DkAt.fz {M : Mem} {p : Addr} {ds : List (Key × Val)} {od : Obj} {kvs : List (Key × V)} (n : Nat) (h : M[n]? = some (p, .b (.fz od kvs ds))) : DkAt M p ds := ⟨n, .inr ⟨od, kvs, h⟩⟩
theorem DkAt.rd {K : PySem.W.Frag} {M : Mem} {p : Addr} {ds : List (Key × Val)} {Hi H : Hp} (h : DkAt M p ds) (ok : Ok K Hi M H) : ∃ kvs, Rd H p (.dK kvs) ∧ RepK K Hi ds kvs := by
  obtain ⟨n, h | ⟨od, kvs, h⟩⟩ := h
  · obtain ⟨_, o, ho, ks, rfl, rk⟩ := ok.get h
    exact ⟨ks, .inl ho, rk⟩
  · obtain ⟨_, o, ho, rfl, rk⟩ := ok.get h
    exact ⟨kvs, .inr ⟨od, ho⟩, rk⟩
section
variable {X : Cx} {Γ : Gam} {M : Mem} {P : Val → Mem → Prop} {e a b c o : Expr} {pos p1 apos ppos : Pos} {k : AK} {d d1 : Val} {kk : Key} {p : Addr} {ds : List (Key × Val)}
/-- while G: the locked dict is there -/
def Lk (p : Addr) (od : Obj) (kvs : List (Key × V)) (ds : List (Key × Val)) (M : Mem) : Prop := ∃ n : Nat, M[n]? = some (p, .b (.fz od kvs ds))
theorem Lk.rd {K : PySem.W.Frag} {od : Obj} {kvs : List (Key × V)} {Hi H : Hp} (h : Lk p od kvs ds M) (ok : Ok K Hi M H) : H p = some (.frz od (.dK kvs)) ∧ RepK K Hi ds kvs := by
  obtain ⟨n, h⟩ := h
  obtain ⟨_, o, ho, rfl, rk⟩ := ok.get h
  exact ⟨ho, rk⟩
end
end Ab
/-! generators: loops that forget slots; keywords in the other order -/
namespace Ab
open PySem PySem.Spec PyProof.Rows L2 GenW
section
variable {τ : Type} {G : GX τ} {st : Stmt} {sts : List Stmt} {n : Nat} {R : Hnd τ} {Γ Γ' : Gam} {M : Mem} {k k' : KG τ}
theorem gko_mono {ip : List (Addr × Obj)} {Hi : Hp} {c : Code} {fs : List Frame} {Kc : Flow → Sem PySem.Fin} (kk : GKo G ip Hi c fs Kc k') (f1 : ∀ n R Γ M, k.nx n R Γ M → k'.nx n R Γ M) (f2 : ∀ n R d M, k.rt n R d M → k'.rt n R d M) (f3 : ∀ n R Γ M, k.bk n R Γ M → k'.bk n R Γ M) (f4 : ∀ n R Γ M, k.ct n R Γ M → k'.ct n R Γ M) : GKo G ip Hi c fs Kc k :=
  ⟨fun n W s₀ s σ H Hi Γ M v sm en h => kk.nx n W s₀ s σ H Hi Γ M v sm en (f1 _ _ _ _ h), fun n W s₀ s σ H Hi Γ M v sm en h => kk.bk n W s₀ s σ H Hi Γ M v sm en (f3 _ _ _ _ h), fun n W s₀ s σ H Hi Γ M v sm en h => kk.ct n W s₀ s σ H Hi Γ M v sm en (f4 _ _ _ _ h), fun n W s₀ s σ H Hi d v u M g sm r rv h => kk.rt n W s₀ s σ H Hi d v u M g sm r rv (f2 _ _ _ _ h)⟩
theorem gS.mono (h : gS G st n R Γ M k) (f1 : ∀ n R Γ M, k.nx n R Γ M → k'.nx n R Γ M) (f2 : ∀ n R d M, k.rt n R d M → k'.rt n R d M := by intro _ _ _ _ h; exact h) (f3 : ∀ n R Γ M, k.bk n R Γ M → k'.bk n R Γ M := by intro _ _ _ _ h; exact h) (f4 : ∀ n R Γ M, k.ct n R Γ M → k'.ct n R Γ M := by intro _ _ _ _ h; exact h) : gS G st n R Γ M k' :=
  fun go ip W s₀ c fs Kc Jc gd lv s σ H Hi g v hR en kk => h go ip W s₀ c fs Kc Jc gd lv s σ H Hi g v hR en (gko_mono kk f1 f2 f3 f4)
theorem gSs.mono (h : gSs G sts n R Γ M k) (f1 : ∀ n R Γ M, k.nx n R Γ M → k'.nx n R Γ M) (f2 : ∀ n R d M, k.rt n R d M → k'.rt n R d M := by intro _ _ _ _ h; exact h) (f3 : ∀ n R Γ M, k.bk n R Γ M → k'.bk n R Γ M := by intro _ _ _ _ h; exact h) (f4 : ∀ n R Γ M, k.ct n R Γ M → k'.ct n R Γ M := by intro _ _ _ _ h; exact h) : gSs G sts n R Γ M k' :=
  fun go ip W s₀ c fs Kc Jc gd lv s σ H Hi g v hR en kk => h go ip W s₀ c fs Kc Jc gd lv s σ H Hi g v hR en (gko_mono kk f1 f2 f3 f4)
end
section
variable {P : Program} {w : World} {K : PySem.W.Frag} {mg : Str → Option Value} {base : Heap}
/-- a weaker promise -/
theorem GnX.imp {τ : Type} {Tr : τ → Mem → Hnd τ → Prop} {s0 s1 : List Val → List Val → τ → Prop} {f : Addr} {ks : List Str} {k : Nat} (F : GnX P w K mg base k f ks Tr s0) (h : ∀ ds es x, s1 ds es x → s0 ds es x) : GnX P w K mg base k f ks Tr s1 :=
  ⟨fun A outer s H Hi us ws vs zs ds es x hr e0 r rz l rd re hs => F.run A outer s H Hi us ws vs zs ds es x hr e0 r rz l rd re (h ds es x hs)⟩
end
end Ab
/-! generators: tests that change cells; boxes over defs that raise -/
namespace Ab
open PySem PySem.Spec PyProof.Rows L2 GenW
section
variable {P : Program} {w : World} {K : PySem.W.Frag} {mg : Str → Option Value} {base : Heap} {k : Nat} {f : Addr} {ks : List Str}
theorem FnE.box {sx sx' : ASxe} (F : FnE P w K mg base k f ks (spE K sx)) (h : ∀ ds es M R PE, sx' ds es M R PE → ∃ (i : Nat) (p : Addr) (φ : Mem0 → Prop), M[i]? = some (p, .box φ) ∧
    ∀ B, φ B → p ∈ B.map (·.1) → sx ds es (bs B ++ M.eraseIdx i) (fun d M' => ∃ B' φ', M' = bs B' ++ M.eraseIdx i ∧ φ' B' ∧ p ∈ B'.map (·.1) ∧ R d (M.set i (p, .box φ')))
      (fun C fs M' => ∃ B' φ', M' = bs B' ++ M.eraseIdx i ∧ φ' B' ∧ p ∈ B'.map (·.1) ∧ PE C fs (M.set i (p, .box φ')))) : FnE P w K mg base k f ks (spE K sx') :=
  F.weak fun vs zs H Q E ⟨Hi, M, ds, es, R, PE, r1, r2, ok, hs, q, qe⟩ => by
    obtain ⟨i, p, φ, hi, hb⟩ := h ds es M R PE hs
    obtain ⟨B, h1, h2, ok'⟩ := ok.opn hi
    refine ⟨Hi, _, ds, es, _, _, r1, r2, ok', hb B h1 h2, fun d M' v Hi' H' hd s' ok2 r => ?_, fun C fs M' Hi' H' cls d hd s' ok2 r => ?_⟩
    · obtain ⟨B', φ', rfl, h3, h4, h5⟩ := hd
      exact q d _ v Hi' H' h5 s' (ok2.clsAt hi h3 h4) r
    · obtain ⟨B', φ', rfl, h3, h4, h5⟩ := hd
      exact qe C fs _ Hi' H' cls d h5 s' (ok2.clsAt hi h3 h4) r
end
end Ab
/-! Ab77: a box opened around an expression and closed as another box -/
namespace Ab
open PySem PySem.Spec PyProof.Rows L2
end Ab
/-! Ab78: the dict of a def's ** parameter, told of the heap alone -/
namespace Ab
open PySem PySem.Spec PyProof.Rows L2
end Ab
/-! Ab79: {k: v for .. in ..} -/
namespace Ab
open PySem PySem.Spec PyProof.Rows L2
end Ab
/-! Ab80: data compared with either answer; == and != of an instance with a value of another kind; list(d.items()); dicts compared with {} -/
namespace Ab
open PySem PySem.Spec PyProof.Rows L2 Builtin
/-! ### an instance against a value of another kind -/
/-! ### dicts against the empty one -/
/-! ### list(d.items()) -/
end Ab
/-! Ab81: data in a tuple or list of data -/
namespace Ab
open PySem PySem.Spec PyProof.Rows L2 Builtin
end Ab
/-! Ab82: classmethods by keywords alone; classmethods that may raise -/
namespace Ab
open PySem PySem.Spec PyProof.Rows L2
end Ab
/-! Ab83: a property of any expression that gives an instance, boxed or not -/
namespace Ab
open PySem PySem.Spec PyProof.Rows L2
end Ab
/-! g(lambda: e): a lambda handed to a def that calls it -/
namespace Ab
open PySem PySem.Spec PyProof.Rows L2 LamX
section
variable {X : Cx} {pins : List (Addr × Obj)} {σ : L2.St} {H Hi : Hp} {s : Shared} {M : Mem}
/-- what is known when the lambda has been made -/
structure Made (X : Cx) (pins : List (Addr × Obj)) (σ : L2.St) (Hi : Hp) (M : Mem) (params : Arguments) (body : PySem.Expr) (scope : Scope) (f c' : Addr) (pm ctv : Value) (Hi1 H1 : Hp) (s' : Shared) : Prop where
  inv : Inv X pins σ H1 s'
  ok : Ok X.K Hi1 M H1
  sm : Same Hi Hi1
  at_ : s'.heap.get? f = some (PySem.W.kla_obj "<lambda>" (X.env.qual ++ "<lambda>") params body scope (cloFrom X.env.cells scope.names []) pm c' ctv)
  no : H1 f = none
  fr : f ∉ frs X.stack
  co : Hi1 c' = some (CodeO c' (X.env.qual ++ "<lambda>"))
theorem lam_made {c Pt : Addr} {i : Nat} {params : Arguments} {body : PySem.Expr} {scope : Scope} {pos : Pos} {E : Value → Shared → Prop} {Q : Value → Shared → Prop} (I : Inv X pins σ H s) (ok : Ok X.K Hi M H) (TB : TabB X.base X.mg c Pt) (hcode : X.env.code = .ref c)
    (hm : M[i]? = some (Pt, .b (.tb (X.env.qual ++ "<lambda>")))) (hdef : defaultsOf params X.env = ([], [])) (hfree : ∀ y ∈ scope.names, y.2 = .free → ∃ c, X.env.cells.lookup y.1 = some c)
    (h : ∀ f c' pm ctv Hi1 H1 s', Made X pins σ Hi M params body scope f c' pm ctv Hi1 H1 s' → Q (.ref f) s') :
    wpAny (model X.prog X.w) X.A (eval (.Lambda params body scope pos) X.env) Q E s := by
  obtain ⟨hin, o, hP, ps, rfl, ht, ha⟩ := ok.get hm
  refine PySem.W.kla_eval hdef ?_
  have rawP := I.hok Pt _ hP
  have nofr : ∀ f, s.heap.objs.size ≤ f → f ∉ frs X.stack := fun f hf z => by
    rcases List.mem_cons.mp (I.stkSub _ z) with e | e
    · have h1 := I.lt
      rw [← e] at h1
      exact absurd h1 (Nat.not_lt.mpr hf)
    · exact I.nofs hf e
  cases hc : codeAmong pos ps.toList with
  | some cv =>
    obtain ⟨c', rfl, hco⟩ := ha pos cv hc
    refine PySem.W.kla_makeFunctionHit (closure_ok hfree) I.ok.glob (I.mod.glob.keeps I.bk) hcode (TB.code.keeps I.bk) rawP ht hc (TB.bm.keeps I.bk) fun ctv h' tk hx hsz => ?_
    exact h _ c' _ ctv Hi H _ ⟨I.kept fun b o e => Heap.get?_push_of_some _ (hx b o e), ok, Same.refl _, Heap.get?_push_size _ rfl, I.hok.fresh hsz, nofr _ hsz, hco⟩
  | none =>
    refine PySem.W.kla_makeFunction (closure_ok hfree) I.ok.glob (I.mod.glob.keeps I.bk) hcode (TB.code.keeps I.bk) rawP ht hc TB.gP (TB.bm.keeps I.bk) fun c' ctv h' tk hx hge hlt ⟨_, oc, vs, t, e2, hoc, hd, hv⟩ htb => ?_
    cases e2
    have nC : H c' = none := I.hok.fresh hge
    have niC : Hi c' = none := ok.none nC
    have nPc : Pt ≠ c' := ne_of_none hP nC
    obtain ⟨more, hmore⟩ : ∃ more : Array Value, more = #[rawInt pos.line, rawInt pos.col, .ref c'] := ⟨_, rfl⟩
    rw [← hmore] at htb
    have eL : (ps ++ more).toList = ps.toList ++ [rawInt pos.line, rawInt pos.col, .ref c'] := by rw [hmore]; simp
    let ob := PySem.W.kla_obj "<lambda>" (X.env.qual ++ "<lambda>") params body scope (cloFrom X.env.cells scope.names []) ((X.mg "__name__").getD .none) c' ctv
    have I1 := inv_table (t' := tk) (q := X.env.qual ++ "<lambda>") (more := more) (h' := h'.push ob) I hP (fun b o hb e => Heap.get?_push_of_some _ (hx b o hb e)) (Heap.get?_push_of_some _ htb) hge ⟨oc, vs, t, Heap.get?_push_of_some _ hoc, hd, hv⟩
    have sm := same_upd (o := CodeO c' (X.env.qual ++ "<lambda>")) niC
    -- the code object never changes; the table's cell is written
    have ok1 : Ok X.K (upd Hi c' (CodeO c' (X.env.qual ++ "<lambda>"))) M (upd H c' (CodeO c' (X.env.qual ++ "<lambda>"))) := ok.imm nC
    have ok2 : Ok X.K (upd Hi c' (CodeO c' (X.env.qual ++ "<lambda>"))) (M.set i (Pt, .b (.tb (X.env.qual ++ "<lambda>")))) (upd (upd H c' (CodeO c' (X.env.qual ++ "<lambda>"))) Pt (.tbl (ps ++ more))) := by
      refine ok1.set hm ⟨ps ++ more, rfl, by rw [eL]; exact PySem.TriplesOk_snoc _ _ _ _ ht, fun p' cv hcv => ?_⟩
      rw [eL] at hcv
      rcases among_app _ ht hcv with z | z
      · obtain ⟨c0, e1, e3⟩ := ha p' cv z
        exact ⟨c0, e1, sm _ _ e3⟩
      · exact ⟨c', z, upd_same⟩
    rw [show M.set i (Pt, Cell.b (.tb (X.env.qual ++ "<lambda>"))) = M from set_at hm] at ok2
    have comm : upd (upd H c' (CodeO c' (X.env.qual ++ "<lambda>"))) Pt (.tbl (ps ++ more)) = upd (upd H Pt (.tbl (ps ++ more))) c' (CodeO c' (X.env.qual ++ "<lambda>")) := by
      funext b
      by_cases h1 : b = Pt
      · subst h1
        rw [upd_same, upd_ne nPc, upd_same]
      · by_cases h2 : b = c'
        · subst h2
          rw [upd_ne h1, upd_same, upd_same]
        · rw [upd_ne h1, upd_ne h2, upd_ne h2, upd_ne h1]
    rw [comm] at ok2
    have hsz : s.heap.objs.size ≤ h'.objs.size := Nat.le_trans hge (Nat.le_of_lt hlt)
    refine h h'.objs.size c' ((X.mg "__name__").getD .none) ctv _ _ _ ⟨I1, ok2, sm, Heap.get?_push_size _ rfl, ?_, nofr _ hsz, upd_same⟩
    rw [upd_ne (Nat.ne_of_gt hlt), upd_ne (Nat.ne_of_gt (Nat.lt_of_lt_of_le (Heap.lt_size rawP) hsz))]
    exact I.hok.fresh hsz
end
/-! ### the lambda called -/
abbrev LSb := Mem → (Val → Mem → Prop) → XP → Prop
section
variable {X Z : Cx} {pins : List (Addr × Obj)} {σ : L2.St} {H Hi Hi1 H1 : Hp} {s s' : Shared} {M M1 : Mem} {ΓX : Gam} {params : Arguments} {body : PySem.Expr} {scope : Scope} {f c' : Addr} {pm ctv : Value} {bsp : LSb} {kk : Nat}
/-- what the lambda's body does, in its own context -/
def LBody (X : Cx) (body : PySem.Expr) (scope : Scope) (ΓX : Gam) (kk : Nat) (bsp : LSb) : Prop := ∀ (A : Around) (outer : List Env) (s : Shared) (H : Hp) (E : XK) (f c' : Addr), Rm kk (A.deeper (lamEnv X scope s.heap.objs.size f c')) → Po (lamCx X A outer s H E scope f c') →
  ∀ M P PE, bsp M P PE → yE (lamCx X A outer s H E scope f c') body ΓX M P PE
/-- a(), a the name of a slot that holds the lambda -/
theorem ye_act {N : List Str} {q : Str} {sc : Scope} {g : Addr} {cdv : Value} {EZ : XK} {pn : List (Addr × Obj)} {xe : Value → Shared → Prop} {a : Str} {p1 p2 : Pos} {i : Nat} {Γ : Gam} {P : Val → Mem → Prop} {PE : XP}
    (m : Made X pins σ Hi M1 params body scope f c' pm ctv Hi1 H1 s') (en : EnvR X.K Hi1 ΓX σ) (L : LamS X.env.scope scope)
    (hbind : ∀ (q : Str) (cl : List (Str × Addr)) (pm cv ctv : Value), bindArgs (PySem.W.kla_fn "<lambda>" q params body scope cl pm cv ctv) ⟨[], []⟩ = pure [])
    (hb : LBody X body scope ΓX kk bsp) (hr : Rm (kk + 1) (X.A.deeper (envOfC q sc s'.heap.objs.size g cdv)))
    (hN : N[i]? = some a) (hΓ : Γ[i]? = some (some (.lam f Hi1))) (hv : Vis sc a) (hp : bsp M P PE)
    (hd : (a == ("__debug__" : Str)) = false := by decide) (hcd : (a == ("__classdict__" : Str)) = false := by decide) :
    yE ((cxOf CX0 X.prog X.w X.K X.mg X.base N q sc g cdv X.A X.stack s' H1 EZ).tr pn xe) (.Call (.Name a p1) [] [] p2) Γ M P PE := fun W tk po HiZ HZ σZ okZ enZ Q qq qx => by
  obtain ⟨v, hv1, hv2⟩ := enZ.2 i _ hΓ
  cases hv2 with
  | lam kp =>
  have hco : HZ c' = some (CodeO c' (X.env.qual ++ "<lambda>")) := okZ.im _ _ (kp _ _ m.co fun o z => raw_code z.symm)
  have enX : EnvR X.K HiZ ΓX σ := en.kp kp
  refine ⟨fun σ2 H2 Q2 => σ2[i]? = some (some (.ref f)) ∧ H2 c' = some (CodeO c' (X.env.qual ++ "<lambda>")) ∧ ∃ HiZ, Ok X.K HiZ M H2 ∧ EnvR X.K HiZ ΓX σ ∧ Post X.K HiZ P Q2 ∧ XPost X.K HiZ PE (fun cls d H' => W cls d σ2 H'), ⟨fun pinsZ sZ σ2 H2 Q2 IZ h => ?_⟩, hv1, hco, HiZ, okZ, enX, qq, qx⟩
  obtain ⟨hs, hc, HiZ, okZ, enX, qq, qx⟩ := h
  refine wpAny_Call_Name_kw (thn ((pe_var (pos := p1) (i := i) hN hv hd hcd).run pinsZ sZ σ2 H2 (fun v H1 => v = .ref f ∧ H1 = H2) IZ ⟨.ref f, hs, rfl, rfl⟩) fun u s1 ⟨v, H3, I1, r1, q1⟩ => ?_)
  obtain ⟨rfl, rfl⟩ := q1
  obtain rfl : u = Value.ref f := r1
  have of1 := I1.base.keep f _ m.at_ m.no m.fr (fun z => nomatch (show f ∈ ([] : List Addr) from z))
  refine PySem.W.callWith_F0 ⟨_, _, _, _, of1⟩ ?_
  have un : Un (frs X.stack) [] H1 H3 s'.heap s1.heap := I1.base
  obtain ⟨⟨oc, vs, t, hoc, hdc, hvc⟩, _, _⟩ := I1.hok c' _ hc
  have rc : codeAny (model X.prog X.w) (X.A.deeper (envOfC q sc s'.heap.objs.size g cdv)) (.call (.ref f) ⟨[], []⟩) (CR (L2.CX X.prog X.w) (envOfC q sc s'.heap.objs.size g cdv :: X.stack) X.prog X.w H3 s1 Q2 (fun cls d H' => W cls d σ2 H')) s1 := by
    refine PySem.W.kla_callFunE hr.room.depth of1 rfl L.co L.gen rfl ⟨c', oc, vs, t, rfl, hoc, hdc, hvc⟩ ?_
    rw [hbind]
    refine wpAny_pure (wpAny_newFunctionEnv (fun y hy => (L.own y hy).2) (fun y hy => absurd hy (by simp)) (fun h₁ hns hsb => ⟨I1.nolimit.fresh _ hsb, ?_⟩) L.kind)
    have kp1 : ∀ b o, s1.heap.get? b = some o → h₁.get? b = some o := fun b o e => hsb.extBut b o (Nat.ne_of_lt (Heap.lt_size e)) (Heap.get?_push_of_some _ e)
    have J := lam_start2 (tk := s1.toks + ([] : List (Str × Value)).length) (f := f) (c' := c') (E := fun cls d H' => W cls d σ2 H') m.inv L I1.env0 hr.room.hd un hns kp1
    have po2 : Po (lamCx X (X.A.deeper (envOfC q sc s'.heap.objs.size g cdv)) (envOfC q sc s'.heap.objs.size g cdv :: X.stack) s1 H3 (fun cls d H' => W cls d σ2 H') scope f c') := passes_of (K := fun e s'' => L2.CX X.prog X.w (envOfC q sc s'.heap.objs.size g cdv :: X.stack) H3 s1 (fun cls d H' => W cls d σ2 H') e s'') rfl
    have hw := hb (X.A.deeper (envOfC q sc s'.heap.objs.size g cdv)) (envOfC q sc s'.heap.objs.size g cdv :: X.stack) s1 H3 (fun cls d H' => W cls d σ2 H') f c' (hr.deeper _) po2 M P PE hp
      (fun cls d _ H' => W cls d σ2 H') (takes_of rfl rfl rfl rfl) po2 HiZ H3 σ okZ enX Q2 qq qx
    refine PySem.W.kla_codeExpr (wpAny_mono (pe_we.run [] _ _ H3 Q2 J hw) (fun v s' hq => ?_) fun e s' hq => hq)
    obtain ⟨w', H', J', rv, q⟩ := hq
    exact ⟨w', H', J'.os, J'.bare, J'.base, J'.hok, rv, q⟩
  refine wpAny_call (codeAny_mono rc fun r s' hq => ?_)
  cases r with
  | error e => exact tk e s' (XE.of_call I1 (fun _ _ _ z => z) hq)
  | ok fl =>
    cases fl with
    | ret u => exact I1.after hq
    | next => exact False.elim hq
    | brk => exact False.elim hq
    | cont => exact False.elim hq
end
/-! ### a def that gets a lambda -/
/-- from what the lambda does: cells, what follows -/
abbrev LSp := LSb → Mem → (Val → Mem → Prop) → Prop
section
variable {P : Program} {w : World} {K : PySem.W.Frag} {mg : Str → Option Value} {base : Heap}
/-- what its body must do: the lambda stands in the slot of a -/
abbrev BodyL (P : Program) (w : World) (K : PySem.W.Frag) (mg : Str → Option Value) (base : Heap) (k : Nat) (g : Addr) (N : List Str) (q : Str) (sc : Scope) (body : List Stmt) (a : Str) (sL : LSp) : Prop :=
  ∀ cdv A outer s H E, Rm k (A.deeper (envOfC q sc s.heap.objs.size g cdv)) → ∀ (f : Addr) (Hf : Hp) (bsp : LSb),
    (∀ (pn : List (Addr × Obj)) (xe : Value → Shared → Prop) (i : Nat) (Γ : Gam) (M : Mem) (R : Val → Mem → Prop) (PE : XP) (p1 p2 : Pos), N[i]? = some a → Γ[i]? = some (some (Val.lam f Hf)) → bsp M R PE → yE ((cxOf CX0 P w K mg base N q sc g cdv A outer s H E).tr pn xe) (.Call (.Name a p1) [] [] p2) Γ M R PE) →
    ∀ M R, sL bsp M R → aSs (bcx P w K mg base N q sc g cdv A outer s H E) body (gam N [Val.lam f Hf]) M (kOf R)
structure LGd (P : Program) (w : World) (K : PySem.W.Frag) (mg : Str → Option Value) (base : Heap) (k : Nat) (x : Str) (sL : LSp) : Prop where
  ex : ∃ (g : Addr) (q : Str) (pg : Arguments) (body : List Stmt) (sc : Scope) (N : List Str) (a : Str) (fd : FuncData), FunD K x q pg body sc [] [] g fd ∧ FnScope N [a] sc ∧ Vis sc a ∧ N[0]? = some a ∧
    (∀ (kV doc pm : Value) (an : Option Addr) (cdv ct : Value) (u : Value), bindArgs (PySem.W.fnOf x q pg body sc .none kV doc pm an cdv ct) ⟨[u], []⟩ = pure [(a, u)]) ∧
    (a == ("__debug__" : Str)) = false ∧ (a == ("__classdict__" : Str)) = false ∧ mg x = some (.ref g) ∧ PySem.W.keepIn K (.ref g) = true ∧ BodyL P w K mg base k g N q sc body a sL
end
section
variable {X : Cx} {Γ : Gam} {M : Mem} {R : Val → Mem → Prop} {params : Arguments} {body : PySem.Expr} {scope : Scope} {p lpos pos : Pos} {x : Str} {k kk m i : Nat} {c Pt : Addr} {bsp : LSb} {sL : LSp}
/-- the table of the maker's code objects -/
structure Tbl (X : Cx) (Pt : Addr) : Prop where
  ex : ∃ c, TabB X.base X.mg c Pt ∧ X.env.code = .ref c
/-- x(lambda: body) -/
theorem ae_lam (G : LGd X.prog X.w X.K X.mg X.base k x sL) (hr : Rm m X.A) (hk : k + 1 ≤ m) (T : Tbl X Pt) (hm : M[i]? = some (Pt, .b (.tb (X.env.qual ++ "<lambda>")))) (kk : Nat) (bsp : LSb) (hb : LBody X body scope Γ kk bsp) (hkk : kk + 1 ≤ k) (h : sL bsp M R)
    (hg : Gl X x := by rfl) (L : lamSB X.env.scope scope = true := by decide +kernel) (hdef : defaultsOf params X.env = ([], []) := by rfl)
    (hbind : ∀ (q : Str) (cl : List (Str × Addr)) (pm cv ctv : Value), bindArgs (PySem.W.kla_fn "<lambda>" q params body scope cl pm cv ctv) ⟨[], []⟩ = pure [] := by intros; rfl)
    (hdb : (x == ("__debug__" : Str)) = false := by decide) : aE X (.Call (.Name x p) [.Lambda params body scope lpos] [] pos) Γ M R := fun Hi H σ ok en Q q => by
  obtain ⟨c, TB, hcode⟩ := T.ex
  obtain ⟨g, qg, pg, bg, sg, Ng, a, fd, F, Sg, hva, hN0, hbd, hda, hdc, hmg, hkg, hB⟩ := G.ex
  obtain ⟨oc, od, dV, kV, doc, pm0, an, cdv, ct, osl, rfl, lk, hcd, hD, _⟩ := F.ex
  obtain ⟨_, rfl⟩ : ([] : List V) = [] ∧ dV = .none := by
    rcases hD with z | ⟨z, _⟩
    · exact z
    · exact absurd rfl z
  have LS := lamS_by L
  refine ⟨fun σ H Q => ∃ Hi, Ok X.K Hi M H ∧ EnvR X.K Hi Γ σ ∧ Post X.K Hi R Q, ⟨fun pins s σ H Q I ⟨Hi, ok, en, q⟩ => ?_⟩, Hi, ok, en, q⟩
  refine wpAny_Call_Name_kw (ld_glob I hg hmg ?_ hdb)
  refine PySem.W.callWith_K (h₀ := X.base) I.ok.mod.kin hkg ?_ (by rfl) (by rfl)
  show wpAny _ _ (spliced ((false, eval (.Lambda params body scope lpos) X.env) :: backTo pos (starEach [] X.env))) _ _ s
  refine Calls.spliced_cons (lam_made I ok TB hcode hm hdef (LS.has I.ok) fun f c' pm ctv Hi1 H1 s' md => ?_)
  refine Calls.spliced_nil ⟨md.inv.kIn, ?_⟩
  have en1 := en.mono md.sm
  have rc : codeAny (model X.prog X.w) X.A (.call (.ref g) ⟨[.ref f], []⟩) (CR CX0 X.stack X.prog X.w H1 s' Q E0) s' := by
    refine run_ofS (k := k) (N := Ng) (ps := [a]) (us := [.ref f]) (vs := [.ref f]) lk hcd Sg (hr.room.mono hk) md.inv.env0 (.of_eq (hbd kV doc pm0 an cdv ct (.ref f))) (.cons rfl .nil) rfl fun hr' => ?_
    have hrm : Rm k (X.A.deeper (envOfC qg sg s'.heap.objs.size g cdv)) := ⟨hr', (hr.mono hk).deeper _ |>.gd⟩
    have hS := hB cdv X.A X.stack s' H1 E0 hrm f Hi1 bsp (fun pn xe i2 Γ2 M2 R2 PE p1 p2 hN2 hΓ2 hp2 => ye_act md en1 LS hbind hb (hrm.mono hkk) hN2 hΓ2 hva hp2 hda hdc) M R h
    obtain ⟨t, pt, ht⟩ := hS Hi1 H1 _ md.ok (env_start (N := Ng) (.cons (.lam (Kp.refl Hi1)) .nil)) { nx := fun _ H' => Q .non H', rt := Q } ⟨fun Γ M' σ Hi' H' h1 s1 ok1 _ => h1.post (q.up md.sm) s1 ok1 .non, fun d M' v Hi' H' h1 s1 ok1 r1 => h1.post (q.up md.sm) s1 ok1 r1, fun _ _ _ _ _ z => z.elim, fun _ _ _ _ _ z => z.elim⟩
    exact ⟨t, pt.nox, ht⟩
  refine wpAny_call (codeAny_mono rc fun r s2 hq => ?_)
  cases r with
  | error e => exact (show False from hq).elim
  | ok fl =>
    cases fl with
    | ret u => exact md.inv.after hq
    | next => exact False.elim hq
    | brk => exact False.elim hq
    | cont => exact False.elim hq
end
end Ab
/-! Ab84: t * n for any n from 0 on -/
namespace Ab
open PySem PySem.Spec PyProof.Rows L2
theorem LGd.mono {P : Program} {w : World} {K : PySem.W.Frag} {mg : Str → Option Value} {base : Heap} {k k' : Nat} {x : Str} {sL : LSp} (G : LGd P w K mg base k x sL) (h : k ≤ k') : LGd P w K mg base k' x sL := by
  obtain ⟨g, q, pg, body, sc, N, a, fd, h1, h2, h3, h4, h5, h6, h7, h8, h9, hB⟩ := G.ex
  exact ⟨g, q, pg, body, sc, N, a, fd, h1, h2, h3, h4, h5, h6, h7, h8, h9, fun cdv A outer s H E hr => hB cdv A outer s H E (hr.mono h)⟩
end Ab
/-! Ab95: isinstance of a subclass -/
namespace Ab
open PySem PySem.Spec PyProof.Rows L2
/-! ### t == () -/
end Ab
/-! Ab96: a comprehension with one test, pure items -/
namespace Ab
open PySem PySem.Spec PyProof.Rows L2
section
variable {X : Cx} {Γ : Gam} {M : Mem} {P : Val → Mem → Prop} {pos : Pos}
theorem ae_lcF {tg iter elt c : Expr} {scope : Scope} (own : List (Str × Nat)) {n : Nat} {it : Nat → Val} (g : Nat → Val) (p : Nat → Bool) (hc : X.calm = true) (hN : X.N.Nodup) (ok : BlkOk X.N X.env.scope scope own)
    (hi : aI X tg iter Γ M n it (fun _ => True) (fun M' => M' = M))
    (hs : ∀ i acc D, i < n → bG X scope (own.map (·.2)) tg (it i) (wipeG Γ (own.map (·.2))) ((D, .lst acc) :: M) fun Γ2 M2 => ∀ s H C cl fp, aT (bx X scope s H C cl fp) c Γ2 M2 (fun b M3 => b = p i ∧ M3 = (D, .lst acc) :: M) ∧ (p i = true → aE (bx X scope s H C cl fp) elt Γ2 ((D, .lst acc) :: M) fun y M4 => y = g i ∧ M4 = (D, .lst acc) :: M))
    (hn : n ≤ 100000) (hd : P (.lst (((List.range n).filter p).map g)) M) (hf : ∀ x, foldedSetIterable iter X.env x = pure x := by intro _; rfl) :
    aE X (.ListComp elt [⟨tg, iter, [c], 0⟩] scope pos) Γ M P := by
  refine ae_frz (ae_lcC (it := it) own (fun i acc M' => M' = M ∧ acc = ((List.range i).filter p).map g) hc hN ok ?_ (fun _ _ _ _ _ => trivial) (fun _ _ _ => trivial) ?_ hn ?_ hf)
  · intro Hi H σ ok en R q
    exact hi Hi H σ ok en R fun J M1 Hi1 H1 h1 => q J M1 Hi1 H1 ⟨h1, rfl⟩
  · rintro i acc M' D hi' _ ⟨rfl, rfl⟩ s H C cl fp
    intro Hi1 H1 σ1 v1 ok1 en1 r1 Q1 q1
    refine hs i _ D hi' s H C cl fp Hi1 H1 σ1 v1 ok1 en1 r1 Q1 fun Γ2 M2 σ2 Hi2 H2 h2 => q1 Γ2 M2 σ2 Hi2 H2 fun s' H' C' cl' fp' => ats_one ((h2 s' H' C' cl' fp').1.mono fun b M3 hb => ?_)
    obtain ⟨rfl, rfl⟩ := hb
    refine ⟨fun z s2 H2 C2 cl2 fp2 => ((h2 s2 H2 C2 cl2 fp2).2 z).mono fun y M4 hy => ?_, fun z => ?_⟩
    · obtain ⟨rfl, rfl⟩ := hy
      exact ⟨_, rfl, rfl, by rw [List.range_succ, List.filter_append, List.map_append, List.filter_cons, if_pos z]; rfl⟩
    · exact ⟨_, rfl, rfl, by rw [List.range_succ, List.filter_append, List.filter_cons, if_neg (by rw [z]; decide)]; simp⟩
  · rintro D acc M' ⟨rfl, rfl⟩
    exact ⟨D, _, _, rfl, rfl, hd⟩
end
end Ab
/-! Ab115: y = [.. for .. if c], pure items, never changed behind it -/
namespace Ab
open PySem PySem.Spec PyProof.Rows L2
section
variable {X : Cx} {Γ : Gam} {M : Mem} {k : AK} {sts : List Stmt} {pos : Pos} {y : Str} {n : Nat}
theorem as_lcF {tg iter elt c : Expr} {scope : Scope} {py spos : Pos} (m : Nat) (own : List (Str × Nat)) {it : Nat → Val} (g : Nat → Val) (p : Nat → Bool) (hc : X.calm = true) (hN : X.N.Nodup) (ok : BlkOk X.N X.env.scope scope own)
    (hi : aI X tg iter Γ M n it (fun _ => True) (fun M' => M' = M))
    (hs : ∀ i acc D, i < n → bG X scope (own.map (·.2)) tg (it i) (wipeG Γ (own.map (·.2))) ((D, .lst acc) :: M) fun Γ2 M2 => ∀ s H C cl fp, aT (bx X scope s H C cl fp) c Γ2 M2 (fun b M3 => b = p i ∧ M3 = (D, .lst acc) :: M) ∧ (p i = true → aE (bx X scope s H C cl fp) elt Γ2 ((D, .lst acc) :: M) fun y M4 => y = g i ∧ M4 = (D, .lst acc) :: M))
    (hn : n ≤ 100000) (h : aSs X sts (Γ.set m (some (.lst (((List.range n).filter p).map g)))) M k) (hm : m < Γ.length := by exact Nat.le_of_ble_eq_true rfl) (hy : X.N[m]? = some y := by rfl) (hyl : X.env.scope.names.lookup y = some .local := by rfl)
    (hsw : swapsWith (.ListComp elt [⟨tg, iter, [c], 0⟩] scope pos) (some (.Name y py)) spos.line X.env = pure true := by exact sw_true rfl rfl rfl (by decide +kernel))
    (hf : ∀ x, foldedSetIterable iter X.env x = pure x := by intro _; rfl) :
    aSs X (.Assign [.Name y py] (.ListComp elt [⟨tg, iter, [c], 0⟩] scope pos) spos :: sts) Γ M k := by
  refine as_cons (as_lcJ m own hc hN ok (aj_ai hi fun M1 e => ?_) hy hyl hsw hf)
  subst e
  refine ⟨hn, fun i acc M' => M' = M1 ∧ acc = ((List.range i).filter p).map g, ⟨rfl, rfl⟩, ?_, ?_⟩
  · rintro i acc M' D hi' _ ⟨rfl, rfl⟩ s H C cl fp
    intro Hi1 H1 σ1 v1 ok1 en1 r1 Q1 q1
    refine hs i _ D hi' s H C cl fp Hi1 H1 σ1 v1 ok1 en1 r1 Q1 fun Γ2 M2 σ2 Hi2 H2 h2 => q1 Γ2 M2 σ2 Hi2 H2 fun s' H' C' cl' fp' => ats_one ((h2 s' H' C' cl' fp').1.mono fun b M3 hb => ?_)
    obtain ⟨rfl, rfl⟩ := hb
    refine ⟨fun z s2 H2 C2 cl2 fp2 => ((h2 s2 H2 C2 cl2 fp2).2 z).mono fun y M4 hy => ?_, fun z => ?_⟩
    · obtain ⟨rfl, rfl⟩ := hy
      exact ⟨_, rfl, rfl, by rw [List.range_succ, List.filter_append, List.map_append, List.filter_cons, if_pos z]; rfl⟩
    · exact ⟨_, rfl, rfl, by rw [List.range_succ, List.filter_append, List.filter_cons, if_neg (by rw [z]; decide)]; simp⟩
  · rintro D acc M' ⟨rfl, rfl⟩
    refine as_frz m (by rw [List.getElem?_set_self hm]) ?_
    rw [List.set_set]
    exact h
end
end Ab
/-! distances of places -/
namespace Sm
variable {k : Nat} {s l : Nat → Int}
theorem dvd_iff_div {m b : Nat} (hm : 0 < m) : (((b + 1) / m : Nat) : Int) - ((b / m : Nat) : Int) = if m ∣ b + 1 then 1 else 0 := by
  by_cases h : m ∣ b + 1
  · rw [if_pos h, dvd_div hm (Nat.succ_pos b) h, show b.succ - 1 = b from rfl]
    omega
  · rw [if_neg h, ndvd_div hm h]
    omega
/-- the distance between two leaves -/
theorem place_step (hk : 2 ≤ k) {b N : Nat} (hN : b + 1 < k ^ N) : place k s l (b + 1) - place k s l b = smN (fun j => if k ^ j ∣ b + 1 then l j else 0) (N + 1) + smN (fun j => if k ^ j = b + 1 then s (j + 1) else 0) N := by
  rw [place_two hk hN, place_two hk (N := N) (b := b) (by omega)]
  have e1 : smN (fun h => l h * (((b + 1) / k ^ h : Nat) : Int)) (N + 1) - smN (fun h => l h * ((b / k ^ h : Nat) : Int)) (N + 1) = smN (fun j => if k ^ j ∣ b + 1 then l j else 0) (N + 1) := by
    rw [← smN_sub]
    refine smN_congr fun j _ => ?_
    rw [← Int.mul_sub, dvd_iff_div (Nat.pow_pos (by omega))]
    split <;> simp
  have e2 : smN (fun h => if k ^ h ≤ b + 1 then s (h + 1) else 0) N - smN (fun h => if k ^ h ≤ b then s (h + 1) else 0) N = smN (fun j => if k ^ j = b + 1 then s (j + 1) else 0) N := by
    rw [← smN_sub]
    refine smN_congr fun j _ => ?_
    by_cases h1 : k ^ j ≤ b
    · rw [if_pos (by omega), if_pos h1, if_neg (by omega)]
      omega
    · by_cases h2 : k ^ j = b + 1
      · rw [if_pos (by omega), if_neg h1, if_pos h2]
        omega
      · rw [if_neg (by omega), if_neg h1, if_neg h2]
        omega
  omega
/-- by the exponent: b + 1 = k ^ e * r, k does not divide r -/
theorem place_exp (hk : 2 ≤ k) {b e r : Nat} (hb : b + 1 = k ^ e * r) (hr : ¬ k ∣ r) : place k s l (b + 1) - place k s l b = smN l (e + 1) + if r = 1 then s (e + 1) else 0 := by
  have r0 : 0 < r := by
    rcases Nat.eq_zero_or_pos r with h | h
    · subst h
      exact absurd (Nat.dvd_zero k) hr
    · exact h
  have dv : ∀ j, k ^ j ∣ b + 1 ↔ j ≤ e := fun j => by
    constructor
    · intro h
      rcases Nat.lt_or_ge e j with z | z
      · exfalso
        obtain ⟨c, rfl⟩ : ∃ c, j = e + 1 + c := ⟨j - (e + 1), by omega⟩
        have h1 : k ^ e * k ∣ k ^ e * r := by
          rw [← hb, ← Nat.pow_succ]
          exact Nat.dvd_trans (Nat.pow_dvd_pow k (by omega)) h
        exact hr (Nat.dvd_of_mul_dvd_mul_left (Nat.pow_pos (by omega)) h1)
      · exact z
    · intro h
      rw [hb]
      exact Nat.dvd_trans (Nat.pow_dvd_pow k h) (Nat.dvd_mul_right _ _)
  have eN : e < b + 1 := by
    have h1 := lt_pow hk e
    have h2 : k ^ e ≤ k ^ e * r := Nat.le_mul_of_pos_right _ r0
    omega
  rw [place_step hk (N := b + 1) (lt_pow hk (b + 1))]
  congr 1
  · have h1 : smN (fun j => if k ^ j ∣ b + 1 then l j else 0) (b + 1 + 1) = smN (fun j => if k ^ j ∣ b + 1 then l j else 0) (e + 1) := smN_ext (by omega) fun j hj => if_neg (by rw [dv]; omega)
    rw [h1]
    exact smN_congr fun j hj => if_pos ((dv j).mpr (by omega))
  · by_cases h1 : r = 1
    · subst h1
      rw [Nat.mul_one] at hb
      rw [if_pos rfl]
      have h2 : smN (fun j => if k ^ j = b + 1 then s (j + 1) else 0) (b + 1) = smN (fun j => if k ^ j = b + 1 then s (j + 1) else 0) (e + 1) := smN_ext (by omega) fun j hj => if_neg (by
        rw [hb]
        intro h
        have := (Nat.pow_right_inj (by omega : 2 ≤ k)).mp h
        omega)
      rw [h2, smN, if_pos hb.symm]
      have h3 : smN (fun j => if k ^ j = b + 1 then s (j + 1) else 0) e = smN (fun _ => 0) e := smN_congr fun j hj => if_neg (by
        rw [hb]
        intro h
        have := (Nat.pow_right_inj (by omega : 2 ≤ k)).mp h
        omega)
      rw [h3]
      have h4 : ∀ n, smN (fun _ => 0) n = 0 := fun n => by
        induction n with
        | zero => rfl
        | succ n ih => rw [smN, ih]; rfl
      rw [h4]
      omega
    · rw [if_neg h1]
      have h3 : smN (fun j => if k ^ j = b + 1 then s (j + 1) else 0) (b + 1) = smN (fun _ => 0) (b + 1) := smN_congr fun j hj => if_neg (by
        intro h
        have hj := (dv j).mp (by rw [h]; exact Nat.dvd_refl _)
        have h5 : k ^ e * r = k ^ j := by rw [← hb, h]
        obtain ⟨c, rfl⟩ : ∃ c, e = j + c := ⟨e - j, by omega⟩
        rw [Nat.pow_add, Nat.mul_assoc] at h5
        have h6 : k ^ c * r = 1 := Nat.eq_of_mul_eq_mul_left (Nat.pow_pos (by omega) : 0 < k ^ j) (by rw [h5, Nat.mul_one])
        exact h1 (Nat.eq_one_of_mul_eq_one_left h6))
      rw [h3]
      have h4 : ∀ n, smN (fun _ => 0) n = 0 := fun n => by
        induction n with
        | zero => rfl
        | succ n ih => rw [smN, ih]; rfl
      rw [h4]
/-! ### nodes of one height follow one another -/
/-- the labels of the node with b such nodes before it -/
def lab (s l : Nat → Int) (h b : Nat) : Int := if b = 0 then s h else l h
theorem fq_step {c : Ct} (h : CtOk c) (t i : Nat) : fq c t i + c.la 0 ≤ fq c t (i + 1) := by
  unfold fq
  rw [smN_head, smN_head, Nat.pow_zero, Nat.div_one, Nat.div_one]
  have h1 : smN (fun j => c.la (j + 1) * ((i / c.k ^ (j + 1) : Nat) : Int)) t ≤ smN (fun j => c.la (j + 1) * (((i + 1) / c.k ^ (j + 1) : Nat) : Int)) t := smN_le fun j _ => Int.mul_le_mul_of_nonneg_left (Int.ofNat_le.mpr (Nat.div_le_div_right (Nat.le_succ i))) (h.la _)
  have h2 : c.la 0 * ((i + 1 : Nat) : Int) = c.la 0 * (i : Int) + c.la 0 := by rw [Int.natCast_add, Int.mul_add]; simp
  omega
theorem fq_ext {c : Ct} (h : CtOk c) {t u i : Nat} (hu : t ≤ u) (hi : i < c.k ^ (t + 1)) : fq c u i = fq c t i := by
  unfold fq
  refine smN_ext (by omega) fun j hj => ?_
  have : i < c.k ^ j := Nat.lt_of_lt_of_le hi (Nat.pow_le_pow_right (by have := h.k2; omega) hj)
  rw [Nat.div_eq_of_lt this]
  simp
theorem pp_step {c : Ct} (h : CtOk c) (b : Nat) : pp c b + c.own ≤ pp c (b + 1) := by
  unfold pp
  rw [if_neg (Nat.succ_ne_zero b)]
  have hk := h.k2
  have e1 : smN (fun j => if c.k ^ j ≤ b then c.sp j else 0) b ≤ smN (fun j => if c.k ^ j ≤ b + 1 then c.sp j else 0) (b + 1) := by
    have h1 : smN (fun j => if c.k ^ j ≤ b then c.sp j else 0) b ≤ smN (fun j => if c.k ^ j ≤ b + 1 then c.sp j else 0) b := smN_le fun j _ => by
      have := h.sp j
      split
      · rw [if_pos (by omega)]
        exact Int.le_refl _
      · split
        · exact this
        · exact Int.le_refl _
    have h2 : 0 ≤ if c.k ^ b ≤ b + 1 then c.sp b else 0 := by
      split
      · exact h.sp b
      · exact Int.le_refl _
    rw [smN]
    omega
  have o1 := h.o1
  by_cases hb : b = 0
  · subst hb
    rw [if_pos rfl]
    have e0 : smN (fun j => if c.k ^ j ≤ 0 then c.sp j else 0) 0 = 0 := rfl
    have e2 : c.la 0 ≤ fq c (0 + 1) (0 + 1) := by
      have h3 := fq_step h 1 0
      have h4 := fq_nn h 1 0
      exact Int.le_trans (by omega) h3
    have ae := h.ae
    omega
  · rw [if_neg hb]
    have e2 : fq c b b + c.la 0 ≤ fq c (b + 1) (b + 1) := by
      have h3 := fq_step h (b + 1) b
      rw [fq_ext h (Nat.le_succ b) (Nat.lt_trans (lt_pow hk b) (Nat.pow_lt_pow_right (by omega) (Nat.lt_succ_self b)))] at h3
      exact h3
    omega
theorem pl_step (hk : 2 ≤ k) (hs : ∀ j, 0 ≤ s j) (hl : ∀ j, 0 ≤ l j) (h0 : 0 < l 0) (h b : Nat) : pl k s l h b + lab s l h (b + 1) ≤ pl k s l h (b + 1) := by
  have := pp_step (ct_ok hk hs hl h0 h) b
  unfold lab
  rw [if_neg (Nat.succ_ne_zero b)]
  exact this
theorem pl_lab (hk : 2 ≤ k) (hs : ∀ j, 0 ≤ s j) (hl : ∀ j, 0 ≤ l j) (h0 : 0 < l 0) (h b : Nat) : lab s l h b ≤ pl k s l h b := by
  cases b with
  | zero =>
    rw [pl_zero]
    unfold lab fp
    rw [if_pos rfl]
    split
    · omega
    · have := ed_nn hk hs hl h0 (h - 1)
      omega
  | succ b =>
    have h1 := pl_step hk hs hl h0 h b
    have h2 := pl_nn hk hs hl h0 h b
    omega
theorem pl_mono (hk : 2 ≤ k) (hs : ∀ j, 0 ≤ s j) (hl : ∀ j, 0 ≤ l j) (h0 : 0 < l 0) (h : Nat) {b c : Nat} (hb : b ≤ c) : pl k s l h b ≤ pl k s l h c := by
  induction c with
  | zero => rw [Nat.le_zero.mp hb]; exact Int.le_refl _
  | succ c ih =>
    rcases Nat.lt_or_ge c b with z | z
    · rw [show b = c + 1 by omega]
      exact Int.le_refl _
    · have h1 := pl_step hk hs hl h0 h c
      have h2 := ih z
      have h3 : 0 ≤ lab s l h (c + 1) := by
        unfold lab
        rw [if_neg (Nat.succ_ne_zero c)]
        exact hl h
      omega
end Sm
namespace Sm
theorem pp_step2 {c : Ct} (h : CtOk c) {b : Nat} (hb : 0 < b) : pp c b + c.la 0 ≤ pp c (b + 1) := by
  unfold pp
  rw [if_neg (Nat.succ_ne_zero b), if_neg (by omega)]
  have hk := h.k2
  have e1 : smN (fun j => if c.k ^ j ≤ b then c.sp j else 0) b ≤ smN (fun j => if c.k ^ j ≤ b + 1 then c.sp j else 0) (b + 1) := by
    have h1 : smN (fun j => if c.k ^ j ≤ b then c.sp j else 0) b ≤ smN (fun j => if c.k ^ j ≤ b + 1 then c.sp j else 0) b := smN_le fun j _ => by
      have := h.sp j
      split
      · rw [if_pos (by omega)]
        exact Int.le_refl _
      · split
        · exact this
        · exact Int.le_refl _
    have h2 : 0 ≤ if c.k ^ b ≤ b + 1 then c.sp b else 0 := by
      split
      · exact h.sp b
      · exact Int.le_refl _
    rw [smN]
    omega
  have e2 : fq c b b + c.la 0 ≤ fq c (b + 1) (b + 1) := by
    have h3 := fq_step h (b + 1) b
    rw [fq_ext h (Nat.le_succ b) (Nat.lt_trans (lt_pow hk b) (Nat.pow_lt_pow_right (by omega) (Nat.lt_succ_self b)))] at h3
    exact h3
  omega
theorem pl_ge {k : Nat} {s l : Nat → Int} (hk : 2 ≤ k) (hs : ∀ j, 0 ≤ s j) (hl : ∀ j, 0 ≤ l j) (h0 : 0 < l 0) (h b : Nat) : (b : Int) ≤ pl k s l h b + 1 := by
  induction b with
  | zero =>
    have := pl_nn hk hs hl h0 h 0
    omega
  | succ b ih =>
    rcases Nat.eq_zero_or_pos b with z | z
    · subst z
      have := pl_nn hk hs hl h0 h 1
      show ((0 + 1 : Nat) : Int) ≤ pl k s l h 1 + 1
      omega
    · have h1 := pp_step2 (ct_ok hk hs hl h0 h) z
      have h2 : 0 < (ctO k s l h).la 0 := (ct_ok hk hs hl h0 h).l0
      have h3 : pl k s l h b + (ctO k s l h).la 0 ≤ pl k s l h (b + 1) := h1
      omega
theorem Cnt.le {k : Nat} {s l : Nat → Int} (hk : 2 ≤ k) (hs : ∀ j, 0 ≤ s j) (hl : ∀ j, 0 ≤ l j) (h0 : 0 < l 0) {h : Nat} {n v : Int} (n0 : 0 ≤ n) (hv : Cnt k s l h n v) : v ≤ n + 2 := by
  rcases Int.lt_or_le (n + 2) v with z | z
  · have h1 := (hv.2 (n + 2).toNat).mp (by omega)
    have h2 := pl_ge hk hs hl h0 h (n + 2).toNat
    omega
  · exact z
end Sm
/-! sums over powers and quotients; bounds of places -/
namespace Sm
def psum (k : Nat) (f : Nat → Int) (b sh : Nat) : Int := smN (fun j => if k ^ j ≤ b then f (sh + j) else 0) b
def lsum (k : Nat) (f : Nat → Int) (b sh : Nat) : Int := smN (fun j => ((b / k ^ (j + 1) : Nat) : Int) * f (sh + j)) b
theorem smN_same {f : Nat → Int} {n m : Nat} (h1 : ∀ j, n ≤ j → f j = 0) (h2 : ∀ j, m ≤ j → f j = 0) : smN f n = smN f m := by
  have a := smN_ext (f := f) (n := n) (m := n + m) (by omega) h1
  have b := smN_ext (f := f) (n := m) (m := n + m) (by omega) h2
  rw [← a, b]
theorem psum_is {k : Nat} (hk : 2 ≤ k) {f : Nat → Int} {b sh t : Nat} (ht : b < k ^ t) : smN (fun j => if k ^ j ≤ b then f (sh + j) else 0) t = psum k f b sh := by
  refine smN_same (fun j hj => if_neg ?_) fun j hj => if_neg ?_
  · have := Nat.pow_le_pow_right (n := k) (by omega) hj
    omega
  · have := lt_pow hk j
    omega
theorem lsum_is {k : Nat} (hk : 2 ≤ k) {f : Nat → Int} {b sh t : Nat} (ht : b < k ^ (t + 1)) : smN (fun j => ((b / k ^ (j + 1) : Nat) : Int) * f (sh + j)) t = lsum k f b sh := by
  refine smN_same (fun j hj => ?_) fun j hj => ?_
  · have : b < k ^ (j + 1) := Nat.lt_of_lt_of_le ht (Nat.pow_le_pow_right (by omega) (by omega))
    rw [Nat.div_eq_of_lt this]
    simp
  · have : b < k ^ (j + 1) := Nat.lt_trans (Nat.lt_of_le_of_lt hj (lt_pow hk j)) (Nat.pow_lt_pow_right (by omega) (Nat.lt_succ_self j))
    rw [Nat.div_eq_of_lt this]
    simp
variable {k : Nat} {s l : Nat → Int}
theorem pl_sums (hk : 2 ≤ k) {h b : Nat} (hb : 0 < b) : pl k s l h b = ed k s l h + l h + ((b : Int) - 1) * siz k l h + lsum k l b (h + 1) + psum k s b (h + 1) := by
  rw [pl_form hb (lt_pow hk b) (Nat.lt_trans (lt_pow hk b) (Nat.pow_lt_pow_right (by omega) (Nat.lt_succ_self b))) hk]
  unfold psum lsum
  have e : smN (fun j => ((b / k ^ (j + 1) : Nat) : Int) * l (h + (j + 1))) b = smN (fun j => ((b / k ^ (j + 1) : Nat) : Int) * l (h + 1 + j)) b := smN_congr fun j _ => by rw [show h + (j + 1) = h + 1 + j by omega]
  rw [e]
  omega
theorem pl_leaf (hk : 2 ≤ k) {b : Nat} : pl k s l 0 b = s 0 + (b : Int) * l 0 + lsum k l b 1 + psum k s b 1 := by
  rcases Nat.eq_zero_or_pos b with z | z
  · subst z
    rw [pl_zero]
    simp [fp, lsum, psum, smN]
  · rw [pl_sums hk z, Nat.zero_add, show ed k s l 0 = s 0 from rfl, show siz k l 0 = l 0 from rfl, Int.sub_mul]
    omega
/-! ### bounds -/
end Sm
/-! pruning: the labels of height 0 taken away -/
namespace Sm
def shf (f : Nat → Int) : Nat → Int := fun j => f (j + 1)
section
variable {k : Nat} {s l : Nat → Int}
theorem pw_succ (k h : Nat) : ((k ^ (h + 1) : Nat) : Int) = (k : Int) * ((k ^ h : Nat) : Int) := by
  rw [Nat.pow_succ, Nat.mul_comm, Int.natCast_mul]
theorem siz_pr : ∀ h, siz k l (h + 1) = siz k (shf l) h + ((k ^ (h + 1) : Nat) : Int) * l 0
  | 0 => by
    rw [siz, siz, pw_succ, Nat.pow_zero]
    show l 1 + (k : Int) * l 0 = l 1 + (k : Int) * ((1 : Nat) : Int) * l 0
    simp
  | h + 1 => by
    rw [siz, siz_pr h, siz, pw_succ k (h + 1)]
    show l (h + 2) + _ = l (h + 2) + _ + _
    rw [Int.mul_add, Int.mul_assoc]
    omega
theorem ed_pr : ∀ h, ed k s l (h + 1) = ed k (shf s) (shf l) h + s 0 + ((k ^ (h + 1) : Nat) : Int) * l 0 - l 0
  | 0 => by
    rw [ed, ed, ed, pw_succ, Nat.pow_zero, siz]
    show s 0 + s 1 + ((k : Int) - 1) * l 0 = s 1 + s 0 + (k : Int) * ((1 : Nat) : Int) * l 0 - l 0
    rw [Int.sub_mul]
    simp
    omega
  | h + 1 => by
    rw [ed, ed_pr h, ed, pw_succ k (h + 1), siz_pr h]
    show _ + s (h + 2) + _ = _ + s (h + 2) + _ + _ + _ - _
    generalize ((k ^ (h + 1) : Nat) : Int) = p
    rw [Int.mul_add, Int.sub_mul _ _ (p * l 0), Int.one_mul, Int.mul_assoc]
    omega
theorem lsum_sh (b h : Nat) : lsum k (shf l) b h = lsum k l b (h + 1) := by
  unfold lsum
  refine smN_congr fun j _ => ?_
  show _ * l (h + j + 1) = _
  rw [show h + j + 1 = h + 1 + j by omega]
theorem psum_sh (b h : Nat) : psum k (shf s) b h = psum k s b (h + 1) := by
  unfold psum
  refine smN_congr fun j _ => ?_
  show (if _ then s (h + j + 1) else 0) = _
  rw [show h + j + 1 = h + 1 + j by omega]
/-- how many leaves lie before the node's own labels -/
def vL (k h b : Nat) : Nat := if b = 0 then k ^ h else k ^ (h + 1) * b
theorem vL_pos (hk : 2 ≤ k) (h b : Nat) : 0 < vL k h b := by
  unfold vL
  split
  · exact Nat.pow_pos (by omega)
  · exact Nat.mul_pos (Nat.pow_pos (by omega)) (by omega)
theorem pl_pr (hk : 2 ≤ k) (h b : Nat) : pl k s l (h + 1) b = pl k (shf s) (shf l) h b + s 0 + ((vL k h b : Int) - 1) * l 0 := by
  rcases Nat.eq_zero_or_pos b with z | z
  · subst z
    rw [pl_zero, pl_zero, fp, fp, if_neg (by omega), Nat.add_sub_cancel]
    show ed k s l h + s (h + 1) = _ + s (h + 1) + s 0 + (((k ^ h : Nat) : Int) - 1) * l 0
    cases h with
    | zero =>
      rw [if_pos rfl, ed, Nat.pow_zero]
      show s 0 + s 1 = 0 + s 1 + s 0 + (((1 : Nat) : Int) - 1) * l 0
      simp
      omega
    | succ h =>
      rw [if_neg (by omega), Nat.add_sub_cancel, ed_pr, Int.sub_mul]
      omega
  · rw [pl_sums hk z, pl_sums hk z, ed_pr, siz_pr, lsum_sh, psum_sh]
    unfold vL
    rw [if_neg (by omega), Int.natCast_mul]
    show _ + l (h + 1) + _ + _ + _ = _ + l (h + 1) + _ + _ + _ + _ + _
    generalize ((k ^ (h + 1) : Nat) : Int) = p
    rw [Int.mul_add, Int.sub_mul _ _ (p * l 0), Int.sub_mul _ _ (l 0), Int.one_mul, Int.one_mul, Int.mul_comm p (b : Int), Int.mul_assoc]
    omega
theorem lsum_k (hk : 2 ≤ k) (b h : Nat) : lsum k l (k * b) h = (b : Int) * l h + lsum k l b (h + 1) := by
  have h1 : k * b < k ^ (k * b + 1) := Nat.lt_trans (lt_pow hk (k * b)) (Nat.pow_lt_pow_right (by omega) (Nat.lt_succ_self _))
  rw [← lsum_is hk (t := k * b + 1) (Nat.lt_of_lt_of_le h1 (Nat.pow_le_pow_right (by omega) (by omega))), ← lsum_is hk (t := k * b) (b := b) (Nat.lt_of_le_of_lt (Nat.le_mul_of_pos_left _ (by omega)) h1), smN_head]
  congr 1
  · rw [Nat.zero_add, Nat.pow_one, Nat.mul_div_cancel_left _ (by omega), Nat.add_zero]
  · refine smN_congr fun j _ => ?_
    rw [Nat.pow_succ k (j + 1), Nat.mul_comm _ k, Nat.mul_div_mul_left _ _ (by omega), show h + (j + 1) = h + 1 + j by omega]
theorem psum_k (hk : 2 ≤ k) {b : Nat} (hb : 0 < b) (h : Nat) : psum k s (k * b) h = s h + psum k s b (h + 1) := by
  have h1 : k * b < k ^ (k * b) := Nat.lt_pow_self (by omega)
  rw [← psum_is hk (t := k * b + 1) (Nat.lt_of_lt_of_le h1 (Nat.pow_le_pow_right (by omega) (by omega))), ← psum_is hk (t := k * b) (b := b) (Nat.lt_of_le_of_lt (Nat.le_mul_of_pos_left _ (by omega)) h1), smN_head]
  congr 1
  · rw [Nat.pow_zero, if_pos (show 1 ≤ k * b from Nat.mul_pos (by omega) hb), Nat.add_zero]
  · refine smN_congr fun j _ => ?_
    have e : k ^ (j + 1) ≤ k * b ↔ k ^ j ≤ b := by
      rw [Nat.pow_succ, Nat.mul_comm]
      exact Nat.mul_le_mul_left_iff (by omega)
    rw [show h + (j + 1) = h + 1 + j by omega]
    by_cases c : k ^ j ≤ b
    · rw [if_pos c, if_pos (e.mpr c)]
    · rw [if_neg c, if_neg (fun z => c (e.mp z))]
/-- the first child -/
theorem pl_child (hk : 2 ≤ k) {b : Nat} (hb : 0 < b) (h : Nat) : pl k s l h (k * b) = pl k s l (h + 1) b + l h := by
  rw [pl_sums hk (Nat.mul_pos (by omega) hb), pl_sums hk hb, lsum_k hk, psum_k hk hb, ed, siz, Int.natCast_mul]
  generalize siz k l h = z
  have e : ((b : Int) - 1) * (l (h + 1) + (k : Int) * z) = (b : Int) * l (h + 1) - l (h + 1) + ((k : Int) * (b : Int)) * z - (k : Int) * z := by
    rw [Int.sub_mul, Int.one_mul, Int.mul_add, ← Int.mul_assoc, Int.mul_comm (b : Int) (k : Int)]
    omega
  rw [e, Int.sub_mul, Int.sub_mul, Int.one_mul]
  omega
theorem pl_first (hk : 2 ≤ k) (h : Nat) : pl k s l h 1 = pl k s l (h + 1) 0 + l h := by
  rw [pl_sums hk (by omega), pl_zero, fp, if_neg (by omega), Nat.add_sub_cancel]
  have e1 : lsum k l 1 (h + 1) = 0 := by
    rw [← lsum_is hk (t := 0) (by rw [Nat.zero_add, Nat.pow_one]; omega)]
    rfl
  have e2 : psum k s 1 (h + 1) = s (h + 1) := by
    rw [← psum_is hk (t := 1) (by rw [Nat.pow_one]; omega), smN, smN, Nat.pow_zero, if_pos (Nat.le_refl 1)]
    show 0 + s (h + 1 + 0) = _
    rw [Nat.add_zero, Int.zero_add]
  rw [e1, e2]
  simp
  omega
theorem pl_down (hk : 2 ≤ k) : ∀ (h : Nat) {b : Nat}, 0 < b → pl k s l 0 (k ^ h * b) = pl k s l h b + smN l h
  | 0, b, hb => by rw [Nat.pow_zero, Nat.one_mul, smN, Int.add_zero]
  | h + 1, b, hb => by
    rw [Nat.pow_succ, Nat.mul_assoc, pl_down hk h (Nat.mul_pos (by omega) hb), pl_child hk hb, smN]
    omega
theorem pl_vL (hk : 2 ≤ k) (h b : Nat) : pl k s l 0 (vL k h b) = pl k s l (h + 1) b + smN l (h + 1) := by
  unfold vL
  split
  · rename_i z
    subst z
    have := pl_down (s := s) (l := l) hk h (b := 1) (by omega)
    rw [Nat.mul_one] at this
    rw [this, pl_first hk, smN]
    omega
  · exact pl_down hk (h + 1) (by omega)
theorem smN_mon {f : Nat → Int} (h : ∀ j, 0 ≤ f j) {n m : Nat} (hn : n ≤ m) : smN f n ≤ smN f m := by
  induction m with
  | zero =>
    have : n = 0 := by omega
    subst this
    exact Int.le_refl _
  | succ m ih =>
    rcases Nat.lt_or_ge m n with z | z
    · have : n = m + 1 := by omega
      subst this
      exact Int.le_refl _
    · have := ih z
      have := h m
      rw [smN]
      omega
theorem smN_nn0 {f : Nat → Int} (h : ∀ j, 0 ≤ f j) (n : Nat) : 0 ≤ smN f n := smN_mon h (Nat.zero_le n)
/-- the step before a leaf whose number has a power -/
theorem pl_prev (hk : 2 ≤ k) (hs : ∀ j, 0 ≤ s j) (hl : ∀ j, 0 ≤ l j) {t v : Nat} (hv : k ^ t ∣ v) (v0 : 0 < v) : pl k s l 0 (v - 1) + smN l (t + 1) ≤ pl k s l 0 v := by
  obtain ⟨b, rfl⟩ : ∃ b, v = b + 1 := ⟨v - 1, by omega⟩
  rw [Nat.add_sub_cancel, pl0_place hk, pl0_place hk]
  have hN : b + 1 < k ^ (b + 1 + t) := Nat.lt_of_lt_of_le (Nat.lt_pow_self (by omega)) (Nat.pow_le_pow_right (by omega) (by omega))
  have h1 := place_step (s := s) (l := l) hk hN
  have h2 : 0 ≤ smN (fun j => if k ^ j = b + 1 then s (j + 1) else 0) (b + 1 + t) := smN_nn0 (fun j => by split; exact hs _; exact Int.le_refl _) _
  have h3 : smN (fun j => if k ^ j ∣ b + 1 then l j else 0) (t + 1) ≤ smN (fun j => if k ^ j ∣ b + 1 then l j else 0) (b + 1 + t + 1) := smN_mon (fun j => by split; exact hl _; exact Int.le_refl _) (by omega)
  have h4 : smN (fun j => if k ^ j ∣ b + 1 then l j else 0) (t + 1) = smN l (t + 1) := smN_congr fun j hj => if_pos (Nat.dvd_trans (Nat.pow_dvd_pow k (by omega)) hv)
  omega
theorem vL_prev (hk : 2 ≤ k) (hs : ∀ j, 0 ≤ s j) (hl : ∀ j, 0 ≤ l j) (h b : Nat) : pl k s l 0 (vL k h b - 1) + (if b = 0 then 0 else l (h + 1)) ≤ pl k s l (h + 1) b := by
  have e := pl_vL (s := s) (l := l) hk h b
  have v0 := vL_pos hk h b
  by_cases z : b = 0
  · have h1 := pl_prev (s := s) (l := l) hk hs hl (t := h) (v := vL k h b) (by unfold vL; rw [if_pos z]; exact Nat.dvd_refl _) v0
    rw [if_pos z]
    omega
  · have h1 := pl_prev (s := s) (l := l) hk hs hl (t := h + 1) (v := vL k h b) (by unfold vL; rw [if_neg z]; exact Nat.dvd_mul_right _ _) v0
    rw [smN] at h1
    rw [if_neg z]
    omega
/-- the labels of height h among the first n labels, v nodes being finished -/
def lcv (k : Nat) (s l : Nat → Int) (h : Nat) (n v : Int) : Int := max (n - (pl k s l h v.toNat - lab s l h v.toNat)) 0 + if 0 < v then s h + (v - 1) * l h else 0
theorem pl_far (hk : 2 ≤ k) (hs : ∀ j, 0 ≤ s j) (hl : ∀ j, 0 ≤ l j) (h0 : 0 < l 0) (h b : Nat) : ∀ d : Nat, pl k s l h b + (d : Int) * l h ≤ pl k s l h (b + d)
  | 0 => by simp
  | d + 1 => by
    have h1 := pl_far hk hs hl h0 h b d
    have h2 := pl_step hk hs hl h0 h (b + d)
    unfold lab at h2
    rw [if_neg (by omega)] at h2
    rw [show b + (d + 1) = b + d + 1 by omega, Int.natCast_add, Int.add_mul]
    simp
    omega
theorem Cnt.mono {h : Nat} {n m v u : Int} (a : Cnt k s l h n v) (b : Cnt k s l h m u) (hn : n ≤ m) : v ≤ u := by
  rcases (show v ≤ u ∨ u < v by omega) with z | z
  · exact z
  · have u0 := b.1
    have h1 := (a.2 u.toNat).mp (by omega)
    have h2 := (b.2 u.toNat).mpr (by omega)
    omega
/-- what is left without the labels of the height grows with n -/
theorem lcv_mono (hk : 2 ≤ k) (hs : ∀ j, 0 ≤ s j) (hl : ∀ j, 0 ≤ l j) (h0 : 0 < l 0) {h : Nat} {n m v u : Int} (a : Cnt k s l h n v) (b : Cnt k s l h m u) (hn : n ≤ m) : n - lcv k s l h n v ≤ m - lcv k s l h m u := by
  have hv := a.mono b hn
  have v0 := a.1
  have u0 := b.1
  obtain ⟨v, rfl⟩ := Int.eq_ofNat_of_zero_le v0
  obtain ⟨u, rfl⟩ := Int.eq_ofNat_of_zero_le u0
  unfold lcv
  rw [Int.toNat_natCast, Int.toNat_natCast]
  rcases Nat.lt_or_ge v u with z | z
  · obtain ⟨d, rfl⟩ : ∃ d, u = v + d + 1 := ⟨u - v - 1, by omega⟩
    have h1 := pl_far hk hs hl h0 h v d
    have h2 := pl_step hk hs hl h0 h (v + d)
    have h3 := (b.2 (v + d)).mp (by omega)
    have h4 := pl_lab hk hs hl h0 h v
    have e : (((v + d + 1 : Nat) : Int) - 1) * l h = (v : Int) * l h + (d : Int) * l h := by
      rw [show (((v + d + 1 : Nat) : Int) - 1) = (v : Int) + (d : Int) by omega, Int.add_mul]
    rw [if_pos (show (0 : Int) < ((v + d + 1 : Nat) : Int) by omega), e]
    by_cases hz : v = 0
    · subst hz
      have e0 : lab s l h 0 = s h := rfl
      rw [if_neg (show ¬ (0 : Int) < ((0 : Nat) : Int) by omega), e0]
      rw [e0] at h4
      have e3 : ((0 : Nat) : Int) * l h = 0 := by simp
      omega
    · have e0 : lab s l h v = l h := by unfold lab; rw [if_neg hz]
      rw [if_pos (show (0 : Int) < (v : Int) by omega), e0, Int.sub_mul, Int.one_mul]
      omega
  · have : u = v := by omega
    subst this
    omega
/-- .. at the own place of a node one higher, and just before it -/
theorem cnt_vL (hk : 2 ≤ k) (hs : ∀ j, 0 ≤ s j) (hl : ∀ j, 0 ≤ l j) (h0 : 0 < l 0) {h b : Nat} {n : Int} (h1 : pl k s l (h + 1) b - (if b = 0 then 0 else l (h + 1)) ≤ n) (h2 : n ≤ pl k s l (h + 1) b) : Cnt k s l 0 n (vL k h b : Int) := by
  refine ⟨by omega, fun c => ⟨fun z => ?_, fun z => ?_⟩⟩
  · have e1 := pl_mono hk hs hl h0 0 (show c ≤ vL k h b - 1 by omega)
    have e2 := vL_prev (s := s) (l := l) hk hs hl h b
    omega
  · rcases (show (c : Int) < (vL k h b : Int) ∨ vL k h b ≤ c by omega) with y | y
    · exact y
    · have e1 := pl_mono hk hs hl h0 0 y
      have e2 := pl_vL (s := s) (l := l) hk h b
      have e3 : smN l 1 ≤ smN l (h + 1) := smN_mon hl (by omega)
      have e4 : smN l 1 = l 0 := by rw [smN, smN, Int.zero_add]
      omega
theorem lcv_vL (hk : 2 ≤ k) (hl : ∀ j, 0 ≤ l j) {h b : Nat} {n : Int} (h2 : n ≤ pl k s l (h + 1) b) : n - lcv k s l 0 n (vL k h b : Int) = n - pl k s l (h + 1) b + pl k (shf s) (shf l) h b := by
  have v0 := vL_pos hk h b
  have e1 := pl_pr (s := s) (l := l) hk h b
  have e2 := pl_vL (s := s) (l := l) hk h b
  have e3 : smN l 1 ≤ smN l (h + 1) := smN_mon hl (by omega)
  have e4 : smN l 1 = l 0 := by rw [smN, smN, Int.zero_add]
  have e5 : lab s l 0 (vL k h b) = l 0 := by unfold lab; rw [if_neg (by omega)]
  unfold lcv
  rw [Int.toNat_natCast, if_pos (by omega), e5]
  omega
/-- pruning keeps the order of nodes and labels -/
theorem prune_le (hk : 2 ≤ k) (hs : ∀ j, 0 ≤ s j) (hl : ∀ j, 0 ≤ l j) (h0 : 0 < l 0) {h b : Nat} {n v : Int} (hv : Cnt k s l 0 n v) (hn : pl k s l (h + 1) b ≤ n) : pl k (shf s) (shf l) h b ≤ n - lcv k s l 0 n v := by
  have c0 : (0 : Int) ≤ if b = 0 then 0 else l (h + 1) := by split; exact Int.le_refl _; exact hl _
  have h1 := lcv_mono hk hs hl h0 (cnt_vL hk hs hl h0 (h := h) (b := b) (by omega) (Int.le_refl _)) hv hn
  rw [lcv_vL hk hl (Int.le_refl _)] at h1
  omega
theorem prune_lt (hk : 2 ≤ k) (hs : ∀ j, 0 ≤ s j) (hl : ∀ j, 0 ≤ l j) (h0 : 0 < l 0) {h b : Nat} {n v : Int} (hv : Cnt k s l 0 n v) (hb : 0 < b) (h1 : 0 < l (h + 1)) (hn : n < pl k s l (h + 1) b) : n - lcv k s l 0 n v < pl k (shf s) (shf l) h b := by
  have h2 := lcv_mono hk hs hl h0 hv (cnt_vL hk hs hl h0 (h := h) (b := b) (n := pl k s l (h + 1) b - 1) (by rw [if_neg (by omega)]; omega) (by omega)) (by omega)
  rw [lcv_vL hk hl (by omega)] at h2
  omega
theorem lcv_nn (hk : 2 ≤ k) (hs : ∀ j, 0 ≤ s j) (hl : ∀ j, 0 ≤ l j) {h : Nat} {n v : Int} : 0 ≤ lcv k s l h n v := by
  unfold lcv
  split
  · have h1 := hs h
    have h2 : 0 ≤ (v - 1) * l h := Int.mul_nonneg (by omega) (hl h)
    omega
  · omega
theorem lcv_le (hk : 2 ≤ k) (hs : ∀ j, 0 ≤ s j) (hl : ∀ j, 0 ≤ l j) (h0 : 0 < l 0) {h : Nat} {n v : Int} (n0 : 0 ≤ n) (hv : Cnt k s l h n v) : lcv k s l h n v ≤ n := by
  have v0 := hv.1
  obtain ⟨v, rfl⟩ := Int.eq_ofNat_of_zero_le v0
  unfold lcv
  rw [Int.toNat_natCast]
  have h4 := pl_lab hk hs hl h0 h v
  by_cases hz : v = 0
  · subst hz
    rw [if_neg (by omega)]
    omega
  · obtain ⟨d, rfl⟩ : ∃ d, v = d + 1 := ⟨v - 1, by omega⟩
    have h1 := pl_far hk hs hl h0 h 0 d
    have h2 := pl_step hk hs hl h0 h d
    have h3 := (hv.2 d).mp (by omega)
    have h5 := pl_lab hk hs hl h0 h 0
    have e0 : lab s l h 0 = s h := rfl
    have e : (((d + 1 : Nat) : Int) - 1) = (d : Int) := by omega
    rw [if_pos (by omega), e]
    rw [Nat.zero_add] at h1
    omega
end
end Sm
/-! the labels of all heights make up all labels -/
namespace Sm
/-- the part of the labels a+1 .. a+w that lies up to n -/
def cl (n a w : Int) : Int := max 0 (min (n - a) w)
def sg (f : Nat → Int) (lo c : Nat) : Int := smN (fun i => f (lo + i)) c
section
variable {k : Nat} {s l : Nat → Int}
theorem lsum_same (hk : 2 ≤ k) {c : Nat} (hc : ¬ k ∣ c + 1) (h : Nat) : lsum k l (c + 1) h = lsum k l c h := by
  have h1 : c + 1 < k ^ (c + 1 + 1) := Nat.lt_trans (lt_pow hk (c + 1)) (Nat.pow_lt_pow_right (by omega) (Nat.lt_succ_self _))
  rw [← lsum_is hk (t := c + 1) h1, ← lsum_is hk (t := c + 1) (b := c) (by omega)]
  refine smN_congr fun j _ => ?_
  have := dvd_iff_div (m := k ^ (j + 1)) (b := c) (Nat.pow_pos (by omega))
  rw [if_neg (fun z => hc (Nat.dvd_trans ⟨k ^ j, by rw [Nat.pow_succ, Nat.mul_comm]⟩ z))] at this
  congr 1
  omega
theorem psum_same (hk : 2 ≤ k) {c : Nat} (hc : ¬ k ∣ c + 1) (c0 : 0 < c) (h : Nat) : psum k s (c + 1) h = psum k s c h := by
  have h1 := lt_pow hk (c + 1)
  rw [← psum_is hk (t := c + 1) h1, ← psum_is hk (t := c + 1) (b := c) (by omega)]
  refine smN_congr fun j _ => ?_
  have e : k ^ j ≤ c + 1 ↔ k ^ j ≤ c := by
    refine ⟨fun z => ?_, fun z => by omega⟩
    rcases Nat.lt_or_ge c (k ^ j) with y | y
    · exfalso
      have : k ^ j = c + 1 := by omega
      cases j with
      | zero => rw [Nat.pow_zero] at this; omega
      | succ j => exact hc ⟨k ^ j, by rw [← this, Nat.pow_succ, Nat.mul_comm]⟩
    · exact y
  by_cases z : k ^ j ≤ c
  · rw [if_pos z, if_pos (e.mpr z)]
  · rw [if_neg z, if_neg (fun y => z (e.mp y))]
/-- siblings -/
theorem pl_sib (hk : 2 ≤ k) {c : Nat} (hc : ¬ k ∣ c + 1) (c0 : 0 < c) (h : Nat) : pl k s l h (c + 1) = pl k s l h c + siz k l h := by
  rw [pl_sums hk (by omega), pl_sums hk c0, lsum_same hk hc, psum_same hk hc c0, show (((c + 1 : Nat) : Int) - 1) = ((c : Int) - 1) + 1 by omega, Int.add_mul, Int.one_mul]
  omega
theorem pl_sibs (hk : 2 ≤ k) (h : Nat) {b : Nat} (hb : 0 < b) : ∀ i, i < k → pl k s l h (b * k + i) = pl k s l h (b * k) + (i : Int) * siz k l h
  | 0, _ => by simp
  | i + 1, hi => by
    have h1 := pl_sibs hk h hb i (by omega)
    have h2 : 0 < b * k := Nat.mul_pos hb (by omega)
    rw [show b * k + (i + 1) = b * k + i + 1 by omega, pl_sib hk (fun z => ?_) (by omega), h1, Int.natCast_add, Int.add_mul]
    · simp
      omega
    · rw [show b * k + i + 1 = b * k + (i + 1) by omega] at z
      have := (Nat.dvd_add_right (Nat.dvd_mul_left k b)).mp z
      have := Nat.le_of_dvd (by omega) this
      omega
theorem pl_sib0 (hk : 2 ≤ k) (h : Nat) : ∀ i, i + 1 < k → pl k s l h (i + 1) = pl k s l h 1 + (i : Int) * siz k l h
  | 0, _ => by simp
  | i + 1, hi => by
    have h1 := pl_sib0 hk h i (by omega)
    rw [pl_sib hk (fun z => ?_) (by omega), h1, Int.natCast_add, Int.add_mul]
    · simp
      omega
    · have := Nat.le_of_dvd (by omega) z
      omega
/-- where a node's own labels begin -/
def stt (k : Nat) (s l : Nat → Int) (h b : Nat) : Int := pl k s l h b - lab s l h b
end
end Sm
/-! labels by number; another arity; greater schedules -/
namespace Sm
/-! ### another arity -/
section
variable {k e : Nat} {s l s2 l2 : Nat → Int}
theorem leaf_full (hk : 2 ≤ k) {b N : Nat} (hb : b < k ^ N) : pl k s l 0 b = s 0 + smN (fun i => ((b / k ^ i : Nat) : Int) * l i) (N + 1) + smN (fun j => if k ^ j ≤ b then s (1 + j) else 0) N := by
  rw [pl_leaf hk, ← psum_is hk hb, ← lsum_is hk (t := N) (Nat.lt_trans hb (Nat.pow_lt_pow_right (by omega) (Nat.lt_succ_self N))), smN_head, Nat.pow_zero, Nat.div_one]
  have : smN (fun j => ((b / k ^ (j + 1) : Nat) : Int) * l (1 + j)) N = smN (fun j => ((b / k ^ (j + 1) : Nat) : Int) * l (j + 1)) N := smN_congr fun j _ => by rw [Nat.add_comm 1 j]
  rw [this]
  omega
/-! ### greater schedules -/
end
end Sm
/-! S15: the reading: a value as a sum of values of the pruned sequence; the nested equation of the constant schedule -/
namespace Sm
theorem smN_rev (f : Nat → Int) : ∀ n : Nat, smN (fun i => f (n - 1 - i)) n = smN f n
  | 0 => rfl
  | n + 1 => by
    rw [smN_head]
    show f (n + 1 - 1 - 0) + _ = smN f n + f n
    rw [← smN_rev f n, show n + 1 - 1 - 0 = n by omega]
    have : smN (fun j => f (n + 1 - 1 - (j + 1))) n = smN (fun i => f (n - 1 - i)) n := smN_congr fun j _ => by rw [show n + 1 - 1 - (j + 1) = n - 1 - j by omega]
    rw [this]
    omega
/-- the sum of (V + i) / k over i < k is V -/
theorem hermite {k : Nat} (hk : 0 < k) : ∀ V : Nat, smN (fun i => (((V + i) / k : Nat) : Int)) k = (V : Int)
  | 0 => by
    have h : ∀ n, n ≤ k → smN (fun i => (((0 + i) / k : Nat) : Int)) n = 0 := fun n => by
      induction n with
      | zero => intro _; rfl
      | succ n ih =>
        intro hn
        show smN _ n + (((0 + n) / k : Nat) : Int) = 0
        rw [ih (by omega), Nat.zero_add, Nat.div_eq_of_lt (by omega)]
        rfl
    rw [h k (Nat.le_refl k)]
    rfl
  | V + 1 => by
    have ih := hermite hk V
    have sh : ∀ (f : Nat → Int) (n : Nat), smN (fun i => f (i + 1)) n + f 0 = smN f n + f n := fun f n => by
      induction n with
      | zero => show (0 : Int) + f 0 = 0 + f 0; rfl
      | succ n ih =>
        show smN (fun i => f (i + 1)) n + f (n + 1) + f 0 = smN f n + f n + f (n + 1)
        omega
    have e : smN (fun i => (((V + 1 + i) / k : Nat) : Int)) k = smN (fun i => (((V + (i + 1)) / k : Nat) : Int)) k := smN_congr fun i _ => by rw [Nat.add_right_comm V 1 i, Nat.add_assoc]
    have h := sh (fun i => (((V + i) / k : Nat) : Int)) k
    have e2 : (V + k) / k = V / k + 1 := Nat.add_div_right V hk
    have h' : smN (fun i => (((V + (i + 1)) / k : Nat) : Int)) k + ((V / k : Nat) : Int) = smN (fun i => (((V + i) / k : Nat) : Int)) k + (((V + k) / k : Nat) : Int) := h
    rw [e]
    rw [e2] at h'
    rw [ih] at h'
    omega
section
variable {k : Nat} {s l : Nat → Int}
theorem Cnt.sub {h : Nat} {n v u : Int} (a : Cnt k s l h n v) (b : Cnt k s l h n u) : v = u := cnt_uniq a.1 b.1 fun i => (a.2 i).trans (b.2 i).symm
theorem pl10 : pl k s l 1 0 = s 0 + s 1 := by
  rw [pl_zero, fp, if_neg (by omega)]
  rfl
theorem pl00 : pl k s l 0 0 = s 0 := by
  rw [pl_zero, fp, if_pos rfl, Int.zero_add]
/-- the c-th child of a node of height 1 -/
theorem pl_kid (hk : 2 ≤ k) {b c : Nat} (hb : 0 < b) (hc : c < k) : pl k s l 0 (k * b + c) = pl k s l 1 b + ((c : Int) + 1) * l 0 := by
  have h1 := pl_sibs (s := s) (l := l) hk 0 hb c hc
  rw [Nat.mul_comm k b, h1, Nat.mul_comm b k, pl_child hk hb, Int.add_mul, Int.one_mul]
  show pl k s l 1 b + l 0 + (c : Int) * l 0 = _
  omega
theorem pl_kid0 (hk : 2 ≤ k) {c : Nat} (c0 : 0 < c) (hc : c < k) : pl k s l 0 c = s 0 + s 1 + (c : Int) * l 0 := by
  obtain ⟨i, rfl⟩ : ∃ i, c = i + 1 := ⟨c - 1, by omega⟩
  rw [pl_sib0 hk 0 i hc, pl_first hk]
  show pl k s l 1 0 + l 0 + (i : Int) * l 0 = _
  rw [pl10, Int.natCast_add, Int.add_mul, Int.natCast_one, Int.one_mul]
  omega
theorem read_cnt (hk : 2 ≤ k) (hs : ∀ j, 0 ≤ s j) (hl : ∀ j, 0 ≤ l j) (h0 : 0 < l 0) {n V : Int} {c : Nat} (hc : c < k) (hV : Cnt k s l 0 n V) (hn : s 0 + s 1 + (k : Int) * l 0 ≤ n) (b : Nat) : pl k s l 1 b ≤ n - ((c : Int) + 1) * l 0 ↔ ((k * b + c : Nat) : Int) < V := by
  have mul : ((c : Int) + 1) * l 0 ≤ (k : Int) * l 0 := Int.mul_le_mul_of_nonneg_right (by omega) (by omega)
  rcases Nat.eq_zero_or_pos b with rfl | hb
  · refine ⟨fun _ => ?_, fun _ => by rw [pl10]; omega⟩
    rw [Nat.mul_zero, Nat.zero_add, hV.2]
    rcases Nat.eq_zero_or_pos c with rfl | c0
    · have := hs 1
      have : 0 ≤ (k : Int) * l 0 := Int.mul_nonneg (by omega) (by omega)
      rw [pl00]
      omega
    · rw [pl_kid0 hk c0 hc]
      rw [Int.add_mul, Int.one_mul] at mul
      omega
  · rw [hV.2, pl_kid hk hb hc]
    omega
theorem read_u (hk : 2 ≤ k) (hs : ∀ j, 0 ≤ s j) (hl : ∀ j, 0 ≤ l j) (h0 : 0 < l 0) (h1 : 0 < l 1) {m v u : Int} (hv : Cnt k s l 0 m v) (hm : s 0 + s 1 ≤ m) (hu : Cnt k (shf s) (shf l) 0 (m - lcv k s l 0 m v) u) (b : Nat) : (b : Int) < u ↔ pl k s l 1 b ≤ m := by
  rw [hu.2]
  refine ⟨fun h => ?_, fun h => prune_le (h := 0) hk hs hl h0 hv h⟩
  rcases Nat.eq_zero_or_pos b with rfl | hb
  · rw [pl10]
    exact hm
  · rcases (show m < pl k s l 1 b ∨ pl k s l 1 b ≤ m by omega) with z | z
    · have := prune_lt (h := 0) hk hs hl h0 hv hb h1 z
      omega
    · exact z
/-- THE READING -/
theorem reading_eq (hk : 2 ≤ k) (hs : ∀ j, 0 ≤ s j) (hl : ∀ j, 0 ≤ l j) (h0 : 0 < l 0) (h1 : 0 < l 1) {n V : Int} (hV : Cnt k s l 0 n V) (hn : s 0 + s 1 + (k : Int) * l 0 ≤ n) {v u : Nat → Int}
    (hv : ∀ i, i < k → Cnt k s l 0 (n - ((i : Int) + 1) * l 0) (v i)) (hu : ∀ i, i < k → Cnt k (shf s) (shf l) 0 (n - ((i : Int) + 1) * l 0 - lcv k s l 0 (n - ((i : Int) + 1) * l 0) (v i)) (u i)) : smN u k = V := by
  have hV0 : V = ((V.toNat : Nat) : Int) := (Int.toNat_of_nonneg hV.1).symm
  have key : ∀ i, i < k → u i = (((V.toNat + (k - 1 - i)) / k : Nat) : Int) := fun i hi => by
    have mul : ((i : Int) + 1) * l 0 ≤ (k : Int) * l 0 := Int.mul_le_mul_of_nonneg_right (by omega) (by omega)
    refine cnt_uniq (hu i hi).1 (Int.natCast_nonneg _) fun b => ?_
    rw [read_u hk hs hl h0 h1 (hv i hi) (by omega) (hu i hi), read_cnt hk hs hl h0 hi hV hn]
    have e := Nat.le_div_iff_mul_le (x := b + 1) (y := V.toNat + (k - 1 - i)) (k0 := show 0 < k by omega)
    have e2 : (b + 1) * k = k * b + k := by rw [Nat.add_mul, Nat.one_mul, Nat.mul_comm]
    rw [e2] at e
    omega
  rw [smN_congr key, smN_rev fun i => (((V.toNat + i) / k : Nat) : Int), hermite (by omega), ← hV0]
/-! ### the constant schedule -/
/-- one label on each branch node, g on each spine node but the first -/
structure Kst (g : Int) (s l : Nat → Int) : Prop where
  g0 : 0 ≤ g
  s0 : s 0 = 1
  s1 : ∀ j, s (j + 1) = g
  l1 : ∀ j, l j = 1
theorem Kst.sn {g : Int} (h : Kst g s l) (j : Nat) : 0 ≤ s j := by
  cases j with
  | zero => rw [h.s0]; decide
  | succ j => rw [h.s1]; exact h.g0
theorem Kst.ln {g : Int} (h : Kst g s l) (j : Nat) : 0 ≤ l j := by rw [h.l1]; decide
theorem Kst.far {g : Int} (h : Kst g s l) (hk : 2 ≤ k) {b : Nat} (hb : 0 < b) : (b : Int) + g + 1 ≤ pl k s l 0 b := by
  obtain ⟨d, rfl⟩ : ∃ d, b = 1 + d := ⟨b - 1, by omega⟩
  have e := pl_far hk h.sn h.ln (by rw [h.l1]; decide) 0 1 d
  rw [pl_first hk, h.l1] at e
  have e2 : pl k s l (0 + 1) 0 = s 0 + s 1 := pl10
  rw [e2, h.s0, h.s1] at e
  omega
theorem Kst.le {g : Int} (h : Kst g s l) (hk : 2 ≤ k) {m v : Int} (hm : g + 1 ≤ m) (hv : Cnt k s l 0 m v) : 1 ≤ v ∧ v ≤ m - g := by
  have g0 := h.g0
  have v1 : 1 ≤ v := by
    have := (hv.2 0).mpr (by rw [pl00, h.s0]; omega)
    omega
  refine ⟨v1, ?_⟩
  rcases (show v = 1 ∨ 2 ≤ v by omega) with e | e
  · omega
  · have h1 := (hv.2 (v.toNat - 1)).mp (by omega)
    have h2 := h.far hk (b := v.toNat - 1) (by omega)
    omega
theorem Kst.lcv {g : Int} (h : Kst g s l) (hk : 2 ≤ k) {m v : Int} (hm : g + 1 ≤ m) (hv : Cnt k s l 0 m v) : lcv k s l 0 m v = v := by
  have v1 := (h.le hk hm hv).1
  have h1 : m < pl k s l 0 v.toNat := by
    rcases (show m < pl k s l 0 v.toNat ∨ pl k s l 0 v.toNat ≤ m by omega) with z | z
    · exact z
    · have := (hv.2 v.toNat).mpr z
      omega
  unfold Sm.lcv lab
  rw [if_neg (by omega), if_pos (by omega), h.l1, h.s0]
  omega
theorem Kst.shift {g : Int} (h : Kst g s l) (hk : 2 ≤ k) (b : Nat) : pl k (shf s) (shf l) 0 b = pl k s l 0 b + g - 1 := by
  have hb := lt_pow hk b
  rw [leaf_full hk hb, leaf_full hk hb]
  have e1 : smN (fun i => ((b / k ^ i : Nat) : Int) * shf l i) (b + 1) = smN (fun i => ((b / k ^ i : Nat) : Int) * l i) (b + 1) := smN_congr fun j _ => by unfold shf; rw [h.l1, h.l1]
  have e2 : smN (fun j => if k ^ j ≤ b then shf s (1 + j) else 0) b = smN (fun j => if k ^ j ≤ b then s (1 + j) else 0) b := smN_congr fun j _ => by
    unfold shf
    rw [h.s1, Nat.add_comm 1 j, h.s1]
  have e3 : shf s 0 = g := h.s1 0
  rw [e1, e2, e3, h.s0]
  omega
/-- the nested equation -/
theorem Kst.eqn {g : Int} (h : Kst g s l) (hk : 2 ≤ k) {n V : Int} (hV : Cnt k s l 0 n V) (hn : g + k + 1 ≤ n) {v u : Nat → Int} (hv : ∀ i, i < k → Cnt k s l 0 (n - ((i : Int) + 1)) (v i)) (hu : ∀ i, i < k → Cnt k s l 0 (n - ((i : Int) + 1) - g - v i + 1) (u i)) : smN u k = V := by
  have m1 : ∀ i : Nat, ((i : Int) + 1) * l 0 = (i : Int) + 1 := fun i => by rw [h.l1, Int.mul_one]
  refine reading_eq hk h.sn h.ln (by rw [h.l1]; decide) (by rw [h.l1]; decide) hV (by rw [h.s0, show s 1 = g from h.s1 0, h.l1]; omega) (v := v) (fun i hi => by rw [m1]; exact hv i hi) fun i hi => ?_
  rw [m1, h.lcv hk (by omega) (hv i hi)]
  refine ⟨(hu i hi).1, fun b => ?_⟩
  rw [(hu i hi).2, h.shift hk]
  omega
/-- values grow by 0 or 1 -/
theorem Kst.grow {g : Int} (h : Kst g s l) (hk : 2 ≤ k) {n v u : Int} (hv : Cnt k s l 0 n v) (hu : Cnt k s l 0 (n + 1) u) : u = v ∨ u = v + 1 := by
  have h1 := hv.mono hu (by omega)
  have h2 : u ≤ v + 1 := by
    rcases (show v + 1 < u ∨ u ≤ v + 1 by omega) with z | z
    · have v0 := hv.1
      have a1 := (hu.2 (v.toNat + 1)).mp (by omega)
      have a2 := pl_far hk h.sn h.ln (by rw [h.l1]; decide) 0 v.toNat 1
      rw [h.l1] at a2
      have a3 := (hv.2 v.toNat).mpr (by omega)
      omega
    · exact z
  omega
end
end Sm
/-! S26: the order of the nodes of a tree; digits -/
namespace Sm
section
variable {k : Nat} {s l : Nat → Int}
theorem stt_00 : stt k s l 0 0 = 0 := by
  unfold stt
  rw [pl_zero]
  unfold fp lab
  rw [if_pos rfl, if_pos rfl]
  omega
theorem pl_stt (h b : Nat) : pl k s l h b = stt k s l h b + lab s l h b := by unfold stt; omega
/-! ### digits, the most significant one first -/
/-! ### the order -/
/-- how many leaves come before a node -/
def lf (k h b : Nat) : Nat := if b = 0 then (if h = 0 then 0 else k ^ (h - 1)) else b * k ^ h
end
end Sm
/-! S31: places and values as lists; exponents; conflicts (stage 6) -/
namespace Sm
/-! ### exponents -/
def spl (k : Nat) : Nat → Nat → Nat × Nat
  | 0, n => (0, n)
  | f + 1, n => if n % k = 0 then ((spl k f (n / k)).1 + 1, (spl k f (n / k)).2) else (0, n)
/-- the exponent of k in n; what remains -/
def vE (k n : Nat) : Nat := (spl k n n).1
def vR (k n : Nat) : Nat := (spl k n n).2
theorem spl_spec {k : Nat} (hk : 2 ≤ k) : ∀ (f n : Nat), 0 < n → n ≤ f → n = k ^ (spl k f n).1 * (spl k f n).2 ∧ ¬ k ∣ (spl k f n).2
  | 0, n, hn, hf => by omega
  | f + 1, n, hn, hf => by
    unfold spl
    by_cases z : n % k = 0
    · rw [if_pos z]
      have h1 : k * (n / k) = n := by have := Nat.div_add_mod n k; omega
      have h2 : 0 < n / k := by
        rcases Nat.eq_zero_or_pos (n / k) with y | y
        · rw [y] at h1; omega
        · exact y
      have h3 : n / k < n := Nat.div_lt_self hn (by omega)
      obtain ⟨i1, i2⟩ := spl_spec hk f (n / k) h2 (by omega)
      refine ⟨?_, i2⟩
      show n = k ^ ((spl k f (n / k)).1 + 1) * (spl k f (n / k)).2
      rw [Nat.pow_succ, Nat.mul_comm (k ^ _) k, Nat.mul_assoc, ← i1, h1]
    · rw [if_neg z]
      refine ⟨?_, fun h => z (Nat.mod_eq_zero_of_dvd h)⟩
      show n = k ^ 0 * n
      rw [Nat.pow_zero, Nat.one_mul]
theorem vE_spec {k n : Nat} (hk : 2 ≤ k) (hn : 0 < n) : n = k ^ vE k n * vR k n ∧ ¬ k ∣ vR k n := spl_spec hk n n hn (Nat.le_refl n)
theorem exp_uniq {k e r e' r' : Nat} (hk : 2 ≤ k) (h : k ^ e * r = k ^ e' * r') (hr : ¬ k ∣ r) (hr' : ¬ k ∣ r') : e = e' ∧ r = r' := by
  have key : ∀ {e r e' r' : Nat}, k ^ e * r = k ^ e' * r' → ¬ k ∣ r → ¬ e < e' := fun {e r e' r'} h hr z => by
    obtain ⟨d, rfl⟩ : ∃ d, e' = e + (d + 1) := ⟨e' - e - 1, by omega⟩
    rw [Nat.pow_add, Nat.mul_assoc] at h
    have h2 := Nat.eq_of_mul_eq_mul_left (Nat.pow_pos (by omega)) h
    rw [Nat.pow_succ, Nat.mul_comm (k ^ d) k, Nat.mul_assoc] at h2
    exact hr ⟨_, h2⟩
  have h1 := key h hr
  have h2 := key h.symm hr'
  have e1 : e = e' := by omega
  subst e1
  exact ⟨rfl, Nat.eq_of_mul_eq_mul_left (Nat.pow_pos (by omega)) h⟩
theorem vE_of {k n e r : Nat} (hk : 2 ≤ k) (hn : 0 < n) (h : n = k ^ e * r) (hr : ¬ k ∣ r) : vE k n = e ∧ vR k n = r := by
  obtain ⟨h1, h2⟩ := vE_spec hk hn
  exact exp_uniq hk (h1.symm.trans h) h2 hr
/-! ### places -/
section
variable {k : Nat} {s l : Nat → Int}
/-- the distance of the place of leaf b + 1 from the place before -/
theorem freq_eq (hk : 2 ≤ k) (b : Nat) : pl k s l 0 (b + 1) = pl k s l 0 b + smN l (vE k (b + 1) + 1) + if vR k (b + 1) = 1 then s (vE k (b + 1) + 1) else 0 := by
  obtain ⟨h1, h2⟩ := vE_spec hk (show 0 < b + 1 by omega)
  have h3 := place_exp (s := s) (l := l) hk h1 h2
  rw [← pl0_place hk, ← pl0_place hk] at h3
  omega
/-- what grows without end -/
structure Inc (P : Nat → Int) : Prop where
  z : 0 ≤ P 0
  st : ∀ b, P b < P (b + 1)
theorem pl_inc (hk : 2 ≤ k) (hs : ∀ j, 0 ≤ s j) (hl : ∀ j, 0 ≤ l j) (h0 : 0 < l 0) : Inc (pl k s l 0) := by
  refine ⟨?_, fun b => ?_⟩
  · have h3 := pl_stt (k := k) (s := s) (l := l) 0 0
    rw [stt_00] at h3
    have : 0 ≤ lab s l 0 0 := by unfold lab; rw [if_pos rfl]; exact hs 0
    omega
  · have h1 := pl_step hk hs hl h0 0 b
    have : lab s l 0 (b + 1) = l 0 := if_neg (Nat.succ_ne_zero b)
    omega
end
theorem Inc.lt {P : Nat → Int} (h : Inc P) {a b : Nat} (hab : a < b) : P a < P b := by
  induction b with
  | zero => omega
  | succ b ih =>
    have := h.st b
    rcases Nat.lt_or_ge a b with z | z
    · have := ih z
      omega
    · rw [show a = b by omega]
      exact this
theorem Inc.le {P : Nat → Int} (h : Inc P) {a b : Nat} (hab : a ≤ b) : P a ≤ P b := by
  rcases Nat.lt_or_ge a b with z | z
  · exact Int.le_of_lt (h.lt z)
  · rw [show a = b by omega]
    exact Int.le_refl _
theorem Inc.ge {P : Nat → Int} (h : Inc P) : ∀ b : Nat, (b : Int) ≤ P b
  | 0 => h.z
  | b + 1 => by
    have := h.ge b
    have := h.st b
    omega
/-! ### values -/
def vnx (P : Nat → Int) (n : Int) : Nat → Nat → Nat
  | 0, r => r
  | f + 1, r => if P r ≤ n then vnx P n f (r + 1) else r
/-- how many places are at most n -/
def Vv (P : Nat → Int) (n : Int) : Nat := vnx P n (n.toNat + 1) 0
theorem vnx_spec {P : Nat → Int} {n : Int} : ∀ (f r : Nat), (∀ b, b < r → P b ≤ n) → n < P (r + f) → (∀ b, b < vnx P n f r → P b ≤ n) ∧ n < P (vnx P n f r)
  | 0, r, h1, h2 => ⟨h1, h2⟩
  | f + 1, r, h1, h2 => by
    unfold vnx
    by_cases z : P r ≤ n
    · rw [if_pos z]
      refine vnx_spec f (r + 1) (fun b hb => ?_) (by rw [show r + 1 + f = r + (f + 1) by omega]; exact h2)
      rcases Nat.lt_or_ge b r with y | y
      · exact h1 b y
      · rw [show b = r by omega]
        exact z
    · rw [if_neg z]
      exact ⟨h1, by omega⟩
theorem Vv_spec {P : Nat → Int} (h : Inc P) {n : Int} (n0 : -1 ≤ n) : (∀ b, b < Vv P n → P b ≤ n) ∧ n < P (Vv P n) := by
  refine vnx_spec _ 0 (fun b hb => absurd hb (Nat.not_lt_zero b)) ?_
  have := h.ge (0 + (n.toNat + 1))
  omega
theorem Vv_of {P : Nat → Int} (h : Inc P) {n : Int} (n0 : -1 ≤ n) {v : Nat} (h1 : ∀ b, b < v → P b ≤ n) (h2 : n < P v) : Vv P n = v := by
  obtain ⟨a, b⟩ := Vv_spec h n0
  rcases Nat.lt_trichotomy (Vv P n) v with z | z | z
  · have := h1 _ z
    omega
  · exact z
  · have := a _ z
    omega
/-- the first places -/
def plL (P : Nat → Int) (c : Nat) : List Int := (List.range c).map P
theorem plL_len {P : Nat → Int} {c : Nat} : (plL P c).length = c := by unfold plL; rw [List.length_map, List.length_range]
theorem plL_succ {P : Nat → Int} {c : Nat} : plL P (c + 1) = plL P c ++ [P c] := by
  unfold plL
  rw [List.range_succ, List.map_append]
  rfl
/-! ### the places in values -/
end Sm
/-! S37: systems: values below the threshold, sums of values in a window, the reading by sums -/
namespace Sm
section
variable {k : Nat} {s l : Nat → Int}
/-- a value, by a number -/
def vN (k : Nat) (s l : Nat → Int) (n : Nat) : Int := ((Vv (pl k s l 0) (n : Int) : Nat) : Int)
/-- the sum of the values before a number -/
def sV (k : Nat) (s l : Nat → Int) (j : Nat) : Int := smN (vN k s l) j
structure LvS (k : Nat) (s l : Nat → Int) : Prop where
  k2 : 2 ≤ k
  s0 : ∀ j, 0 ≤ s j
  l1 : ∀ j, 1 ≤ l j
theorem LvS.l0 (h : LvS k s l) (j : Nat) : 0 ≤ l j := by have := h.l1 j; omega
theorem LvS.lp (h : LvS k s l) : 0 < l 0 := by have := h.l1 0; omega
theorem LvS.inc (h : LvS k s l) : Inc (pl k s l 0) := pl_inc h.k2 h.s0 h.l0 h.lp
theorem LvS.shf (h : LvS k s l) : LvS k (shf s) (shf l) := ⟨h.k2, fun j => h.s0 (j + 1), fun j => h.l1 (j + 1)⟩
theorem LvS.step (h : LvS k s l) (b : Nat) : pl k s l 0 b + l 0 ≤ pl k s l 0 (b + 1) := by
  rw [freq_eq h.k2]
  have h1 : smN l 1 ≤ smN l (vE k (b + 1) + 1) := by
    have up : ∀ n, smN l 1 ≤ smN l (n + 1) := fun n => by
      induction n with
      | zero => exact Int.le_refl _
      | succ n ih =>
        have := h.l0 (n + 1)
        show smN l 1 ≤ smN l (n + 1) + l (n + 1)
        omega
    exact up _
  have h2 : smN l 1 = l 0 := Int.zero_add _
  have h3 : 0 ≤ (if vR k (b + 1) = 1 then s (vE k (b + 1) + 1) else 0) := by
    split
    · exact h.s0 _
    · exact Int.le_refl _
  omega
theorem LvS.cnt (h : LvS k s l) {n : Int} (hn : -1 ≤ n) : Cnt k s l 0 n ((Vv (pl k s l 0) n : Nat) : Int) := by
  obtain ⟨a, b⟩ := Vv_spec h.inc hn
  refine ⟨Int.natCast_nonneg _, fun c => ⟨fun hc => a c (by omega), fun hc => ?_⟩⟩
  rcases Nat.lt_or_ge c (Vv (pl k s l 0) n) with z | z
  · omega
  · have := h.inc.le z
    omega
/-- the places of the first leaves -/
theorem LvS.low (h : LvS k s l) {c : Nat} (hc : c < k) : pl k s l 0 c = if c = 0 then s 0 else s 0 + s 1 + (c : Int) * l 0 := by
  by_cases z : c = 0
  · rw [if_pos z, z, pl00]
  · rw [if_neg z, pl_kid0 h.k2 (by omega) hc]
theorem LvS.kth (h : LvS k s l) : s 0 + s 1 + (k : Int) * l 0 < pl k s l 0 k := by
  obtain ⟨j, rfl⟩ : ∃ j, k = j + 1 := ⟨k - 1, by have := h.k2; omega⟩
  have k2 := h.k2
  have e1 := h.low (c := j) (by omega)
  rw [if_neg (by omega)] at e1
  have he : vE (j + 1) (j + 1) = 1 ∧ vR (j + 1) (j + 1) = 1 := vE_of k2 (by omega) (by rw [Nat.pow_one, Nat.mul_one]) fun z => by
    have := Nat.le_of_dvd Nat.one_pos z
    omega
  rw [freq_eq k2 j, he.1, he.2, if_pos rfl, e1]
  have h2 : smN l (1 + 1) = 0 + l 0 + l 1 := rfl
  have h3 := h.l1 1
  have h4 := h.s0 (1 + 1)
  rw [h2, Int.natCast_add, Int.add_mul]
  omega
theorem LvS.below (h : LvS k s l) {n : Int} (h0 : -1 ≤ n) (hn : n ≤ s 0 + s 1 + (k : Int) * l 0) : Vv (pl k s l 0) n ≤ k := by
  rcases Nat.lt_or_ge k (Vv (pl k s l 0) n) with z | z
  · have := (Vv_spec h.inc h0).1 k z
    have := h.kth
    omega
  · exact z
theorem filt_len (k v : Nat) : ((List.range k).filter fun b => decide (b < v)).length = min k v := by
  induction k with
  | zero => exact (Nat.zero_min v).symm
  | succ k ih =>
    rw [List.range_succ, List.filter_append, List.length_append, ih]
    by_cases z : k < v
    · have e : ([k].filter fun b => decide (b < v)) = [k] := by simp [z]
      rw [e]
      show min k v + 1 = _
      omega
    · have e : ([k].filter fun b => decide (b < v)) = [] := by simp [z]
      rw [e]
      show min k v + 0 = _
      omega
/-- the number of the first places up to a number -/
theorem LvS.first (h : LvS k s l) {n : Int} (h0 : -1 ≤ n) (hn : n ≤ s 0 + s 1 + (k : Int) * l 0) : (((List.range k).filter fun b => decide (pl k s l 0 b ≤ n)).length : Int) = ((Vv (pl k s l 0) n : Nat) : Int) := by
  obtain ⟨a, b⟩ := Vv_spec h.inc h0
  have e : ((List.range k).filter fun b => decide (pl k s l 0 b ≤ n)) = (List.range k).filter fun b => decide (b < Vv (pl k s l 0) n) := List.filter_congr fun c _ => by
    apply decide_eq_decide.mpr
    exact ⟨fun hc => by
      rcases Nat.lt_or_ge c (Vv (pl k s l 0) n) with z | z
      · exact z
      · have := h.inc.le z
        omega, fun hc => a c hc⟩
  rw [e, filt_len, Nat.min_eq_right (h.below h0 hn)]
/-! ### sums in a window -/
theorem LvS.win (h : LvS k s l) (m : Nat) : ∀ j : Nat, (j : Int) ≤ l 0 → sV k s l (m + j) = sV k s l m + (j : Int) * vN k s l m + max ((m : Int) + j - pl k s l 0 (Vv (pl k s l 0) (m : Int))) 0
  | 0, _ => by
    have := (Vv_spec h.inc (show -1 ≤ (m : Int) by omega)).2
    rw [Nat.add_zero, Int.natCast_zero, Int.zero_mul]
    omega
  | j + 1, hj => by
    have ih := LvS.win h m j (by omega)
    obtain ⟨a, b⟩ := Vv_spec h.inc (show -1 ≤ (m : Int) by omega)
    have e : sV k s l (m + (j + 1)) = sV k s l (m + j) + vN k s l (m + j) := rfl
    have st := h.step (Vv (pl k s l 0) (m : Int))
    have ev : vN k s l (m + j) = vN k s l m + if pl k s l 0 (Vv (pl k s l 0) (m : Int)) ≤ (m : Int) + j then 1 else 0 := by
      unfold vN
      by_cases z : pl k s l 0 (Vv (pl k s l 0) (m : Int)) ≤ (m : Int) + j
      · rw [if_pos z, Vv_of h.inc (n := ((m + j : Nat) : Int)) (v := Vv (pl k s l 0) (m : Int) + 1) (by omega) (fun c hc => ?_) (by omega)]
        · omega
        · have := h.inc.le (show c ≤ Vv (pl k s l 0) (m : Int) by omega)
          omega
      · rw [if_neg z, Vv_of h.inc (n := ((m + j : Nat) : Int)) (v := Vv (pl k s l 0) (m : Int)) (by omega) (fun c hc => by have := a c hc; omega) (by omega)]
        omega
    rw [e, ih, ev, Int.natCast_add, Int.add_mul]
    split <;> omega
/-- the pruned label by sums -/
theorem LvS.place (h : LvS k s l) {m j : Nat} (hj : (j : Int) = l 0) (hm : s 0 ≤ (m : Int)) : (m : Int) - s 0 - (sV k s l (m + j) - sV k s l m - l 0) = (m : Int) - lcv k s l 0 (m : Int) (vN k s l m) := by
  rw [h.win m j (by omega)]
  have v1 : 1 ≤ Vv (pl k s l 0) (m : Int) := by
    rcases Nat.eq_zero_or_pos (Vv (pl k s l 0) (m : Int)) with z | z
    · have := (Vv_spec h.inc (show -1 ≤ (m : Int) by omega)).2
      rw [z, pl00] at this
      omega
    · exact z
  unfold lcv vN lab
  rw [Int.toNat_natCast, if_neg (by omega), if_pos (by omega), hj, Int.sub_mul, Int.one_mul, Int.mul_comm (l 0)]
  omega
/-- the value, by the values of the pruned sequence -/
theorem LvS.eqn (h : LvS k s l) {n : Nat} (hn : s 0 + s 1 + (k : Int) * l 0 ≤ (n : Int)) {pp : Nat → Nat} (hp : ∀ i, i < k → ((pp i : Nat) : Int) = (n : Int) - ((i : Int) + 1) * l 0 - lcv k s l 0 ((n : Int) - ((i : Int) + 1) * l 0) ((Vv (pl k s l 0) ((n : Int) - ((i : Int) + 1) * l 0) : Nat) : Int)) :
    smN (fun i => vN k (Sm.shf s) (Sm.shf l) (pp i)) k = vN k s l n := by
  have l0 := h.lp
  have hb : ∀ i, i < k → -1 ≤ (n : Int) - ((i : Int) + 1) * l 0 := fun i hi => by
    have mul : ((i : Int) + 1) * l 0 ≤ (k : Int) * l 0 := Int.mul_le_mul_of_nonneg_right (by omega) (by omega)
    have := h.s0 0
    have := h.s0 1
    omega
  refine reading_eq h.k2 h.s0 h.l0 h.lp (by have := h.l1 1; omega) (h.cnt (by omega)) hn (fun i hi => h.cnt (hb i hi)) fun i hi => ?_
  have := h.shf.cnt (n := ((pp i : Nat) : Int)) (by omega)
  rw [hp i hi] at this
  have e : vN k (Sm.shf s) (Sm.shf l) (pp i) = ((Vv (pl k (Sm.shf s) (Sm.shf l) 0) ((pp i : Nat) : Int) : Nat) : Int) := rfl
  rw [e, hp i hi]
  exact this
/-- the number of labels on leaves, leaf by leaf -/
theorem LvS.onLeaves (h : LvS k s l) {m : Int} (hm : s 0 ≤ m) (m0 : 0 ≤ m) : ∀ c : Nat, Vv (pl k s l 0) m ≤ c → smN (fun b => max 0 (min (l 0) (m - pl k s l 0 (b + 1) + l 0))) c = lcv k s l 0 m ((Vv (pl k s l 0) m : Nat) : Int) - s 0 := by
  obtain ⟨a, b⟩ := Vv_spec h.inc (show -1 ≤ m by omega)
  have l0 := h.lp
  have v1 : 1 ≤ Vv (pl k s l 0) m := by
    rcases Nat.eq_zero_or_pos (Vv (pl k s l 0) m) with z | z
    · rw [z, pl00] at b
      omega
    · exact z
  have lo : ∀ c : Nat, c + 1 ≤ Vv (pl k s l 0) m → smN (fun b => max 0 (min (l 0) (m - pl k s l 0 (b + 1) + l 0))) c = (c : Int) * l 0 := fun c => by
    induction c with
    | zero => exact fun _ => (Int.zero_mul _).symm
    | succ c ih =>
      intro hc
      have e : smN (fun b => max 0 (min (l 0) (m - pl k s l 0 (b + 1) + l 0))) (c + 1) = smN (fun b => max 0 (min (l 0) (m - pl k s l 0 (b + 1) + l 0))) c + max 0 (min (l 0) (m - pl k s l 0 (c + 1) + l 0)) := rfl
      have := a (c + 1) (by omega)
      rw [e, ih (by omega), Int.natCast_add, Int.add_mul]
      omega
  have hv : smN (fun b => max 0 (min (l 0) (m - pl k s l 0 (b + 1) + l 0))) (Vv (pl k s l 0) m) = lcv k s l 0 m ((Vv (pl k s l 0) m : Nat) : Int) - s 0 := by
    obtain ⟨v, hv⟩ : ∃ v, Vv (pl k s l 0) m = v + 1 := ⟨Vv (pl k s l 0) m - 1, by omega⟩
    have e : smN (fun b => max 0 (min (l 0) (m - pl k s l 0 (b + 1) + l 0))) (v + 1) = smN (fun b => max 0 (min (l 0) (m - pl k s l 0 (b + 1) + l 0))) v + max 0 (min (l 0) (m - pl k s l 0 (v + 1) + l 0)) := rfl
    have q := lo v (by omega)
    rw [hv] at b ⊢
    rw [e, q]
    unfold lcv lab
    rw [Int.toNat_natCast, if_neg (by omega), if_pos (by omega), show ((v + 1 : Nat) : Int) - 1 = (v : Int) by omega]
    omega
  intro c hc
  induction c with
  | zero => omega
  | succ c ih =>
    rcases Nat.lt_or_ge c (Vv (pl k s l 0) m) with z | z
    · rw [show c + 1 = Vv (pl k s l 0) m by omega]
      exact hv
    · have e : smN (fun b => max 0 (min (l 0) (m - pl k s l 0 (b + 1) + l 0))) (c + 1) = smN (fun b => max 0 (min (l 0) (m - pl k s l 0 (b + 1) + l 0))) c + max 0 (min (l 0) (m - pl k s l 0 (c + 1) + l 0)) := rfl
      have h1 := h.step c
      have h2 := h.inc.le z
      rw [e, ih z]
      omega
end
end Sm
/-! S38: streams repeat their items from index 12 on, after at most 30 -/
namespace Sm
theorem per_tail {s : Stm} {L i : Nat} (h1 : s.1.length ≤ 12) (hL : s.2.length ∣ L) (hi : 12 ≤ i) : item s (i + L) = item s i := by
  rw [item_ge (by omega), item_ge (by omega)]
  unfold lp
  obtain ⟨c, rfl⟩ := hL
  rw [show i + s.2.length * c - s.1.length = (i - s.1.length) + s.2.length * c by omega, Nat.add_mul_mod_self_left]
theorem lcm30 : ∀ a < 7, ∀ b < 7, Nat.lcm a b ≤ 30 := by decide +kernel
theorem per_both {s l : Stm} (h1 : s.1.length ≤ 12) (h2 : l.1.length ≤ 12) (h3 : s.2.length ≤ 6) (h4 : l.2.length ≤ 6) (n1 : s.2 ≠ []) (n2 : l.2 ≠ []) : ∃ L, 0 < L ∧ L ≤ 30 ∧ ∀ i, 12 ≤ i → item s (i + L) = item s i ∧ item l (i + L) = item l i :=
  ⟨Nat.lcm s.2.length l.2.length, Nat.lcm_pos (List.length_pos_iff.mpr n1) (List.length_pos_iff.mpr n2), lcm30 _ (by omega) _ (by omega), fun i hi => ⟨per_tail h1 (Nat.dvd_lcm_left _ _) hi, per_tail h2 (Nat.dvd_lcm_right _ _) hi⟩⟩
end Sm
/-! Ab114: o.f as a target among others -/
namespace Ab
open PySem PySem.Spec PyProof.Rows L2
def gFld (K : PySem.W.Frag) (ta : TE) (f : Str) : TG := fun y σ H Q => ta σ H fun x H2 => ∃ a C dx fs, x = .ref a ∧ H2 a = some (.ins C dx fs) ∧ Cls K C ∧ NoAttr K C f ∧ fs.length < 1000 ∧ Q σ (upd H2 a (.ins C dx (putF f y fs)))
section
variable {X : Cx} {Γ : Gam} {M : Mem} {o : Expr} {f : Str} {pos : Pos} {d : Val}
theorem pg_fld {ta : TE} (ho : PE X o ta) (ha : ∀ v, assign (.Attribute o f pos) X.env v = (do
      let ov ← holding [v] (eval o X.env)
      standAt pos.atName
      holding [v, ov] (setAttr ov f v)
      release [v, ov] []) := by intro _; rfl) : PG X (.Attribute o f pos) (gFld X.K ta f) := by
  refine ⟨fun pins s σ H v u Q I r h => ?_⟩
  rw [ha]
  refine wpAny_bind (wpAny_holding (thn (ho.run pins s σ H _ I h) fun ov s1 ⟨x, H1, I1, r1, a, C, dx, fs, ex, ea, c, n, l, q⟩ => ?_))
  subst ex
  obtain rfl : ov = Value.ref a := r1
  refine wpAny_bind (wpAny_standAt (wpAny_bind (wpAny_holding (setattr_ok I1 ea c n l r fun s3 I3 => ?_))))
  exact wpAny_release ⟨σ, _, I3, q⟩
theorem ag_fld {C : Addr} {R : Gam → Mem → Prop} (c : Cls X.K C) (na : NoAttr X.K C f) (h : aE X o Γ M fun x M2 => ∃ n p fs, x = .ptr p ∧ M2[n]? = some (p, .ins C fs) ∧ fs.length < 1000 ∧ R Γ (M2.set n (p, .ins C (putV f d fs))))
    (ha : ∀ v, assign (.Attribute o f pos) X.env v = (do
      let ov ← holding [v] (eval o X.env)
      standAt pos.atName
      holding [v, ov] (setAttr ov f v)
      release [v, ov] []) := by intro _; rfl) : aG X (.Attribute o f pos) d Γ M R := fun Hi H σ v ok en r Q q => by
  refine ⟨_, pg_fld pe_we ha, ?_⟩
  refine h Hi H σ ok en _ fun x M2 w Hi2 H2 h2 s2 ok2 r2 => ?_
  obtain ⟨n, p, fs, rfl, hm, hl, hk⟩ := h2
  cases r2
  obtain ⟨_, oo, ho, dx, gs, rfl, rf⟩ := ok2.get hm
  exact ⟨p, C, dx, gs, rfl, ho, c, na, by rw [← rf.length]; exact hl, q _ _ _ Hi2 _ hk s2 (ok2.set hm ⟨dx, _, rfl, rf.put (r.mono s2)⟩) (en.mono s2)⟩
end
end Ab
/-! Ab97: xs[a:e], the upper bound changing cells -/
namespace Ab
open PySem PySem.Spec PyProof.Rows L2
end Ab
/-! Ab102: x //= e, x *= e; enumerate of a list that is a cell (ints) -/
namespace Ab
open PySem PySem.Spec PyProof.Rows L2
end Ab
/-! Ab103: sequences of ints: tuples, frozen lists, cells -/
namespace Ab
open PySem PySem.Spec PyProof.Rows L2
inductive Sv (M : Mem) : Val → List Int → Prop
  | t {ns : List Int} : Sv M (.tup (ns.map .int)) ns
  | l {ns : List Int} : Sv M (.lst (ns.map .int)) ns
  | c (n : Nat) {p : Addr} {ns : List Int} : M[n]? = some (p, .lst (ns.map .int)) → Sv M (.ptr p) ns
theorem Sv.sq {M : Mem} {d : Val} {ns : List Int} (h : Sv M d ns) : Sq M d (ns.map .int) := by
  cases h with
  | t => exact .t
  | l => exact .l (.self _)
  | c n h => exact .l (.lst n h)
theorem Sv.ix {M : Mem} {d : Val} {ns : List Int} {i : Int} (h : Sv M d ns) (h0 : 0 ≤ i) (h1 : i < ns.length) : IxIs M d i (.int (at0 ns i)) := by
  cases h with
  | t => exact .iT h0 h1
  | l => exact .iL h0 h1
  | c n h => exact .ci n h h0 h1
section
variable {X : Cx} {Γ : Gam} {M : Mem} {a b : Expr} {d : Val} {ns : List Int} {pos p1 : Pos}
theorem av_lenSv (hm : X.mg "len" = none) (ha : aV X a Γ M d) (h : Sv M d ns) (hg : Gl X "len" := by rfl) (hst : starEach [a] X.env = [(false, eval a X.env)] := by rfl) : aV X (.Call (.Name "len" p1) [a] [] pos) Γ M (.int (ns.length : Int)) := by
  have := av_len (pos := pos) (p1 := p1) hm ha h.sq hg hst
  rw [List.length_map] at this
  exact this
theorem av_lenSvN {n : Nat} (hm : X.mg "len" = none) (ha : aV X a Γ M d) (h : Sv M d ns) (e : ns.length = n) (hg : Gl X "len" := by rfl) (hst : starEach [a] X.env = [(false, eval a X.env)] := by rfl) : aV X (.Call (.Name "len" p1) [a] [] pos) Γ M (.int (n : Int)) := by
  subst e
  exact av_lenSv hm ha h hg hst
theorem av_tupSv (hm : X.mg "tuple" = none) (ha : aV X a Γ M d) (h : Sv M d ns) (hg : Gl X "tuple" := by rfl) (hst : starEach [a] X.env = [(false, eval a X.env)] := by rfl) : aV X (.Call (.Name "tuple" p1) [a] [] pos) Γ M (.tup (ns.map .int)) := av_tuple hm ha h.sq hg hst
theorem av_ixSv {i : Int} (ha : aV X a Γ M d) (hb : aV X b Γ M (.int i)) (h : Sv M d ns) (h0 : 0 ≤ i) (h1 : i < ns.length) (hs : PlainIx b := by exact fun _ _ => rfl) : aV X (.Subscript a b pos) Γ M (.int (at0 ns i)) := av_ix ha hb (h.ix h0 h1) hs
end
end Ab
namespace K39
open PySem L2 Ab Sm
section
variable {P : Program} {w : World} {K : PySem.W.Frag} {mg : Str → Option Value} {base : Heap} {k : Nat} {f C CM CS : Addr}
/-! ### check_levels -/
def aCkl (C : Addr) : ASp := fun ds M R => ∃ S : Sc, ds = [scV C S] ∧ GoodS S ∧ (∀ j, item S.lv j ≠ 0) ∧ R .non M
theorem b_check_levels (B : Bt mg) (T : Rs K mg C) (SM : Sm2 P w K mg base C) (PL : PrL P w K mg base C) : BodyOk P w K mg base 3 f n_check_levels "check_levels" (defScope s_check_levels) (defBody s_check_levels) (aCkl C) := by
  rintro cdv A outer s0 H E hr ds M R ⟨S, rfl, hS, hz, hp⟩
  have l1 := hS.ll.l1
  have l2 := hS.ll.l2
  refine as_cons (as_asg ((av_levels T PL hr (by decide) (v_ 0)).val (ag_tup (ds := [iT S.lv.1, iT S.lv.2]) rfl (ags_cons (ag_name 1 q_check_levels.nd (ags_cons (ag_name 2 q_check_levels.nd (ags_nil ?_))))))))
  refine as_cons (as_forL PassesOwn.never rfl (aj_range1 B.range ((av_add (av_lenSv B.len (v_ 1) .t) (av_lenSv B.len (v_ 2) .t)).val ⟨_, rfl, by omega, by omega, ?_⟩)))
  refine ⟨fun t Γ M' => M' = M ∧ Γ = [some (scV C S), none, none, none], ⟨_, ⟨rfl, rfl⟩, (by repeat' first | exact le_nil | refine le_skip ?_ | refine le_keep rfl ?_)⟩, ?_, ?_⟩
  · rintro t Γ M' ht ⟨rfl, rfl⟩
    refine ag_name 3 q_check_levels.nd ?_
    have := hz t
    exact as_one (as_ifp (tp_cmp (av_la T SM hr (by decide) (v_ 0) (v_ 3) hS (by omega)) i_ cp_eq) (fun c => absurd (show item S.lv (0 + (t : Int)).toNat = 0 from c) (by rw [Int.zero_add, Int.toNat_natCast]; exact this)) (fun _ => as_nil ⟨_, ⟨rfl, rfl⟩, (by repeat' first | exact le_nil | refine le_skip ?_ | refine le_keep rfl ?_)⟩))
  · rintro Γ M' ⟨rfl, rfl⟩
    exact as_nil (.ok hp)
abbrev GCkl (P : Program) (w : World) (K : PySem.W.Frag) (mg : Str → Option Value) (base : Heap) (C : Addr) : Prop := Gd P w K mg base 4 "check_levels" [] fun ds _ => aCkl C ds
/-! ### pruned_chain -/
theorem cut_m1 {xs : List Val} : cutA xs none (some (-1)) = xs.take (xs.length - 1) := by
  show (xs.drop 0).take (((-1 : Int) + (xs.length : Int)).toNat - 0) = _
  rw [List.drop_zero, Nat.sub_zero, show ((-1 : Int) + (xs.length : Int)).toNat = xs.length - 1 by omega]
theorem atI_m1 {cs : List Sc} {S : Sc} (h : 1 ≤ cs.length) : atI (cs.map (scV C)) (-1) = some (scV C (cs.getD (cs.length - 1) S)) := by
  unfold atI ixN
  rw [if_neg (by decide), List.length_map, if_pos (by omega), show ((-1 : Int) + (cs.length : Int)).toNat = cs.length - 1 by omega]
  show (cs.map (scV C))[cs.length - 1]? = _
  rw [List.getElem?_map, List.getD_eq_getElem?_getD, List.getElem?_eq_getElem (by omega)]
  rfl
theorem gdS {α : Type} {a b : List α} {d : α} {i : Nat} : (a ++ b).getD i d = if i < a.length then a.getD i d else b.getD (i - a.length) d := by
  rw [List.getD_eq_getElem?_getD, List.getElem?_append]
  split <;> rw [List.getD_eq_getElem?_getD]
theorem gdT {α : Type} {a : List α} {d : α} {i n : Nat} (h : i < n) : (a.take n).getD i d = a.getD i d := by
  rw [List.getD_eq_getElem?_getD, List.getElem?_take, if_pos h, List.getD_eq_getElem?_getD]
/-- pruned once, twice, .. -/
def IsCh (S : Sc) (cs : List Sc) : Prop := ∀ i, i < cs.length → GoodS (cs.getD i S) ∧ (cs.getD i S).a = S.a ∧ ∀ j, item (cs.getD i S).sp j = item S.sp (i + j) ∧ item (cs.getD i S).lv j = item S.lv (i + j)
/-- unlike each other -/
def PwS (S : Sc) (cs : List Sc) : Prop := ∀ i j, i < j → j < cs.length → cs.getD i S ≠ cs.getD j S
theorem IsCh.snoc {S S' : Sc} {cs : List Sc} (h : IsCh S cs) (h1 : 1 ≤ cs.length) (g : GoodS S') (a : S'.a = (cs.getD (cs.length - 1) S).a) (e1 : ∀ i, item S'.sp i = item (cs.getD (cs.length - 1) S).sp (i + 1)) (e2 : ∀ i, item S'.lv i = item (cs.getD (cs.length - 1) S).lv (i + 1)) : IsCh S (cs ++ [S']) := fun i hi => by
  rw [List.length_append, List.length_singleton] at hi
  rw [gdS]
  by_cases z : i < cs.length
  · rw [if_pos z]
    exact h i z
  · obtain rfl : i = cs.length := by omega
    rw [if_neg z, Nat.sub_self]
    obtain ⟨b1, b2, b3⟩ := h (cs.length - 1) (by omega)
    refine ⟨g, a.trans b2, fun j => ?_⟩
    show item S'.sp j = _ ∧ item S'.lv j = _
    rw [e1, e2, (b3 (j + 1)).1, (b3 (j + 1)).2, show cs.length - 1 + (j + 1) = cs.length + j by omega]
    exact ⟨rfl, rfl⟩
theorem IsCh.same {S : Sc} {cs : List Sc} (h : IsCh S cs) {i j : Nat} (hi : i < cs.length) (hj : j < cs.length) (e : ∀ n, item S.sp (i + n) = item S.sp (j + n) ∧ item S.lv (i + n) = item S.lv (j + n)) : cs.getD i S = cs.getD j S := by
  obtain ⟨a1, a2, a3⟩ := h i hi
  obtain ⟨b1, b2, b3⟩ := h j hj
  exact a1.ext b1 (a2.trans b2.symm) (fun n => by rw [(a3 n).1, (b3 n).1]; exact (e n).1) fun n => by rw [(a3 n).2, (b3 n).2]; exact (e n).2
theorem IsCh.bound {S : Sc} {cs : List Sc} (hS : GoodS S) (h : IsCh S cs) (p : PwS S cs) : cs.length ≤ 42 := by
  obtain ⟨L, l0, l30, hL⟩ := per_both hS.ls.l1 hS.ll.l1 hS.ls.l2 hS.ll.l2 hS.ls.ne hS.ll.ne
  rcases Nat.lt_or_ge 42 cs.length with z | z
  · refine absurd ?_ (p 12 (12 + L) (by omega) (by omega))
    refine h.same (by omega) (by omega) fun n => ?_
    have := hL (12 + n) (by omega)
    rw [show 12 + L + n = 12 + n + L by omega]
    exact ⟨this.1.symm, this.2.symm⟩
  · exact z
def ChR (S : Sc) (cs : List Sc) (b : Nat) : Prop := IsCh S cs ∧ 1 ≤ cs.length ∧ cs.length ≤ 42 ∧ b < cs.length ∧ (∀ j, item S.sp (cs.length + j) = item S.sp (b + j) ∧ item S.lv (cs.length + j) = item S.lv (b + j)) ∧ PwS S cs
def aPr0 (C : Addr) : ASp := fun ds M R => ∃ S : Sc, ds = [scV C S] ∧ GoodS S ∧ item S.lv 1 ≠ 0 ∧ ∀ S' : Sc, GoodS S' → S'.a = S.a → (∀ i, item S'.sp i = item S.sp (i + 1)) → (∀ i, item S'.lv i = item S.lv (i + 1)) → R (scV C S') M
def aPch (C : Addr) : ASp := fun ds M R => ∃ S : Sc, ds = [scV C S] ∧ GoodS S ∧ (∀ j, item S.lv j ≠ 0) ∧ ∀ cs b, ChR S cs b → R (.tup [.lst (cs.map (scV C)), .int (b : Nat)]) M
def ChI (S : Sc) (cs : List Sc) (sm : List Int) (m : Nat) : Prop := (sm = [] → PwS S cs ∧ cs.length + m = 43) ∧ (∀ b r, sm = b :: r → ∃ bn : Nat, b = (bn : Int) ∧ bn + 1 < cs.length ∧ cs.length ≤ 43 ∧ cs.getD bn S = cs.getD (cs.length - 1) S ∧ PwS S (cs.take (cs.length - 1)))
theorem b_pruned_chain {fq : Addr} (B : Bt mg) (T : Rs K mg C) (O : OwnS P w K mg base C fq) (X0 : Mt P w K mg base C 7 "pruned" (aPr0 C)) : BodyOk P w K mg base 7 f n_pruned_chain "pruned_chain" (defScope s_pruned_chain) (defBody s_pruned_chain) (aPch C) := by
  rintro cdv A outer s0 H E hr ds M R ⟨S, rfl, hS, hz, hp⟩
  have hu := hr.u64
  refine as_cons (as_asg (ae_tup (aa_cons (ae_lstC (aa_cons ((v_ 0).val (aa_nil ⟨szb, fun q => aa_cons ((av_lst avs_nil szb).val (aa_nil ⟨szb, ag_tup rfl (ags_cons (ag_name 1 q_pruned_chain.nd (ags_cons (ag_name 2 q_pruned_chain.nd (ags_nil ?_)))))⟩))⟩)))))))
  refine as_cons (as_whileL (fun m Γ M' => ∃ (cs : List Sc) (sm : List Int), IsCh S cs ∧ 1 ≤ cs.length ∧ ChI S cs sm m ∧ M' = (q, .lst (cs.map (scV C))) :: M ∧ Γ = [some (scV C S), some (.ptr q), some (.lst (sm.map .int)), none, none]) 42 PassesOwn.never ⟨_, ⟨[S], [], fun i hi => ?_, Nat.le_refl _, ⟨fun _ => ⟨fun i j h1 h2 => ?_, rfl⟩, fun b r e => nomatch e⟩, rfl, rfl⟩, (by repeat' first | exact le_nil | refine le_skip ?_ | refine le_keep rfl ?_)⟩ ?_)
  · obtain rfl : i = 0 := by have : i < 1 := hi; omega
    exact ⟨hS, rfl, fun j => by rw [Nat.zero_add]; exact ⟨rfl, rfl⟩⟩
  · have : j < 1 := h2
    omega
  rintro m Γ M' ⟨cs, sm, hch, h1, hst, rfl, rfl⟩
  refine ⟨_, tp_cmp (v_ 2) (av_lst avs_nil szb) (cp_eqL (ns := sm) (ms := []) (.self _) (.self _) hu), fun hc => ?_, fun hc => ?_⟩
  · obtain ⟨pw, hm⟩ := hst.1 hc
    have hb := hch.bound hS pw
    obtain ⟨g1, g2, g3⟩ := hch (cs.length - 1) (by omega)
    refine as_cons (as_expr (ae_append (n0 := 0) (v_ 1) rfl (ae_m0 T.cl X0 hr (by decide) ((av_ixL (v_ 1) (av_neg i_) (.lst 0 rfl) (atI_m1 (S := S) h1)).val ⟨(Ob.im _).obM rfl, cs.getD (cs.length - 1) S, rfl, g1, by rw [(g3 1).2]; exact hz _, fun S' g' a' e1 e2 => ⟨0, _, rfl, szl (by rw [List.length_map]; omega), ?_⟩⟩))))
    have hch2 := hch.snoc h1 g' a' e1 e2
    have el : (cs ++ [S']).length = cs.length + 1 := by rw [List.length_append]; rfl
    have em : cs.map (scV C) ++ [scV C S'] = (cs ++ [S']).map (scV C) := by rw [List.map_append]; rfl
    show aSs _ _ _ ((q, .lst (cs.map (scV C) ++ [scV C S'])) :: M) _
    rw [em]
    have elast : (cs ++ [S']).getD ((cs ++ [S']).length - 1) S = S' := by
      rw [el, gdS, if_neg (by omega), show cs.length + 1 - 1 - cs.length = 0 by omega]
      rfl
    have ec : cutA ((cs ++ [S']).map (scV C)) none (some (-1)) = cs.map (scV C) := by
      rw [cut_m1, List.length_map, el, Nat.add_sub_cancel, ← em]
      have := List.take_left (l₁ := cs.map (scV C)) (l₂ := [scV C S'])
      rw [List.length_map] at this
      exact this
    have pi : ∀ i, i < cs.length → (relS (schF (cs.getD i S)) (schF S') = true ↔ cs.getD i S = S') := fun i hi => by
      constructor
      · intro h
        rcases Classical.em (cs.getD i S = S') with z | z
        · exact z
        · rw [rel_ne z] at h
          cases h
      · exact rel_eq
    refine as_lcF 2 [("index", 3), ("one", 4)] (fun (i : Nat) => .int (i : Int)) (fun i => relS (schF (cs.getD i S)) (schF S')) rfl q_pruned_chain.nd (blkOk_by (N := n_pruned_chain) (sc := defScope s_pruned_chain) (by decide +kernel)) (ai_enumL (xs := cs.map (scV C)) B.enumerate ((by rw [← ec]; exact av_sliceL (v_ 1) ao_none (ao_some (av_neg i_)) (.lst 0 rfl) : aV _ _ _ _ (.lst (cs.map (scV C)))).val ⟨rfl, rfl⟩)) ?_ (by rw [List.length_map]; omega) ?_
    · intro i acc D hi s1 H1 C1 cl fp
      rw [List.length_map] at hi
      have e1 : (cs.map (scV C)).getD i .non = scV C (cs.getD i S) := by rw [List.getD_eq_getElem?_getD, List.getElem?_map, List.getD_eq_getElem?_getD, List.getElem?_eq_getElem hi]; rfl
      rw [e1]
      refine agw_tup rfl (agws_cons (agw_name 3 q_pruned_chain.nd (agws_cons (agw_name 4 q_pruned_chain.nd (agws_nil fun s1 H1 C1 cl fp => ?_)))))
      refine ⟨at_cmp (v_ 4) (av_ixL (v_ 1) (av_neg i_) (.lst 1 rfl) (atI_m1 (S := S) (by rw [el]; omega))) (cmp_eqO O (hr.mono (by decide)) ⟨_, rfl, (hch i hi).1⟩ ⟨_, rfl, by rw [elast]; exact g'⟩) ⟨?_, rfl⟩, fun _ => (v_ 3).val ⟨rfl, rfl⟩⟩
      rw [elast]
    · obtain ⟨sm', hsm⟩ : ∃ sm', sm' = ((List.range cs.length).filter fun i => relS (schF (cs.getD i S)) (schF S')).map fun (i : Nat) => (i : Int) := ⟨_, rfl⟩
      have ev : (((List.range (cs.map (scV C)).length).filter fun i => relS (schF (cs.getD i S)) (schF S')).map fun (i : Nat) => Val.int (i : Int)) = sm'.map .int := by
        rw [hsm, List.length_map, List.map_map]
        rfl
      rw [ev]
      refine as_nil ⟨_, ⟨m - 1, by omega, cs ++ [S'], sm', hch2, by rw [el]; omega, ⟨fun e => ⟨fun i j hij hj => ?_, by rw [el]; omega⟩, fun b r e => ?_⟩, rfl, rfl⟩, (by repeat' first | exact le_nil | refine le_skip ?_ | refine le_keep rfl ?_)⟩
      · rw [el] at hj
        rw [gdS, gdS, if_pos (by omega)]
        by_cases z : j < cs.length
        · rw [if_pos z]
          exact pw i j hij z
        · obtain rfl : j = cs.length := by omega
          rw [if_neg z, Nat.sub_self]
          show cs.getD i S ≠ S'
          intro q
          have hi : i ∈ (List.range cs.length).filter fun i => relS (schF (cs.getD i S)) (schF S') := List.mem_filter.mpr ⟨List.mem_range.mpr hij, (pi i hij).mpr q⟩
          have : (i : Int) ∈ sm' := by rw [hsm]; exact List.mem_map.mpr ⟨i, hi, rfl⟩
          rw [e] at this
          cases this
      · have hb' : b ∈ sm' := by rw [e]; exact List.mem_cons_self
        rw [hsm] at hb'
        obtain ⟨bn, h2, rfl⟩ := List.mem_map.mp hb'
        obtain ⟨h3, h4⟩ := List.mem_filter.mp h2
        have h3 := List.mem_range.mp h3
        have h5 := (pi bn h3).mp h4
        refine ⟨bn, rfl, by rw [el]; omega, by rw [el]; omega, ?_, fun i j hij hj => ?_⟩
        · rw [elast, gdS, if_pos h3]
          exact h5
        · rw [List.length_take, el] at hj
          rw [gdT (by rw [el]; omega), gdT (by rw [el]; omega), gdS, gdS, if_pos (by omega), if_pos (by omega)]
          exact pw i j hij (by omega)
  · obtain ⟨b, r, rfl⟩ : ∃ b r, sm = b :: r := by
      cases sm with
      | nil => exact absurd rfl hc
      | cons b r => exact ⟨b, r, rfl⟩
    obtain ⟨bn, rfl, hb1, hb2, hb3, hb4⟩ := hst.2 b r rfl
    have et : cutA (cs.map (scV C)) none (some (-1)) = (cs.take (cs.length - 1)).map (scV C) := by rw [cut_m1, List.length_map, List.map_take]
    have tl : (cs.take (cs.length - 1)).length = cs.length - 1 := by rw [List.length_take]; omega
    refine as_one (as_retv (av_tup (avs_cons (by rw [← et]; exact av_sliceL (v_ 1) ao_none (ao_some (av_neg i_)) (.lst 0 rfl)) (avs_cons (av_ixSv (ns := (bn : Int) :: r) (i := 0) (v_ 2) i_ .l (by decide) (by rw [List.length_cons]; omega)) avs_nil)) szb) (.drop (.ok (hp (cs.take (cs.length - 1)) bn ⟨fun i hi => ?_, by rw [tl]; omega, by rw [tl]; omega, by rw [tl]; omega, fun j => ?_, hb4⟩))))
    · rw [tl] at hi
      rw [gdT (by omega)]
      exact hch i (by omega)
    · rw [tl]
      obtain ⟨a1, a2, a3⟩ := hch bn (by omega)
      obtain ⟨b1, b2, b3⟩ := hch (cs.length - 1) (by omega)
      rw [hb3] at a3
      exact ⟨(b3 j).1.symm.trans (a3 j).1, (b3 j).2.symm.trans (a3 j).2⟩
abbrev GPch (P : Program) (w : World) (K : PySem.W.Frag) (mg : Str → Option Value) (base : Heap) (C : Addr) : Prop := Gd P w K mg base 8 "pruned_chain" [] fun ds _ => aPch C ds
/-! ### Member -/
structure MbX (K : PySem.W.Frag) (X : Addr) : Prop where
  cl : Cls K X
  n0 : NoAttr K X "first_leaf"
  n1 : NoAttr K X "leaf"
  n2 : NoAttr K X "bound"
  n3 : NoAttr K X "counts"
  n4 : NoAttr K X "sums"
  n5 : NoAttr K X "leaf_ends"
/-- the place of a leaf -/
def pS (S : Sc) (b : Nat) : Int := pl S.a.toNat (item S.sp) (item S.lv) 0 b
def bdS (S : Sc) : Int := item S.sp 0 + item S.sp 1 + S.a * item S.lv 0
def mbF (S : Sc) (pc ps : Addr) : List (Str × Val) := [("first_leaf", .int (item S.sp 0)), ("leaf", .int (item S.lv 0)), ("bound", .int (bdS S)), ("counts", .ptr pc), ("sums", .ptr ps), ("leaf_ends", .lst ((List.range S.a.toNat).map fun b => .int (pS S b)))]
def mbV (X : Addr) (S : Sc) (pc ps : Addr) : Val := .obj X (mbF S pc ps)
/-- a schedule whose levels are small, at least 1 -/
structure LvG (S : Sc) : Prop where
  g : GoodS S
  l1 : ∀ j, 1 ≤ item S.lv j
theorem LvG.ls {S : Sc} (h : LvG S) : LvS S.a.toNat (item S.sp) (item S.lv) := ⟨h.g.k2, h.g.s0, h.l1⟩
theorem LvG.ka {S : Sc} (h : LvG S) : (S.a.toNat : Int) = S.a := by have := h.g.a2; omega
theorem LvG.k9 {S : Sc} (h : LvG S) : S.a.toNat ≤ 9 := by have := h.g.a9; omega
theorem LvG.si {S : Sc} (h : LvG S) (i : Nat) : 0 ≤ item S.sp i ∧ item S.sp i ≤ 1000000 := by
  rcases item_mem h.g.ls.ne i with z | z
  · exact h.g.ls.a1 _ z
  · exact h.g.ls.a2 _ z
theorem LvG.li {S : Sc} (h : LvG S) (i : Nat) : 1 ≤ item S.lv i ∧ item S.lv i ≤ 1000000 := by
  refine ⟨h.l1 i, ?_⟩
  rcases item_mem h.g.ll.ne i with z | z
  · exact (h.g.ll.a1 _ z).2
  · exact (h.g.ll.a2 _ z).2
abbrev vS (S : Sc) (n : Nat) : Int := vN S.a.toNat (item S.sp) (item S.lv) n
abbrev sS (S : Sc) (n : Nat) : Int := sV S.a.toNat (item S.sp) (item S.lv) n
def vlI (S : Sc) (t : Nat) : List Int := (List.range t).map (vS S)
def smI (S : Sc) (t : Nat) : List Int := (List.range (t + 1)).map (sS S)
theorem vlI_len {S : Sc} {t : Nat} : (vlI S t).length = t := by unfold vlI; rw [List.length_map, List.length_range]
theorem smI_len {S : Sc} {t : Nat} : (smI S t).length = t + 1 := by unfold smI; rw [List.length_map, List.length_range]
theorem vlI_at {S : Sc} {t j : Nat} (h : j < t) : (vlI S t).getD j 0 = vS S j := by
  unfold vlI
  rw [List.getD_eq_getElem?_getD, List.getElem?_map, List.getElem?_range h]
  rfl
theorem smI_at {S : Sc} {t j : Nat} (h : j ≤ t) : (smI S t).getD j 0 = sS S j := by
  unfold smI
  rw [List.getD_eq_getElem?_getD, List.getElem?_map, List.getElem?_range (by omega)]
  rfl
theorem vlI_succ {S : Sc} {t : Nat} : vlI S (t + 1) = vlI S t ++ [vS S t] := by
  unfold vlI
  rw [List.range_succ, List.map_append]
  rfl
theorem smI_succ {S : Sc} {t : Nat} : smI S (t + 1) = smI S t ++ [sS S t + vS S t] := by
  unfold smI
  rw [List.range_succ, List.map_append]
  rfl
theorem leafE {S : Sc} (h : LvG S) : [Val.int (item S.sp 0)] ++ (List.range (S.a.toNat - 1)).map (fun (i : Nat) => Val.int (item S.sp 0 + item S.sp 1 + (1 + (i : Int)) * item S.lv 0)) = (List.range S.a.toNat).map fun b => .int (pS S b) := by
  have k2 := h.ls.k2
  obtain ⟨j, hj⟩ : ∃ j, S.a.toNat = j + 1 := ⟨S.a.toNat - 1, by omega⟩
  rw [hj, Nat.add_sub_cancel, List.range_succ_eq_map, List.map_cons, List.map_map]
  have e0 : pS S 0 = item S.sp 0 := by
    have := h.ls.low (c := 0) (by omega)
    rwa [if_pos rfl] at this
  rw [e0]
  refine congrArg (Val.int (item S.sp 0) :: ·) (List.map_congr_left fun i hi => ?_)
  have hi := List.mem_range.mp hi
  have := h.ls.low (c := i + 1) (by omega)
  rw [if_neg (by omega)] at this
  show Val.int _ = Val.int (pS S (i + 1))
  unfold pS
  rw [this, Int.natCast_add, Int.add_comm (i : Int)]
  rfl
def aMbi (C CM : Addr) : ASp := fun ds M R => ∃ (p : Addr) (S : Sc) (M0 : Mem), ds = [.ptr p, scV C S] ∧ M = (p, .ins CM []) :: M0 ∧ LvG S ∧ ∀ pc ps, R .non ((ps, .lst ((smI S 0).map .int)) :: (pc, .lst ((vlI S 0).map .int)) :: (p, .ins CM (mbF S pc ps)) :: M0)
theorem b_member (B : Bt mg) (T : Rs K mg C) (SM : Sm2 P w K mg base C) (PA : PrA P w K mg base C) (F : MbX K CM) : BodyOk P w K mg base 3 f n_Member___init__ "Member.__init__" (defScope c_Member___init__) (defBody c_Member___init__) (aMbi C CM) := by
  rintro cdv A outer s0 H E hr ds M R ⟨p, S, M0, rfl, rfl, hS, hp⟩
  have a0 := hS.si 0
  have a1 := hS.si 1
  have b0 := hS.li 0
  have k2 := hS.g.k2
  have ka := hS.ka
  have k9 := hS.k9
  refine as_cons (as_setv 2 q_Member___init__.nd (av_arity T PA hr (by decide) (v_ 1)) ?_)
  refine as_cons (as_fld F.cl F.n0 ((av_sa T SM hr (by decide) (v_ 1) i_ hS.g (by decide)).val ((v_ 0).val ⟨0, p, _, rfl, rfl, Nat.le_of_ble_eq_true rfl, ?_⟩)))
  refine as_cons (as_fld F.cl F.n1 ((av_la T SM hr (by decide) (v_ 1) i_ hS.g (by decide)).val ((v_ 0).val ⟨0, p, _, rfl, rfl, Nat.le_of_ble_eq_true rfl, ?_⟩)))
  refine as_cons (as_setv (d := .int (item S.sp 0 + item S.sp 1)) 3 q_Member___init__.nd (av_add (av_fld (fs := [("first_leaf", .int (item S.sp 0)), ("leaf", .int (item S.lv 0))]) F.cl F.n0 (v_ 0) (.ce 0 rfl) rfl) (av_sa T SM hr (by decide) (v_ 1) i_ hS.g (by decide))) ?_)
  refine as_cons (as_fld F.cl F.n2 ((av_add (v_ 3) (av_mul (v_ 2) (av_fld (fs := [("first_leaf", .int (item S.sp 0)), ("leaf", .int (item S.lv 0))]) F.cl F.n1 (v_ 0) (.ce 0 rfl) rfl) (.inl ⟨by omega, by omega⟩))).val ((v_ 0).val ⟨0, p, _, rfl, rfl, Nat.le_of_ble_eq_true rfl, ?_⟩)))
  refine as_cons (as_fld F.cl F.n3 (ae_lstC (aa_nil ⟨szb, fun pc => (v_ 0).val ⟨1, p, _, rfl, rfl, Nat.le_of_ble_eq_true rfl, ?_⟩⟩)))
  refine as_cons (as_fld F.cl F.n4 (ae_lstC (aa_cons (i_.val (aa_nil ⟨szb, fun ps => (v_ 0).val ⟨2, p, _, rfl, rfl, Nat.le_of_ble_eq_true rfl, ?_⟩⟩)))))
  refine as_cons (as_fld F.cl F.n5 (ae_frz (ae_bin ((av_lst (avs_cons (av_fld (fs := [("first_leaf", .int (item S.sp 0)), ("leaf", .int (item S.lv 0)), ("bound", .int (bdS S)), ("counts", .ptr pc), ("sums", .ptr ps)]) F.cl F.n0 (v_ 0) (.ce 2 rfl) rfl) avs_nil) szb).val (ae_lcP [("index", 4)] (fun i => .int (item S.sp 0 + item S.sp 1 + (1 + (i : Int)) * item S.lv 0)) rfl q_Member___init__.nd (blkOk_by (N := n_Member___init__) (sc := defScope c_Member___init__) (by decide +kernel)) (ai_range2 (lo := 1) (n := S.a.toNat - 1) B.range (aa_cons (i_.val (aa_cons ((v_ 2).val (aa_nil ⟨_, rfl, by omega, by omega, rfl⟩))))) ) ?_ (by omega) (bv_catL (xs := [Val.int (item S.sp 0)]) (ys := (List.range (S.a.toNat - 1)).map fun (i : Nat) => Val.int (item S.sp 0 + item S.sp 1 + (1 + (i : Int)) * item S.lv 0)) (.self _) (.self _) (by rw [List.length_map, List.length_range]; exact Nat.le_of_lt (szl (show 1 + (S.a.toNat - 1) < 100000 by omega))) fun q => ⟨q, _, _, rfl, rfl, (v_ 0).val ⟨2, p, _, rfl, rfl, Nat.le_of_ble_eq_true rfl, ?_⟩⟩))))))
  · intro i acc D hi s H C' cl fp
    have mul : (1 + (i : Int)) * item S.lv 0 ≤ 10 * 1000000 := Int.mul_le_mul (by omega) (by omega) (by omega) (by decide)
    have mul0 : 0 ≤ (1 + (i : Int)) * item S.lv 0 := Int.mul_nonneg (by omega) (by omega)
    refine agw_name 4 q_Member___init__.nd fun s H C' cl fp => ?_
    exact (av_add (v_ 3) (av_mul (v_ 4) (av_fld (fs := [("first_leaf", .int (item S.sp 0)), ("leaf", .int (item S.lv 0)), ("bound", .int (bdS S)), ("counts", .ptr pc), ("sums", .ptr ps)]) F.cl F.n1 (v_ 0) (.ce 3 rfl) rfl) (.inl ⟨by omega, by omega⟩))).val ⟨rfl, rfl⟩
  · rw [leafE hS]
    exact as_nil (.ok (hp pc ps))
/-! ### a member's two cells -/
structure MbC (M : Mem) (i : Nat) (S : Sc) (pc ps : Addr) (t : Nat) : Prop where
  s : M[i]? = some (ps, .lst ((smI S t).map .int))
  c : M[i + 1]? = some (pc, .lst ((vlI S t).map .int))
def mbG (M : Mem) (i : Nat) (S : Sc) (pc ps : Addr) (t : Nat) : Mem := (M.set (i + 1) (pc, .lst ((vlI S t).map .int))).set i (ps, .lst ((smI S t).map .int))
theorem MbC.grow {M : Mem} {i t : Nat} {S : Sc} {pc ps : Addr} (h : MbC M i S pc ps t) (u : Nat) : MbC (mbG M i S pc ps u) i S pc ps u := by
  have h0 := (List.getElem?_eq_some_iff.mp h.s).1
  have h1 := (List.getElem?_eq_some_iff.mp h.c).1
  refine ⟨?_, ?_⟩
  · unfold mbG
    rw [List.getElem?_set_self (by rw [List.length_set]; exact h0)]
  · unfold mbG
    rw [List.getElem?_set_ne (by omega), List.getElem?_set_self h1]
theorem mbG_mbG {M : Mem} {i t u : Nat} {S : Sc} {pc ps : Addr} : mbG (mbG M i S pc ps t) i S pc ps u = mbG M i S pc ps u := by
  unfold mbG
  rw [List.set_comm _ _ (show i ≠ i + 1 by omega), List.set_set, List.set_set]
theorem MbC.same {M : Mem} {i t : Nat} {S : Sc} {pc ps : Addr} (h : MbC M i S pc ps t) : mbG M i S pc ps t = M := by
  unfold mbG
  rw [set_at h.c, set_at h.s]
theorem MbC.cons {M : Mem} {i t : Nat} {S : Sc} {pc ps : Addr} {x : Addr × Cell} (h : MbC M i S pc ps t) : MbC (x :: M) (i + 1) S pc ps t := ⟨h.s, h.c⟩
theorem mbG_cons {M : Mem} {i t : Nat} {S : Sc} {pc ps : Addr} {x : Addr × Cell} : mbG (x :: M) (i + 1) S pc ps t = x :: mbG M i S pc ps t := rfl
section
variable {X : Cx} {Γ : Gam} {M : Mem} {o : Expr} {pos : Pos} {S : Sc} {pc ps : Addr}
theorem av_mb0 (F : MbX X.K CM) (ho : aV X o Γ M (mbV CM S pc ps)) (hb : attributeBase o "first_leaf" X.env (eval o X.env) = eval o X.env := by rfl) : aV X (.Attribute o "first_leaf" pos) Γ M (.int (item S.sp 0)) := av_fld F.cl F.n0 ho (.im _) rfl hb
theorem av_mb1 (F : MbX X.K CM) (ho : aV X o Γ M (mbV CM S pc ps)) (hb : attributeBase o "leaf" X.env (eval o X.env) = eval o X.env := by rfl) : aV X (.Attribute o "leaf" pos) Γ M (.int (item S.lv 0)) := av_fld F.cl F.n1 ho (.im _) rfl hb
theorem av_mb2 (F : MbX X.K CM) (ho : aV X o Γ M (mbV CM S pc ps)) (hb : attributeBase o "bound" X.env (eval o X.env) = eval o X.env := by rfl) : aV X (.Attribute o "bound" pos) Γ M (.int (bdS S)) := av_fld F.cl F.n2 ho (.im _) rfl hb
theorem av_mb3 (F : MbX X.K CM) (ho : aV X o Γ M (mbV CM S pc ps)) (hb : attributeBase o "counts" X.env (eval o X.env) = eval o X.env := by rfl) : aV X (.Attribute o "counts" pos) Γ M (.ptr pc) := av_fld F.cl F.n3 ho (.im _) rfl hb
theorem av_mb4 (F : MbX X.K CM) (ho : aV X o Γ M (mbV CM S pc ps)) (hb : attributeBase o "sums" X.env (eval o X.env) = eval o X.env := by rfl) : aV X (.Attribute o "sums" pos) Γ M (.ptr ps) := av_fld F.cl F.n4 ho (.im _) rfl hb
theorem av_mb5 (F : MbX X.K CM) (ho : aV X o Γ M (mbV CM S pc ps)) (hb : attributeBase o "leaf_ends" X.env (eval o X.env) = eval o X.env := by rfl) : aV X (.Attribute o "leaf_ends" pos) Γ M (.lst ((List.range S.a.toNat).map fun b => .int (pS S b))) := av_fld F.cl F.n5 ho (.im _) rfl hb
end
/-! ### add -/
def aAdd (CM : Addr) : ASp := fun ds M R => ∃ (S : Sc) (pc ps : Addr) (i t : Nat), ds = [mbV CM S pc ps, .int (vS S t)] ∧ MbC M i S pc ps t ∧ t ≤ 50000 ∧ R .non (mbG M i S pc ps (t + 1))
theorem b_add (F : MbX K CM) : BodyOk P w K mg base 0 f n_Member_add "Member.add" (defScope c_Member_add) (defBody c_Member_add) (aAdd CM) := by
  rintro cdv A outer s0 H E hr ds M R ⟨S, pc, ps, i, t, rfl, hM, ht, hp⟩
  have hlt := (List.getElem?_eq_some_iff.mp hM.c).1
  refine as_cons (as_expr (ae_append (n0 := i + 1) (av_mb3 F (v_ 0)) hM.c ((v_ 1).val ⟨_, _, hM.c, szl (by rw [List.length_map, vlI_len]; omega), ?_⟩)))
  have h2 : (M.set (i + 1) (pc, .lst ((vlI S t).map .int ++ [.int (vS S t)])))[i]? = some (ps, .lst ((smI S t).map .int)) := by
    rw [List.getElem?_set_ne (by omega)]
    exact hM.s
  refine as_one (as_expr (ae_append (n0 := i) (av_mb4 F (v_ 0)) h2 ((av_add (av_ixL (av_mb4 F (v_ 0)) (av_neg i_) (.lst i h2) (atI_lastE (n := t) smI_len (smI_at (Nat.le_refl t)))) (v_ 1)).val ⟨_, _, h2, szl (by rw [List.length_map, smI_len]; omega), .ok ?_⟩)))
  have e : mbG M i S pc ps (t + 1) = (M.set (i + 1) (pc, .lst ((vlI S t).map .int ++ [.int (vS S t)]))).set i (ps, .lst ((smI S t).map .int ++ [.int (sS S t + vS S t)])) := by
    unfold mbG
    rw [vlI_succ, smI_succ, List.map_append, List.map_append]
    rfl
  rw [← e]
  exact hp
abbrev GAdd (P : Program) (w : World) (K : PySem.W.Frag) (mg : Str → Option Value) (base : Heap) (CM : Addr) : Prop := Mt P w K mg base CM 1 "add" (aAdd CM)
/-! ### begin -/
def aBeg (CM : Addr) : ASp := fun ds M R => ∃ (S : Sc) (pc ps : Addr) (i : Nat), ds = [mbV CM S pc ps] ∧ MbC M i S pc ps 0 ∧ LvG S ∧ bdS S ≤ 20000 ∧ R .non (mbG M i S pc ps (bdS S).toNat)
theorem bd0 {S : Sc} (h : LvG S) : 0 ≤ bdS S := by
  have a0 := h.si 0
  have a1 := h.si 1
  have b0 := h.li 0
  have k2 := h.g.k2
  have ka := h.ka
  have := Int.mul_nonneg (a := S.a) (b := item S.lv 0) (by omega) (by omega)
  unfold bdS
  omega
theorem b_begin (B : Bt mg) (F : MbX K CM) (AD : GAdd P w K mg base CM) : BodyOk P w K mg base 1 f n_Member_begin "Member.begin" (defScope c_Member_begin) (defBody c_Member_begin) (aBeg CM) := by
  rintro cdv A outer s0 H E hr ds M R ⟨S, pc, ps, i, rfl, hM, hS, hb, hp⟩
  have b0 := bd0 hS
  have k9 := hS.k9
  refine as_one (as_forL PassesOwn.never rfl (aj_range1 B.range ((av_mb2 F (v_ 0)).val ⟨_, rfl, by omega, by omega, ?_⟩)))
  refine ⟨fun t Γ M' => M' = mbG M i S pc ps t ∧ Γ = [some (mbV CM S pc ps), none, none], ⟨_, ⟨hM.same.symm, rfl⟩, (by repeat' first | exact le_nil | refine le_skip ?_ | refine le_keep rfl ?_)⟩, ?_, ?_⟩
  · rintro t Γ M' ht ⟨rfl, rfl⟩
    refine ag_name 1 q_Member_begin.nd ?_
    refine as_one (as_expr (ae_m1 F.cl AD hr (by decide) ((v_ 0).val ⟨(Ob.im _).obM rfl, (av_len (xs := ((List.range ((List.range S.a.toNat).map fun b => Val.int (pS S b)).length).filter fun b => decide (pS S b ≤ 0 + (t : Int))).map fun b => Val.int (pS S b)) B.len (ae_lcF [("place", 2)] (fun b => .int (pS S b)) (fun b => decide (pS S b ≤ 0 + (t : Int))) rfl q_Member_begin.nd (blkOk_by (N := n_Member_begin) (sc := defScope c_Member_begin) (by decide +kernel)) (ai_lst (xs := (List.range S.a.toNat).map fun b => Val.int (pS S b)) ((av_mb5 F (v_ 0)).val ⟨rfl, rfl⟩)) ?_ (by rw [List.length_map, List.length_range]; omega) ⟨rfl, rfl⟩) (.l (.self _))).val ⟨S, pc, ps, i, t, ?_, hM.grow t, by omega, ?_⟩⟩)))
    · intro b acc D hb s1 H1 C1 cl fp
      rw [List.length_map, List.length_range] at hb
      have e1 : ((List.range S.a.toNat).map fun b => Val.int (pS S b)).getD b .non = .int (pS S b) := by rw [List.getD_eq_getElem?_getD, List.getElem?_map, List.getElem?_range hb]; rfl
      rw [e1]
      refine agw_name 2 q_Member_begin.nd fun s1 H1 C1 cl fp => ?_
      exact ⟨at_cmp (v_ 2) (v_ 1) cmp_le ⟨rfl, rfl⟩, fun _ => (v_ 2).val ⟨rfl, rfl⟩⟩
    · rw [List.length_map, List.length_map, List.length_range, Int.zero_add]
      have := hS.ls.first (n := (t : Int)) (by omega) (by rw [hS.ka]; unfold bdS at ht b0; omega)
      exact congrArg (fun z : Int => [mbV CM S pc ps, Val.int z]) this
    · rw [mbG_mbG]
      exact ⟨_, ⟨rfl, rfl⟩, (by repeat' first | exact le_nil | refine le_skip ?_ | refine le_keep rfl ?_)⟩
  · rintro Γ M' ⟨rfl, rfl⟩
    exact .ok hp
abbrev GBeg (P : Program) (w : World) (K : PySem.W.Frag) (mg : Str → Option Value) (base : Heap) (CM : Addr) : Prop := Mt P w K mg base CM 2 "begin" (aBeg CM)
/-! ### pruned_place, places_at -/
/-- the pruned label of a label -/
def ppS (S : Sc) (m : Int) : Int := m - lcv S.a.toNat (item S.sp) (item S.lv) 0 m ((Vv (pl S.a.toNat (item S.sp) (item S.lv) 0) m : Nat) : Int)
def aPpl (CM : Addr) : ASp := fun ds M R => ∃ (S : Sc) (pc ps : Addr) (i t m : Nat), ds = [mbV CM S pc ps, .int (m : Int)] ∧ MbC M i S pc ps t ∧ LvG S ∧ item S.sp 0 ≤ (m : Int) ∧ (m : Int) + item S.lv 0 ≤ (t : Int) ∧ t ≤ 50000 ∧ R (.int (ppS S m)) M
theorem b_pruned_place (F : MbX K CM) : BodyOk P w K mg base 0 f n_Member_pruned_place "Member.pruned_place" (defScope c_Member_pruned_place) (defBody c_Member_pruned_place) (aPpl CM) := by
  rintro cdv A outer s0 H E hr ds M R ⟨S, pc, ps, i, t, m, rfl, hM, hS, h0, h1, ht, hp⟩
  have l0 := (hS.li 0).1
  obtain ⟨j, hj⟩ : ∃ j : Nat, (j : Int) = item S.lv 0 := ⟨(item S.lv 0).toNat, by omega⟩
  have e1 : at0 (smI S t) ((m : Int) + item S.lv 0) = sS S (m + j) := by
    unfold at0
    rw [show ((m : Int) + item S.lv 0).toNat = m + j by omega]
    exact smI_at (by omega)
  have e2 : at0 (smI S t) (m : Int) = sS S m := by
    unfold at0
    rw [Int.toNat_natCast]
    exact smI_at (by omega)
  refine as_cons (as_setv (d := .int (at0 (smI S t) ((m : Int) + item S.lv 0) - at0 (smI S t) (m : Int) - item S.lv 0)) 2 q_Member_pruned_place.nd (av_sub (av_sub (av_ixSv (av_mb4 F (v_ 0)) (av_add (v_ 1) (av_mb1 F (v_ 0))) (.c i hM.s) (by omega) (by rw [smI_len]; omega)) (av_ixSv (av_mb4 F (v_ 0)) (v_ 1) (.c i hM.s) (by omega) (by rw [smI_len]; omega))) (av_mb1 F (v_ 0))) ?_)
  refine as_one (as_retv (av_sub (av_sub (v_ 1) (av_mb0 F (v_ 0))) (v_ 2)) (.ok ?_))
  rw [e1, e2]
  have := hS.ls.place hj h0
  have e3 : (m : Int) - item S.sp 0 - (sS S (m + j) - sS S m - item S.lv 0) = ppS S m := this
  rw [e3]
  exact hp
theorem LvG.ppb {S : Sc} (h : LvG S) {m : Int} (h0 : item S.sp 0 ≤ m) : 0 ≤ ppS S m ∧ ppS S m ≤ m := by
  have s0 := (h.si 0).1
  have c := h.ls.cnt (n := m) (by omega)
  have a := lcv_nn (k := S.a.toNat) (h := 0) (n := m) (v := ((Vv (pl S.a.toNat (item S.sp) (item S.lv) 0) m : Nat) : Int)) h.ls.k2 h.ls.s0 h.ls.l0
  have b := lcv_le h.ls.k2 h.ls.s0 h.ls.l0 h.ls.lp (show (0 : Int) ≤ m by omega) c
  unfold ppS
  omega
abbrev GPpl (P : Program) (w : World) (K : PySem.W.Frag) (mg : Str → Option Value) (base : Heap) (CM : Addr) : Prop := Mt P w K mg base CM 1 "pruned_place" (aPpl CM)
/-- the places that the value for n reads -/
def plcS (S : Sc) (n : Int) (i : Nat) : Int := ppS S (n - ((i : Int) + 1) * item S.lv 0)
theorem LvG.lab {S : Sc} (h : LvG S) {n : Int} (hn : bdS S ≤ n) {i : Nat} (hi : i < S.a.toNat) : item S.sp 0 + item S.sp 1 ≤ n - ((i : Int) + 1) * item S.lv 0 ∧ n - ((i : Int) + 1) * item S.lv 0 ≤ n - item S.lv 0 := by
  have l0 := (h.li 0).1
  have ka := h.ka
  have k9 := h.k9
  have mul : ((i : Int) + 1) * item S.lv 0 ≤ S.a * item S.lv 0 := Int.mul_le_mul_of_nonneg_right (by omega) (by omega)
  have mul2 : 1 * item S.lv 0 ≤ ((i : Int) + 1) * item S.lv 0 := Int.mul_le_mul_of_nonneg_right (by omega) (by omega)
  unfold bdS at hn
  omega
theorem LvG.plb {S : Sc} (h : LvG S) {n : Int} (hn : bdS S ≤ n) {i : Nat} (hi : i < S.a.toNat) : 0 ≤ plcS S n i ∧ plcS S n i < n := by
  have l0 := (h.li 0).1
  have s1 := (h.si 1).1
  obtain ⟨a, b⟩ := h.lab hn hi
  have := h.ppb (m := n - ((i : Int) + 1) * item S.lv 0) (by omega)
  unfold plcS
  omega
def aPat (CM : Addr) : ASp := fun ds M R => ∃ (S : Sc) (pc ps : Addr) (i t : Nat) (n : Int), ds = [mbV CM S pc ps, .int n, .int S.a] ∧ MbC M i S pc ps t ∧ LvG S ∧ bdS S ≤ n ∧ n ≤ (t : Int) ∧ t ≤ 50000 ∧ R (.lst ((List.range S.a.toNat).map fun i => .int (plcS S n i))) M
theorem b_places_at (B : Bt mg) (F : MbX K CM) (PP : GPpl P w K mg base CM) : BodyOk P w K mg base 1 f n_Member_places_at "Member.places_at" (defScope c_Member_places_at) (defBody c_Member_places_at) (aPat CM) := by
  rintro cdv A outer s0 H E hr ds M R ⟨S, pc, ps, i, t, n, rfl, hM, hS, hb, hn, ht, hp⟩
  have k2 := hS.g.k2
  have k9 := hS.k9
  have ka := hS.ka
  have l0 := (hS.li 0).1
  refine as_one (as_ret (ae_lcP [("index", 3)] (fun i => .int (plcS S n i)) rfl q_Member_places_at.nd (blkOk_by (N := n_Member_places_at) (sc := defScope c_Member_places_at) (by decide +kernel)) (ai_range2 (lo := 1) (n := S.a.toNat) B.range (aa_cons (i_.val (aa_cons ((av_add (v_ 2) i_).val (aa_nil ⟨_, rfl, by omega, by omega, rfl⟩))))) ) ?_ (by omega) (.ok hp)))
  intro j acc D hj s H C' cl fp
  refine agw_name 3 q_Member_places_at.nd fun s H C' cl fp => ?_
  obtain ⟨h1, h2⟩ := hS.lab hb hj
  have s1 := (hS.si 1).1
  obtain ⟨m, hm⟩ : ∃ m : Nat, (m : Int) = n - ((j : Int) + 1) * item S.lv 0 := ⟨(n - ((j : Int) + 1) * item S.lv 0).toNat, by have := (hS.si 0).1; omega⟩
  have mulb : (1 + (j : Int)) * item S.lv 0 = ((j : Int) + 1) * item S.lv 0 := by rw [Int.add_comm]
  refine ae_m1 F.cl PP hr (by decide) ((v_ 0).val ⟨(Ob.im _).obM rfl, (av_sub (v_ 1) (av_mul (v_ 3) (av_mb1 F (v_ 0)) (.inl ⟨?_, ?_⟩))).val ⟨S, pc, ps, i + 1, t, m, ?_, hM.cons, hS, by omega, by omega, ht, ?_⟩⟩)
  · omega
  · omega
  · rw [hm, ← mulb]
    rfl
  · rw [hm]
    exact ⟨rfl, rfl⟩
abbrev GPat (P : Program) (w : World) (K : PySem.W.Frag) (mg : Str → Option Value) (base : Heap) (CM : Addr) : Prop := Mt P w K mg base CM 2 "places_at" (aPat CM)
end
end K39
namespace K39
open PySem L2 Ab Sm
/-! ### exceptions of one field -/
abbrev g1V (f : Str) (ws : List V) : List (Str × V) := [(f, ws.getD 0 .non)]
abbrev g1 (f : Str) (ds : List Val) : List (Str × Val) := [(f, ds.getD 0 .non)]
theorem g1_rel {K : PySem.W.Frag} {f : Str} : ∀ H ds vs, RepA K H ds vs → ds.length = 1 → RepF K H (g1 f ds) (g1V f vs)
  | H, [d], _, .cons r .nil, _ => .cons r .nil
/-- what stands behind a class for its base's __init__ -/
structure XBase (K : PySem.W.Frag) (mg : Str → Option Value) (xb : Str) (initId : String) : Prop where
  ex : ∃ C0, ClX.CRead K C0 (.type "type") ∧ PySem.W.findCls K (.ref C0) (.type "type") "__init__" = some (.val (.builtin initId)) ∧ mg xb = some (.ref C0)
  hh : PySem.W.handedIn (.builtin initId) = true
section
variable {P : Program} {w : World} {K : PySem.W.Frag} {mg : Str → Option Value} {base : Heap} {k : Nat} {f C : Addr} {fd : FuncData} {B newId initId : String} {tl : List Value}
theorem xi_InvalidNumber {kws : List (Str × V)} (F : FunD K "__init__" "InvalidNumber.__init__" (defArgs c_InvalidNumber___init__) (defBody c_InvalidNumber___init__) (defScope c_InvalidNumber___init__) [] kws f fd) (T : XCl K C B newId initId tl) (XB : XBase K mg "ScheduleError" initId) (hno : PySem.W.findIn K (.ref C) "number" = some none) : FnX P w K mg base 1 f [] (SpI C (g1V "number") 1) := by
  obtain ⟨C0, r, fv, mx⟩ := XB.ex
  refine (fnx_raw (sp := fun vs H Q => SpI C (g1V "number") 1 vs [] H Q) F q_InvalidNumber___init__ (fun _ _ _ _ _ _ us hl => match us, hl with | [_, _], _ => rfl) fun cdv A outer s H hr mod vs Q h => ?_).weak fun vs zs H Q h => ⟨?_, h⟩
  · obtain ⟨a, ws, rfl, hl, ha, hq⟩ := h
    obtain ⟨y, rfl⟩ : ∃ y, ws = [y] := by
      match ws, hl with
      | [y], _ => exact ⟨y, rfl⟩
    refine ⟨_, pss_cons (ps_expr (px_init (B := B) (newId := newId) (initId := initId) (tl := tl) XB.hh r fv rfl mx (pa_cons (pv 0) (pa_cons pe_str pa_nil)))) (pss_one (qx_set (B := B) (newId := newId) (initId := initId) (tl := tl) (pv 0) (pv 1))), ?_⟩
    exact ⟨.ref a, rfl, a, C, _, rfl, by decide, T, ha, y, rfl, .ref a, rfl, a, C, rfl, T, hno, .inl ⟨ha, fun dx h1 h2 => hq dx h1 h2⟩⟩
  · obtain ⟨a, ws, rfl, hl, _⟩ := h
    show ws.length + 1 = 2
    omega
theorem xi_InvalidValues {kws : List (Str × V)} (F : FunD K "__init__" "InvalidValues.__init__" (defArgs c_InvalidValues___init__) (defBody c_InvalidValues___init__) (defScope c_InvalidValues___init__) [] kws f fd) (T : XCl K C B newId initId tl) (XB : XBase K mg "ScheduleError" initId) (hno : PySem.W.findIn K (.ref C) "index" = some none) : FnX P w K mg base 1 f [] (SpI C (g1V "index") 1) := by
  obtain ⟨C0, r, fv, mx⟩ := XB.ex
  refine (fnx_raw (sp := fun vs H Q => SpI C (g1V "index") 1 vs [] H Q) F q_InvalidValues___init__ (fun _ _ _ _ _ _ us hl => match us, hl with | [_, _], _ => rfl) fun cdv A outer s H hr mod vs Q h => ?_).weak fun vs zs H Q h => ⟨?_, h⟩
  · obtain ⟨a, ws, rfl, hl, ha, hq⟩ := h
    obtain ⟨y, rfl⟩ : ∃ y, ws = [y] := by
      match ws, hl with
      | [y], _ => exact ⟨y, rfl⟩
    refine ⟨_, pss_cons (ps_expr (px_init (B := B) (newId := newId) (initId := initId) (tl := tl) XB.hh r fv rfl mx (pa_cons (pv 0) (pa_cons pe_str pa_nil)))) (pss_one (qx_set (B := B) (newId := newId) (initId := initId) (tl := tl) (pv 0) (pv 1))), ?_⟩
    exact ⟨.ref a, rfl, a, C, _, rfl, by decide, T, ha, y, rfl, .ref a, rfl, a, C, rfl, T, hno, .inl ⟨ha, fun dx h1 h2 => hq dx h1 h2⟩⟩
  · obtain ⟨a, ws, rfl, hl, _⟩ := h
    show ws.length + 1 = 2
    omega
theorem xi_InvalidRecurrence {kws : List (Str × V)} (F : FunD K "__init__" "InvalidRecurrence.__init__" (defArgs c_InvalidRecurrence___init__) (defBody c_InvalidRecurrence___init__) (defScope c_InvalidRecurrence___init__) [] kws f fd) (T : XCl K C B newId initId tl) (XB : XBase K mg "ScheduleError" initId) (hno : PySem.W.findIn K (.ref C) "part" = some none) : FnX P w K mg base 1 f [] (SpI C (g1V "part") 1) := by
  obtain ⟨C0, r, fv, mx⟩ := XB.ex
  refine (fnx_raw (sp := fun vs H Q => SpI C (g1V "part") 1 vs [] H Q) F q_InvalidRecurrence___init__ (fun _ _ _ _ _ _ us hl => match us, hl with | [_, _], _ => rfl) fun cdv A outer s H hr mod vs Q h => ?_).weak fun vs zs H Q h => ⟨?_, h⟩
  · obtain ⟨a, ws, rfl, hl, ha, hq⟩ := h
    obtain ⟨y, rfl⟩ : ∃ y, ws = [y] := by
      match ws, hl with
      | [y], _ => exact ⟨y, rfl⟩
    refine ⟨_, pss_cons (ps_expr (px_init (B := B) (newId := newId) (initId := initId) (tl := tl) XB.hh r fv rfl mx (pa_cons (pv 0) (pa_cons pe_str pa_nil)))) (pss_one (qx_set (B := B) (newId := newId) (initId := initId) (tl := tl) (pv 0) (pv 1))), ?_⟩
    exact ⟨.ref a, rfl, a, C, _, rfl, by decide, T, ha, y, rfl, .ref a, rfl, a, C, rfl, T, hno, .inl ⟨ha, fun dx h1 h2 => hq dx h1 h2⟩⟩
  · obtain ⟨a, ws, rfl, hl, _⟩ := h
    show ws.length + 1 = 2
    omega
theorem xi_Dead {kws : List (Str × V)} (F : FunD K "__init__" "Dead.__init__" (defArgs c_Dead___init__) (defBody c_Dead___init__) (defScope c_Dead___init__) [] kws f fd) (T : XCl K C B newId initId tl) (XB : XBase K mg "StateError" initId) (hno : PySem.W.findIn K (.ref C) "index" = some none) : FnX P w K mg base 1 f [] (SpI C (g1V "index") 1) := by
  obtain ⟨C0, r, fv, mx⟩ := XB.ex
  refine (fnx_raw (sp := fun vs H Q => SpI C (g1V "index") 1 vs [] H Q) F q_Dead___init__ (fun _ _ _ _ _ _ us hl => match us, hl with | [_, _], _ => rfl) fun cdv A outer s H hr mod vs Q h => ?_).weak fun vs zs H Q h => ⟨?_, h⟩
  · obtain ⟨a, ws, rfl, hl, ha, hq⟩ := h
    obtain ⟨y, rfl⟩ : ∃ y, ws = [y] := by
      match ws, hl with
      | [y], _ => exact ⟨y, rfl⟩
    refine ⟨_, pss_cons (ps_expr (px_init (B := B) (newId := newId) (initId := initId) (tl := tl) XB.hh r fv rfl mx (pa_cons (pv 0) (pa_cons pe_str pa_nil)))) (pss_one (qx_set (B := B) (newId := newId) (initId := initId) (tl := tl) (pv 0) (pv 1))), ?_⟩
    exact ⟨.ref a, rfl, a, C, _, rfl, by decide, T, ha, y, rfl, .ref a, rfl, a, C, rfl, T, hno, .inl ⟨ha, fun dx h1 h2 => hq dx h1 h2⟩⟩
  · obtain ⟨a, ws, rfl, hl, _⟩ := h
    show ws.length + 1 = 2
    omega
end
end K39
namespace K39
open PySem L2 Ab Sm
/-! ### counters in boxes -/
section
variable {P : Program} {w : World} {K : PySem.W.Frag} {mg : Str → Option Value} {base : Heap} {k : Nat} {f C C2 C3 : Addr}
/-! ### labels_of, has_number, frequency -/
/-! ### StartCounter -/
theorem CntS.le {S : Sc} (hS : GoodS S) {h : Nat} {x v : Int} (x0 : 0 ≤ x) (hv : CntS S h x v) : v ≤ x + 2 := Cnt.le hS.k2 hS.s0 hS.l0 hS.lp x0 hv
end
end K39
/-! items with zeros between them -/
namespace Sm
end Sm
namespace K39
open PySem L2 Ab Sm
section
variable {P : Program} {w : World} {K : PySem.W.Frag} {mg : Str → Option Value} {base : Heap} {k : Nat} {f C CN : Addr}
/-! ### is_integer, check_integer of anything -/
/-- no integer, or a truth value -/
def NInt (K : PySem.W.Frag) (M : Mem) (d : Val) : Prop := (∃ T, TyV K M d T ∧ PySem.W.kitOne K T (.type "int") = some false) ∨ ∃ b, d = .bl b
theorem NInt.non {M : Mem} : NInt K M .non := .inl ⟨_, .non, kit_ty (by decide +kernel)⟩
theorem NInt.str {M : Mem} {s : Str} : NInt K M (.str s) := .inl ⟨_, .str s, kit_ty (by decide +kernel)⟩
theorem NInt.bl {M : Mem} {b : Bool} : NInt K M (.bl b) := .inr ⟨b, rfl⟩
theorem NInt.tup {M : Mem} {xs : List Val} : NInt K M (.tup xs) := .inl ⟨_, .tup xs, kit_ty (by decide +kernel)⟩
/-- what check_integer refuses -/
def Bad (K : PySem.W.Frag) (M : Mem) (d : Val) (lo : Int) (hi : Option Int) : Prop := NInt K M d ∨ ∃ n, d = .int n ∧ within n (some lo) hi = false
/-! ### in_arity refuses -/
end
end K39
namespace K39
open PySem L2 Ab
/-! ### recurrences: terms, places -/
abbrev Tm := Int × Int
def outer (g : List Int) (n : Int) (t : Tm) : Int := n - t.1 - at0 g (n - t.2 - 1)
/-! ### a run -/
abbrev Dth := Int × Nat × Bool × Int
def turn (g : List Int) (n : Int) (k : Nat) (t : Tm) (a : Int) (o : Option Dth) : Int × Option Dth :=
  if o.isSome = true then (a, o) else if n - t.2 < 1 then (a, some (n, k, true, n - t.2)) else if 1 ≤ outer g n t ∧ outer g n t < n then (a + at0 g (outer g n t - 1), none) else (a, some (n, k, false, outer g n t))
def turns (g : List Int) (n : Int) (ts : List Tm) : Nat → Int × Option Dth
  | 0 => (0, none)
  | i + 1 => turn g n i (ts.getD i (0, 1)) (turns g n ts i).1 (turns g n ts i).2
def runR (ts : List Tm) : Nat → List Int → List Int × Option Dth
  | 0, g => (g, none)
  | c + 1, g => if (turns g (g.length + 1) ts ts.length).2.isSome = true then (g, (turns g (g.length + 1) ts ts.length).2) else runR ts c (g ++ [(turns g (g.length + 1) ts ts.length).1])
/-- the run up to a number -/
def rv (ts : List Tm) (first : List Int) (n : Nat) : List Int × Option Dth := runR ts (n - first.length) first
/-- whether there is a value with the number -/
def alv (ts : List Tm) (first : List Int) (n : Nat) : Prop := n ≤ (rv ts first n).1.length
instance (ts : List Tm) (first : List Int) (n : Nat) : Decidable (alv ts first n) := by unfold alv; infer_instance
section
variable {P : Program} {w : World} {K : PySem.W.Frag} {mg : Str → Option Value} {base : Heap} {k : Nat} {f C : Addr}
/-! ### is_whole -/
def aWhole : ASp := fun ds M P => ∃ n lo hi, ds = [.int n, optV lo, optV hi] ∧ P (.bl (within n lo hi)) M
theorem b_is_whole (B : Bt mg) : BodyOk P w K mg base k f n_is_whole "is_whole" (defScope s_is_whole) (defBody s_is_whole) aWhole := by
  rintro cdv A outer s H E hr ds M R ⟨n, lo, hi, rfl, hp⟩
  refine as_cons (as_if (at_w (aw_or (at_not (at_val (ae_isi B.isinstance (v_ 0) (av_ty (T := "int") B.int (by decide +kernel)) (.ty "int") (.int _) (kit_ty (by decide +kernel)) ⟨true, rfl, nft, fun _ => ?_⟩))))))
  refine aw_or1 (at_val (ae_isi B.isinstance (v_ 0) (av_ty (T := "bool") B.bool (by decide +kernel)) (.ty "bool") (.int _) (kit_ty (by decide +kernel)) ⟨false, rfl, nft, fun _ => ?_⟩))
  refine as_nil (as_one (as_ret ?_))
  cases lo with
  | none =>
    refine ae_and (ae_or (ae_cmp (v_ 1) n_ cmp_isN ⟨true, rfl, fun _ => ⟨true, rfl, fun _ => ?_, ntf⟩, ntf⟩))
    cases hi with
    | none => exact ae_one (ae_or (ae_cmp (v_ 2) n_ cmp_isN ⟨true, rfl, fun _ => .ok hp, ntf⟩))
    | some h => exact ae_one (ae_or (ae_cmp (v_ 2) n_ cmp_isN ⟨false, rfl, nft, fun _ => ae_one (ae_cmp (v_ 0) (v_ 2) cmp_le (.ok (by simpa [within] using hp)))⟩))
  | some l =>
    refine ae_and (ae_or (ae_cmp (v_ 1) n_ cmp_isN ⟨false, rfl, nft, fun _ => ae_one (ae_cmp (v_ 0) (v_ 1) cmp_ge ⟨_, rfl, fun e => ?_, fun e => .ok (by simpa [within, e] using hp)⟩)⟩))
    cases hi with
    | none => exact ae_one (ae_or (ae_cmp (v_ 2) n_ cmp_isN ⟨true, rfl, fun _ => .ok (by simpa [within, e] using hp), ntf⟩))
    | some h => exact ae_one (ae_or (ae_cmp (v_ 2) n_ cmp_isN ⟨false, rfl, nft, fun _ => ae_one (ae_cmp (v_ 0) (v_ 2) cmp_le (.ok (by simpa [within, e] using hp)))⟩))
/-- is_whole(item), is_whole(x, least=.., most=..) -/
structure GWh (P : Program) (w : World) (K : PySem.W.Frag) (mg : Str → Option Value) (base : Heap) : Prop where
  one : Gd P w K mg base 1 "is_whole" [] fun ds es M R => ds.length = 1 ∧ aWhole (ds ++ [.non, .non]) M R
  two : Gd P w K mg base 1 "is_whole" ["least", "most"] fun ds es M R => ds.length = 1 ∧ aWhole (ds ++ es) M R
/-! ### wrong_place -/
/-! ### the class -/
/-! ### step -/
end
end K39
namespace K39
open PySem L2 Ab GenW
section
variable {P : Program} {w : World} {K : PySem.W.Frag} {mg : Str → Option Value} {base : Heap} {k : Nat} {f C : Addr}
/-! ### methods over an opened recurrence -/
/-! ### value, death -/
theorem within_in {n lo hi : Int} (h1 : lo ≤ n) (h2 : n ≤ hi) : within n (some lo) (some hi) = true := by simp [within]; omega
/-- is_whole(e, least=a, most=b) where it is so -/
theorem av_whole {X : Cx} {Γ : Gam} {M : Mem} {e a b : Expr} {p1 p2 p3 pos : Pos} {n lo hi : Int} {m : Nat} (W : GWh X.prog X.w X.K X.mg X.base) (hr : Rm m X.A) (hm : 1 ≤ m) (he : aV X e Γ M (.int n)) (ha : aV X a Γ M (.int lo)) (hb : aV X b Γ M (.int hi)) (h1 : lo ≤ n) (h2 : n ≤ hi)
    (hg : Gl X "is_whole" := by rfl) (hst : starEach [e] X.env = (false, eval e X.env) :: starEach [] X.env := by rfl) : aV X (.Call (.Name "is_whole" p1) [e] [⟨some "least", a, p2⟩, ⟨some "most", b, p3⟩] pos) Γ M (.bl true) :=
  ae_g W.two hr hm (aa_cons (he.val (aa_nil (ak_cons (ha.val (ak_cons (hb.val (ak_nil ⟨rfl, rfl, n, some lo, some hi, rfl, by rw [within_in h1 h2]; exact ⟨rfl, rfl⟩⟩)))))) ) hst) hg rfl rfl (by decide) hst (by rw [hst]; rfl)
end
end K39
namespace Ab
open PySem PySem.Spec PyProof.Rows L2
end Ab
/-! arguments in any order; a def with one positional parameter and a star -/
namespace Ab
open PySem L2 GenW
end Ab
/-! slices of lists of ints, sums, comparisons of two texts -/
namespace Ab
open PySem L2
variable {X : Cx} {Γ : Gam} {M : Mem} {P : Val → Mem → Prop} {a b e : Expr} {pos p1 p2 q1 q2 : Pos} {d : Val} {n : Nat}
/-- sum of a list that does not change -/
theorem av_sumI {ns : List Int} (hm : X.mg "sum" = none) (hc : X.calm = true) (ha : aV X a Γ M d) (hv : Vw M d (.lst (ns.map .int))) (hg : Gl X "sum" := by rfl) (hst : starEach [a] X.env = [(false, eval a X.env)] := by rfl) : aV X (.Call (.Name "sum" p1) [a] [] pos) Γ M (.int ns.sum) :=
  ae_sum hm hc (ha.val ⟨ns, hv, rfl, rfl⟩) hg hst
/-! ### repr(a) against repr(b) -/
structure RO (v : Val) : Prop where
  sq : isSq v
  sh : shV v
  wd : wdV v ≤ sizeLine
  dp : dpV v ≤ 60
/-- repr(a) != repr(b) is false -/
theorem at_rneV {P : Bool → Mem → Prop} (hr : Rm n X.A) (hm : X.mg "repr" = none) (h : aE X a Γ M fun d M1 => ∃ v, Vw M1 d v ∧ RO v ∧ aE X b Γ M1 fun d2 M2 => ∃ v2, Vw M2 d2 v2 ∧ v2 = v ∧ P false M2)
    (hg : Gl X "repr" := by rfl) (ha : starEach [a] X.env = [(false, eval a X.env)] := by rfl) (hb : starEach [b] X.env = [(false, eval b X.env)] := by rfl) (hk : behindInMarks .NotEq (.Call (.Name "repr" p2) [b] [] q2) = false := by first | exact nomark _ | rfl) : aT X (.Compare (.Call (.Name "repr" p1) [a] [] q1) [.NotEq] [.Call (.Name "repr" p2) [b] [] q2] pos) Γ M P :=
  at_cmpM (ae_reprV hr hm (h.mono fun d M1 ⟨v, h1, r, h2⟩ => ⟨v, h1, r.sq, r.sh, r.wd, r.dp, ae_reprV hr hm (h2.mono fun d2 M2 ⟨v2, h3, e, hp⟩ => ⟨v2, h3, e ▸ r.sq, e ▸ r.sh, e ▸ r.wd, e ▸ r.dp, false, cmp_neSF (by rw [e]), hp⟩) hg hb⟩) hg ha) hk
end Ab
namespace K39
open PySem L2 Ab Sm
section
variable {P : Program} {w : World} {K : PySem.W.Frag} {mg : Str → Option Value} {base : Heap} {k : Nat} {f C CM CS CY : Addr}
/-! ### Member(schedule) -/
structure MkM (P : Program) (w : World) (K : PySem.W.Frag) (mg : Str → Option Value) (base : Heap) (C CM : Addr) : Prop where
  gx : mg "Member" = some (.ref CM)
  ex : ∃ fi, Mk K CM fi ∧ FX P w K mg base 4 fi fun ds _ => aMbi C CM ds
theorem ae_member {X : Cx} {Γ : Gam} {M : Mem} {R : Val → Mem → Prop} {e : Expr} {p1 pos : Pos} {m : Nat} (I : MkM X.prog X.w X.K X.mg X.base C CM) (hr : Rm m X.A) (hm : 5 ≤ m)
    (h : aE X e Γ M fun x M1 => ∃ S, x = scV C S ∧ LvG S ∧ ∀ pc ps, R (mbV CM S pc ps) ((ps, .lst ((smI S 0).map .int)) :: (pc, .lst ((vlI S 0).map .int)) :: M1))
    (hg : Gl X "Member" := by rfl) (hdb : (("Member" : Str) == ("__debug__" : Str)) = false := by decide) (he : starEach [e] X.env = (false, eval e X.env) :: starEach [] X.env := by rfl) : aE X (.Call (.Name "Member" p1) [e] [] pos) Γ M R := by
  obtain ⟨fi, mk, F⟩ := I.ex
  refine ae_frzO (ae_perm (ae_make mk F (hr.mono hm) I.gx (aa_cons (h.mono fun x M1 h1 => aa_nil (ak_nil ⟨rfl, fun p hn => ?_⟩)) he) hg rfl rfl hdb he (by rw [he]; rfl)))
  obtain ⟨S, rfl, hS, hR⟩ := h1
  exact ⟨p, S, M1, rfl, rfl, hS, fun pc ps => ⟨rfl, _, (List.perm_middle (l₁ := [_, _])).symm, p, CM, mbF S pc ps, _, rfl, rfl, hR pc ps⟩⟩
/-! ### the cells of a system -/
def sysB (g : Nat → Sc) (pc ps : Nat → Addr) (T : Nat → Nat) : Nat → Mem0
  | 0 => []
  | n + 1 => (ps n, .lst ((smI (g n) (T n)).map .int)) :: (pc n, .lst ((vlI (g n) (T n)).map .int)) :: sysB g pc ps T n
theorem sysB_len {g : Nat → Sc} {pc ps : Nat → Addr} {T : Nat → Nat} : ∀ n, (bs (sysB g pc ps T n)).length = 2 * n
  | 0 => rfl
  | n + 1 => by
    show (bs (sysB g pc ps T n)).length + 1 + 1 = _
    rw [sysB_len n]
    omega
theorem sysB_congr {g : Nat → Sc} {pc ps pc' ps' : Nat → Addr} {T T' : Nat → Nat} : ∀ n, (∀ i, i < n → pc i = pc' i ∧ ps i = ps' i ∧ T i = T' i) → sysB g pc ps T n = sysB g pc' ps' T' n
  | 0, _ => rfl
  | n + 1, h => by
    obtain ⟨a, b, c⟩ := h n (Nat.lt_succ_self n)
    show (ps n, _) :: (pc n, _) :: sysB g pc ps T n = (ps' n, _) :: (pc' n, _) :: sysB g pc' ps' T' n
    rw [a, b, c, sysB_congr n fun i hi => h i (Nat.lt_succ_of_lt hi)]
theorem sysB_at {g : Nat → Sc} {pc ps : Nat → Addr} {T : Nat → Nat} {M : Mem} {i : Nat} : ∀ n, i < n → MbC (bs (sysB g pc ps T n) ++ M) (2 * (n - 1 - i)) (g i) (pc i) (ps i) (T i)
  | 0, h => absurd h (Nat.not_lt_zero i)
  | n + 1, h => by
    by_cases z : i = n
    · subst z
      rw [show 2 * (i + 1 - 1 - i) = 0 by omega]
      exact ⟨rfl, rfl⟩
    · rw [show 2 * (n + 1 - 1 - i) = 2 * (n - 1 - i) + 1 + 1 by omega]
      exact (sysB_at n (by omega)).cons.cons
theorem sysB_set {g : Nat → Sc} {pc ps : Nat → Addr} {T : Nat → Nat} {M : Mem} {i u : Nat} : ∀ n, i < n → mbG (bs (sysB g pc ps T n) ++ M) (2 * (n - 1 - i)) (g i) (pc i) (ps i) u = bs (sysB g pc ps (fun j => if j = i then u else T j) n) ++ M
  | 0, h => absurd h (Nat.not_lt_zero i)
  | n + 1, h => by
    by_cases z : i = n
    · subst z
      rw [show 2 * (i + 1 - 1 - i) = 0 by omega]
      show (ps i, Cell.lst ((smI (g i) u).map .int)) :: (pc i, Cell.lst ((vlI (g i) u).map .int)) :: (bs (sysB g pc ps T i) ++ M) = (ps i, Cell.lst ((smI (g i) (if i = i then u else T i)).map .int)) :: (pc i, Cell.lst ((vlI (g i) (if i = i then u else T i)).map .int)) :: (bs (sysB g pc ps (fun j => if j = i then u else T j) i) ++ M)
      rw [if_pos rfl, sysB_congr (T := T) (T' := fun j => if j = i then u else T j) i fun j hj => ⟨rfl, rfl, (if_neg (show ¬ j = i by omega)).symm⟩]
    · rw [show 2 * (n + 1 - 1 - i) = 2 * (n - 1 - i) + 1 + 1 by omega]
      show mbG ((ps n, Cell.lst ((smI (g n) (T n)).map .int)) :: (pc n, Cell.lst ((vlI (g n) (T n)).map .int)) :: (bs (sysB g pc ps T n) ++ M)) _ _ _ _ _ = (ps n, Cell.lst ((smI (g n) (if n = i then u else T n)).map .int)) :: (pc n, Cell.lst ((vlI (g n) (if n = i then u else T n)).map .int)) :: (bs (sysB g pc ps (fun j => if j = i then u else T j) n) ++ M)
      rw [mbG_cons, mbG_cons, sysB_set n (by omega), if_neg (show ¬ n = i from fun e => z e.symm)]
/-! ### System -/
structure SyX (K : PySem.W.Frag) (mg : Str → Option Value) (Y : Addr) : Prop where
  cl : Cls K Y
  gY : mg "System" = some (.ref Y)
  n0 : NoAttr K Y "chain"
  n1 : NoAttr K Y "back_index"
  n2 : NoAttr K Y "arity_used"
  n3 : NoAttr K Y "members"
  ms : ∃ mc u, ClX.CRead K Y mc ∧ ClX.CVal K Y mc "MAX_START" (.int 20000) u
  mt : ∃ mc u, ClX.CRead K Y mc ∧ ClX.CVal K Y mc "MAX_STEPS" (.int 2000) u
def mbsV (CM : Addr) (S : Sc) (cs : List Sc) (pc ps : Nat → Addr) : Val := .lst ((List.range cs.length).map fun i => mbV CM (cs.getD i S) (pc i) (ps i))
def sysF (C CM : Addr) (S : Sc) (cs : List Sc) (b : Nat) (pc ps : Nat → Addr) : List (Str × Val) := [("chain", .lst (cs.map (scV C))), ("back_index", .int (b : Nat)), ("arity_used", .int S.a), ("members", mbsV CM S cs pc ps)]
def sysV (C CM CY : Addr) (S : Sc) (cs : List Sc) (b : Nat) (pc ps : Nat → Addr) : Val := .obj CY (sysF C CM S cs b pc ps)
abbrev gS (S : Sc) (cs : List Sc) : Nat → Sc := fun i => cs.getD i S
abbrev bdn (S : Sc) : Nat := (bdS S).toNat
/-- small items -/
structure SmG (S : Sc) : Prop where
  g : LvG S
  s : ∀ j, item S.sp j ≤ 40
  l : ∀ j, item S.lv j ≤ 40
theorem SmG.ch {S : Sc} {cs : List Sc} (h : SmG S) (c : IsCh S cs) {i : Nat} (hi : i < cs.length) : SmG (cs.getD i S) := by
  obtain ⟨a, b, d⟩ := c i hi
  exact ⟨⟨a, fun j => by rw [(d j).2]; exact h.g.l1 _⟩, fun j => by rw [(d j).1]; exact h.s _, fun j => by rw [(d j).2]; exact h.l _⟩
theorem SmG.bd {S : Sc} (h : SmG S) : 0 ≤ bdS S ∧ bdS S ≤ 440 := by
  have b0 := bd0 h.g
  have k9 := h.g.k9
  have ka := h.g.ka
  have l0 := (h.g.li 0).1
  have a0 := h.s 0
  have a1 := h.s 1
  have m := Int.mul_le_mul (show S.a ≤ 9 by omega) (h.l 0) (by omega) (by decide)
  refine ⟨b0, ?_⟩
  unfold bdS
  omega
theorem sum_le {b : Int} (hb : 0 ≤ b) : ∀ (xs : List Int), (∀ x ∈ xs, x ≤ b) → xs.sum ≤ (xs.length : Int) * b
  | [], _ => by simp
  | x :: xs, h => by
    have h1 := h x List.mem_cons_self
    have h2 := sum_le hb xs fun y hy => h y (List.mem_cons_of_mem _ hy)
    rw [List.sum_cons, List.length_cons, Int.natCast_add, Int.add_mul]
    omega
def aSyi (C CM CY : Addr) : ASp := fun ds M R => ∃ (p : Addr) (S : Sc) (M0 : Mem), ds = [.ptr p, scV C S] ∧ M = (p, .ins CY []) :: M0 ∧ SmG S ∧ ∀ cs b pc ps, ChR S cs b → R .non (bs (sysB (gS S cs) pc ps (fun i => bdn (gS S cs i)) cs.length) ++ (p, .ins CY (sysF C CM S cs b pc ps)) :: M0)
theorem at_mid {B : Mem0} {n : Nat} {x : Addr × Cell} {M : Mem} (h : (bs B).length = n) : (bs B ++ x :: M)[n]? = some x := by
  rw [List.getElem?_append_right (by omega), h, Nat.sub_self]
  rfl
theorem set_mid {B : Mem0} {n : Nat} {x y : Addr × Cell} {M : Mem} (h : (bs B).length = n) : (bs B ++ x :: M).set n y = bs B ++ y :: M := by
  rw [List.set_append_right _ _ (by omega), h, Nat.sub_self]
  rfl
theorem vw_range {M : Mem} {n : Nat} {g : Nat → Int} : Vw M (.lst ((List.range n).map fun i => Val.int (g i))) (.lst (((List.range n).map g).map .int)) := by
  rw [List.map_map]
  exact .self _
theorem getD_range {α : Type} {n i : Nat} {g : Nat → α} {d : α} (h : i < n) : ((List.range n).map g).getD i d = g i := by
  rw [List.getD_eq_getElem?_getD, List.getElem?_map, List.getElem?_range h]
  rfl
theorem b_system (B : Bt mg) (T : Rs K mg C) (PA : PrA P w K mg base C) (g_check_levels : GCkl P w K mg base C) (g_pruned_chain : GPch P w K mg base C) (Y : SyX K mg CY) (FM : MbX K CM) (I : MkM P w K mg base C CM) (BG : GBeg P w K mg base CM) : BodyOk P w K mg base 9 f n_System___init__ "System.__init__" (defScope c_System___init__) (defBody c_System___init__) (aSyi C CM CY) := by
  rintro cdv A outer s0 H E hr ds M R ⟨p, S, M0, rfl, rfl, hS, hp⟩
  refine as_cons (as_expr (ae_g g_check_levels hr (by decide) (aa_cons ((v_ 1).val (aa_nil (ak_nil ⟨rfl, S, rfl, hS.g.g, fun j => ?_, ?_⟩))))))
  · have := hS.g.l1 j
    omega
  refine as_cons (as_asg (ae_g g_pruned_chain hr (by decide) (aa_cons ((v_ 1).val (aa_nil (ak_nil ⟨rfl, S, rfl, hS.g.g, fun j => ?_, fun cs b hc => ?_⟩))))))
  · have := hS.g.l1 j
    omega
  obtain ⟨hch, h1, h42, hb, hrep, hpw⟩ := hc
  refine ag_tup rfl (ags_cons (ag_fld Y.cl Y.n0 ((v_ 0).val ⟨0, p, _, rfl, rfl, Nat.le_of_ble_eq_true rfl, ags_cons (ag_fld Y.cl Y.n1 ((v_ 0).val ⟨0, p, _, rfl, rfl, Nat.le_of_ble_eq_true rfl, ags_nil ?_⟩))⟩)))
  refine as_cons (as_fld Y.cl Y.n2 ((av_arity T PA hr (by decide) (v_ 1)).val ((v_ 0).val ⟨0, p, _, rfl, rfl, Nat.le_of_ble_eq_true rfl, ?_⟩)))
  obtain ⟨F3, hF3⟩ : ∃ F3, F3 = [("chain", .lst (cs.map (scV C))), ("back_index", .int (b : Nat)), ("arity_used", Val.int S.a)] := ⟨_, rfl⟩
  show aSs _ _ _ ((p, .ins CY [("chain", .lst (cs.map (scV C))), ("back_index", .int (b : Nat)), ("arity_used", Val.int S.a)]) :: M0) _
  obtain ⟨mc, u, rd, mf⟩ := Y.ms
  refine as_cons (as_fld Y.cl Y.n3 (ae_frz (ae_lcC (G := fun _ => True) (it := fun i => (cs.map (scV C)).getD i .non) [("one", 2)] (fun i acc M' => ∃ pc ps, M' = bs (sysB (gS S cs) pc ps (fun _ => 0) i) ++ (p, .ins CY [("chain", .lst (cs.map (scV C))), ("back_index", .int (b : Nat)), ("arity_used", Val.int S.a)]) :: M0 ∧ acc = (List.range i).map fun j => mbV CM (cs.getD j S) (pc j) (ps j)) rfl q_System___init__.nd (blkOk_by (N := n_System___init__) (sc := defScope c_System___init__) (by decide +kernel)) (ai_lst (xs := cs.map (scV C)) ((av_fld Y.cl Y.n0 (v_ 0) (.ce 0 rfl) rfl).val ⟨rfl, fun _ => 0, fun _ => 0, rfl, rfl⟩)) (fun _ _ _ _ _ => trivial) (fun _ _ _ => trivial) ?_ (by rw [List.length_map]; omega) ?_)))
  · rintro i acc M' D hi _ ⟨pc, ps, rfl, rfl⟩ s1 H1 C1 cl fp
    rw [List.length_map] at hi
    have e1 : (cs.map (scV C)).getD i .non = scV C (cs.getD i S) := by rw [List.getD_eq_getElem?_getD, List.getElem?_map, List.getD_eq_getElem?_getD, List.getElem?_eq_getElem hi]; rfl
    rw [e1]
    refine agw_name 2 q_System___init__.nd fun s' H' C' cl' fp' => ats_nil ⟨fun _ s2 H2 C2 cl2 fp2 => ?_, fun z => nomatch z⟩
    refine ae_perm (ae_member I hr (by decide) ((v_ 2).val ⟨cs.getD i S, rfl, (hS.ch hch hi).g, fun pcn psn => ⟨_, (List.perm_middle (l₁ := [_, _])).symm, _, rfl, fun j => if j = i then pcn else pc j, fun j => if j = i then psn else ps j, ?_, ?_⟩⟩))
    · show (psn, Cell.lst ((smI (cs.getD i S) 0).map .int)) :: (pcn, Cell.lst ((vlI (cs.getD i S) 0).map .int)) :: (bs (sysB (gS S cs) pc ps (fun _ => 0) i) ++ _) = ((if i = i then psn else ps i), Cell.lst ((smI (cs.getD i S) 0).map .int)) :: ((if i = i then pcn else pc i), Cell.lst ((vlI (cs.getD i S) 0).map .int)) :: (bs (sysB (gS S cs) _ _ (fun _ => 0) i) ++ _)
      rw [if_pos rfl, if_pos rfl, sysB_congr (pc := pc) (pc' := fun j => if j = i then pcn else pc j) (ps := ps) (ps' := fun j => if j = i then psn else ps j) (T := fun _ => 0) (T' := fun _ => 0) i fun j hj => ⟨(if_neg (by omega)).symm, (if_neg (by omega)).symm, rfl⟩]
    · rw [List.range_succ, List.map_append, List.map_singleton]
      show _ = _ ++ [mbV CM (cs.getD i S) (if i = i then pcn else pc i) (if i = i then psn else ps i)]
      rw [if_pos rfl, if_pos rfl]
      exact congrArg (· ++ _) (List.map_congr_left fun j hj => by
        have := List.mem_range.mp hj
        show _ = mbV CM (cs.getD j S) (if j = i then pcn else pc j) (if j = i then psn else ps j)
        rw [if_neg (by omega), if_neg (by omega)])
  · rintro D acc M' ⟨pc, ps, rfl, rfl⟩
    rw [List.length_map]
    refine ⟨D, _, _, rfl, rfl, (v_ 0).val ⟨2 * cs.length, p, _, rfl, at_mid (sysB_len _), Nat.le_of_ble_eq_true rfl, ?_⟩⟩
    rw [set_mid (sysB_len _)]
    show aSs _ _ _ (bs (sysB (gS S cs) pc ps (fun _ => 0) cs.length) ++ (p, .ins CY (sysF C CM S cs b pc ps)) :: M0) _
    have hb0 : ∀ i, i < cs.length → SmG (cs.getD i S) := fun i hi => hS.ch hch hi
    refine as_cons (as_ifp (tp_cmp (av_sumI (ns := (List.range ((List.range cs.length).map fun i => mbV CM (cs.getD i S) (pc i) (ps i)).length).map fun i => bdS (cs.getD i S)) B.sum rfl (ae_lcP [("member", 3)] (fun i => .int (bdS (cs.getD i S))) rfl q_System___init__.nd (blkOk_by (N := n_System___init__) (sc := defScope c_System___init__) (by decide +kernel)) (ai_lst (xs := (List.range cs.length).map fun i => mbV CM (cs.getD i S) (pc i) (ps i)) ((av_fld Y.cl Y.n3 (v_ 0) (.ce _ (at_mid (sysB_len _))) rfl).val ⟨rfl, rfl⟩)) ?_ (by rw [List.length_map, List.length_range]; omega) ⟨rfl, rfl⟩) vw_range) (ae_const rd mf (ae_glob Y.gY ⟨rfl, rfl⟩) (fun _ => .int _) ⟨rfl, rfl⟩) cp_gt) (fun c => absurd c ?_) (fun _ => as_nil ?_))
    · intro i acc D hi s1 H1 C1 cl fp
      rw [List.length_map, List.length_range] at hi
      rw [getD_range hi]
      exact agw_name 3 q_System___init__.nd fun s1 H1 C1 cl fp => (av_mb2 FM (v_ 3)).val ⟨rfl, rfl⟩
    · have := sum_le (b := 440) (by decide) ((List.range ((List.range cs.length).map fun i => mbV CM (cs.getD i S) (pc i) (ps i)).length).map fun i => bdS (cs.getD i S)) fun x hx => by
        obtain ⟨i, hi, rfl⟩ := List.mem_map.mp hx
        have hi := List.mem_range.mp hi
        rw [List.length_map, List.length_range] at hi
        exact (hb0 i hi).bd.2
      rw [List.length_map, List.length_range, List.length_map, List.length_range] at this
      rw [List.length_map, List.length_range]
      omega
    refine as_one (as_forL PassesOwn.never rfl (aj_lst ((av_fld Y.cl Y.n3 (v_ 0) (.ce _ (at_mid (sysB_len _))) rfl).val ⟨_, rfl, ?_⟩)))
    rw [List.length_map, List.length_range]
    refine ⟨fun t Γ M' => M' = bs (sysB (gS S cs) pc ps (fun i => if i < t then bdn (gS S cs i) else 0) cs.length) ++ (p, .ins CY (sysF C CM S cs b pc ps)) :: M0 ∧ Γ = [some (.ptr p), some (scV C S), none, none], ⟨_, ⟨?_, rfl⟩, (by repeat' first | exact le_nil | refine le_skip ?_ | refine le_keep rfl ?_)⟩, ?_, ?_⟩
    · rw [sysB_congr (T := fun _ => 0) (T' := fun i => if i < 0 then bdn (gS S cs i) else 0) cs.length fun i hi => ⟨rfl, rfl, (if_neg (Nat.not_lt_zero i)).symm⟩]
    · rintro t Γ M' ht ⟨rfl, rfl⟩
      show aG _ _ (((List.range cs.length).map fun i => mbV CM (cs.getD i S) (pc i) (ps i)).getD t .non) _ _ _
      rw [getD_range ht]
      refine ag_name 3 q_System___init__.nd ?_
      have hM := sysB_at (g := gS S cs) (pc := pc) (ps := ps) (T := fun i => if i < t then bdn (gS S cs i) else 0) (M := (p, .ins CY (sysF C CM S cs b pc ps)) :: M0) cs.length ht
      have e0 : (if t < t then bdn (gS S cs t) else 0) = 0 := if_neg (Nat.lt_irrefl t)
      rw [e0] at hM
      refine as_one (as_expr (ae_m0 FM.cl BG hr (by decide) ((v_ 3).val ⟨(Ob.im _).obM rfl, cs.getD t S, pc t, ps t, _, rfl, hM, (hb0 t ht).g, by have := (hb0 t ht).bd.2; omega, ⟨_, ⟨?_, rfl⟩, (by repeat' first | exact le_nil | refine le_skip ?_ | refine le_keep rfl ?_)⟩⟩)))
      rw [sysB_set cs.length ht, sysB_congr (T := fun j => if j = t then (bdS (cs.getD t S)).toNat else if j < t then bdn (gS S cs j) else 0) (T' := fun i => if i < t + 1 then bdn (gS S cs i) else 0) cs.length fun i hi => ⟨rfl, rfl, ?_⟩]
      show (if i = t then (bdS (cs.getD t S)).toNat else if i < t then bdn (gS S cs i) else 0) = if i < t + 1 then bdn (gS S cs i) else 0
      by_cases z : i = t
      · rw [if_pos z, if_pos (by omega), z]
      · rw [if_neg z]
        by_cases y : i < t
        · rw [if_pos y, if_pos (by omega)]
        · rw [if_neg y, if_neg (by omega)]
    · rintro Γ M' ⟨rfl, rfl⟩
      rw [sysB_congr (T := fun i => if i < cs.length then bdn (gS S cs i) else 0) (T' := fun i => bdn (gS S cs i)) cs.length fun i hi => ⟨rfl, rfl, if_pos hi⟩]
      exact .ok (hp cs b pc ps ⟨hch, h1, h42, hb, hrep, hpw⟩)
/-! ### System(schedule), its cells in a box -/
def sysQ (S : Sc) (cs : List Sc) (pc ps : Nat → Addr) (t : Nat) : Mem0 := sysB (gS S cs) pc ps (fun i => max (bdn (gS S cs i)) t) cs.length
def sysP (S : Sc) (cs : List Sc) (pc ps : Nat → Addr) (B : Mem0) : Prop := ∃ t, t ≤ 40000 ∧ B = sysQ S cs pc ps t
def sysC (S : Sc) (cs : List Sc) (pc ps : Nat → Addr) : Cell := .box (sysP S cs pc ps)
theorem sysB_mem {g : Nat → Sc} {pc ps : Nat → Addr} {T : Nat → Nat} : ∀ n, 0 < n → ps 0 ∈ (sysB g pc ps T n).map (·.1)
  | 0, h => absurd h (Nat.lt_irrefl 0)
  | 1, _ => List.mem_cons_self
  | n + 2, _ => List.mem_cons_of_mem _ (List.mem_cons_of_mem _ (sysB_mem (n + 1) (Nat.succ_pos n)))
structure MkY (P : Program) (w : World) (K : PySem.W.Frag) (mg : Str → Option Value) (base : Heap) (C CM CY : Addr) : Prop where
  ex : ∃ fi, Mk K CY fi ∧ FX P w K mg base 10 fi fun ds _ => aSyi C CM CY ds
theorem ae_system {X : Cx} {Γ : Gam} {M : Mem} {R : Val → Mem → Prop} {e : Expr} {p1 pos : Pos} {m : Nat} (Y : SyX X.K X.mg CY) (I : MkY X.prog X.w X.K X.mg X.base C CM CY) (hr : Rm m X.A) (hm : 11 ≤ m)
    (h : aE X e Γ M fun x M1 => ∃ S, x = scV C S ∧ SmG S ∧ ∀ cs b pc ps, ChR S cs b → R (sysV C CM CY S cs b pc ps) ((ps 0, sysC S cs pc ps) :: M1))
    (hg : Gl X "System" := by rfl) (hdb : (("System" : Str) == ("__debug__" : Str)) = false := by decide) (he : starEach [e] X.env = (false, eval e X.env) :: starEach [] X.env := by rfl) : aE X (.Call (.Name "System" p1) [e] [] pos) Γ M R := by
  obtain ⟨fi, mk, F⟩ := I.ex
  refine ae_close (ae_frzO (ae_perm (ae_make mk F (hr.mono hm) Y.gY (aa_cons (h.mono fun x M1 h1 => aa_nil (ak_nil ⟨rfl, fun p hn => ?_⟩)) he) hg rfl rfl hdb he (by rw [he]; rfl))))
  obtain ⟨S, rfl, hS, hR⟩ := h1
  refine ⟨p, S, M1, rfl, rfl, hS, fun cs b pc ps hc => ⟨rfl, _, List.perm_middle.symm, p, CY, _, _, rfl, rfl, _, _, M1, ps 0, rfl, ⟨0, by decide, ?_⟩, sysB_mem _ hc.2.1, hR cs b pc ps hc⟩⟩
  exact sysB_congr _ fun i hi => ⟨rfl, rfl, (Nat.max_zero _).symm⟩
section
variable {X : Cx} {Γ : Gam} {M : Mem} {o : Expr} {pos : Pos} {S : Sc} {cs : List Sc} {b : Nat} {pc ps : Nat → Addr}
theorem av_syC (Y : SyX X.K X.mg CY) (ho : aV X o Γ M (sysV C CM CY S cs b pc ps)) (hb : attributeBase o "chain" X.env (eval o X.env) = eval o X.env := by rfl) : aV X (.Attribute o "chain" pos) Γ M (.lst (cs.map (scV C))) := av_fld Y.cl Y.n0 ho (.im _) rfl hb
theorem av_syB (Y : SyX X.K X.mg CY) (ho : aV X o Γ M (sysV C CM CY S cs b pc ps)) (hb : attributeBase o "back_index" X.env (eval o X.env) = eval o X.env := by rfl) : aV X (.Attribute o "back_index" pos) Γ M (.int (b : Nat)) := av_fld Y.cl Y.n1 ho (.im _) rfl hb
theorem av_syA (Y : SyX X.K X.mg CY) (ho : aV X o Γ M (sysV C CM CY S cs b pc ps)) (hb : attributeBase o "arity_used" X.env (eval o X.env) = eval o X.env := by rfl) : aV X (.Attribute o "arity_used" pos) Γ M (.int S.a) := av_fld Y.cl Y.n2 ho (.im _) rfl hb
theorem av_syM (Y : SyX X.K X.mg CY) (ho : aV X o Γ M (sysV C CM CY S cs b pc ps)) (hb : attributeBase o "members" X.env (eval o X.env) = eval o X.env := by rfl) : aV X (.Attribute o "members" pos) Γ M (mbsV CM S cs pc ps) := av_fld Y.cl Y.n3 ho (.im _) rfl hb
end
/-! ### size, thresholds -/
def aSiz (C CM CY : Addr) : ASp := fun ds M R => ∃ S cs b pc ps, ds = [sysV C CM CY S cs b pc ps] ∧ R (.int (cs.length : Nat)) M
theorem b_size (B : Bt mg) (Y : SyX K mg CY) : BodyOk P w K mg base 1 f n_System_size "System.size" (defScope c_System_size) (defBody c_System_size) (aSiz C CM CY) := by
  rintro cdv A outer s0 H E hr ds M R ⟨S, cs, b, pc, ps, rfl, hp⟩
  refine as_one (as_ret ((av_len B.len (av_syC Y (v_ 0)) (.l (.self _))).val (.ok ?_)))
  rw [List.length_map]
  exact hp
structure PrZ (P : Program) (w : World) (K : PySem.W.Frag) (mg : Str → Option Value) (base : Heap) (C CM CY : Addr) : Prop where
  sz : ∃ p g, PropOf K CY "size" p g ∧ FX P w K mg base 2 g fun ds _ => aSiz C CM CY ds
def thrL (S : Sc) (cs : List Sc) : List Int := (List.range cs.length).map fun i => bdS (cs.getD i S)
def aThr (C CM CY : Addr) : ASp := fun ds M R => ∃ S cs b pc ps, ds = [sysV C CM CY S cs b pc ps] ∧ cs.length ≤ 42 ∧ R (.tup ((thrL S cs).map .int)) M
theorem b_thresholds (B : Bt mg) (Y : SyX K mg CY) (FM : MbX K CM) : BodyOk P w K mg base 1 f n_System_thresholds "System.thresholds" (defScope c_System_thresholds) (defBody c_System_thresholds) (aThr C CM CY) := by
  rintro cdv A outer s0 H E hr ds M R ⟨S, cs, b, pc, ps, rfl, h42, hp⟩
  refine as_one (as_ret (ae_tuple B.tuple (ae_lcP [("member", 1)] (fun i => .int (bdS (cs.getD i S))) rfl q_System_thresholds.nd (blkOk_by (N := n_System_thresholds) (sc := defScope c_System_thresholds) (by decide +kernel)) (ai_lst (xs := (List.range cs.length).map fun i => mbV CM (cs.getD i S) (pc i) (ps i)) ((av_syM Y (v_ 0)).val ⟨rfl, rfl⟩)) ?_ (by rw [List.length_map, List.length_range]; omega) ⟨_, .l (.self _), .ok ?_⟩)))
  · intro i acc D hi s1 H1 C1 cl fp
    rw [List.length_map, List.length_range] at hi
    rw [getD_range hi]
    exact agw_name 1 q_System_thresholds.nd fun s1 H1 C1 cl fp => (av_mb2 FM (v_ 1)).val ⟨rfl, rfl⟩
  · have e : (List.range ((List.range cs.length).map fun i => mbV CM (cs.getD i S) (pc i) (ps i)).length).map (fun i => Val.int (bdS (cs.getD i S))) = (thrL S cs).map .int := by
      unfold thrL
      rw [List.map_map, List.length_map, List.length_range]
      rfl
    rw [e]
    exact hp
structure PrT (P : Program) (w : World) (K : PySem.W.Frag) (mg : Str → Option Value) (base : Heap) (C CM CY : Addr) : Prop where
  th : ∃ p g, PropOf K CY "thresholds" p g ∧ FX P w K mg base 2 g fun ds _ => aThr C CM CY ds
/-! ### read_by -/
def rdI (cs : List Sc) (b i : Nat) : Nat := if i + 1 < cs.length then i + 1 else b
def aRby (C CM CY : Addr) : ASp := fun ds M R => ∃ (S : Sc) (cs : List Sc) (b : Nat) (pc ps : Nat → Addr) (i : Nat), ds = [sysV C CM CY S cs b pc ps, .int (i : Int)] ∧ i < cs.length ∧ cs.length ≤ 42 ∧ b < cs.length ∧ R (mbV CM (cs.getD (rdI cs b i) S) (pc (rdI cs b i)) (ps (rdI cs b i))) M
theorem b_read_by (B : Bt mg) (Y : SyX K mg CY) : BodyOk P w K mg base 0 f n_System_read_by "System.read_by" (defScope c_System_read_by) (defBody c_System_read_by) (aRby C CM CY) := by
  rintro cdv A outer s0 H E hr ds M R ⟨S, cs, b, pc, ps, i, rfl, hi, h42, hb, hp⟩
  have lm : ((List.range cs.length).map fun i => mbV CM (cs.getD i S) (pc i) (ps i)).length = cs.length := by rw [List.length_map, List.length_range]
  refine as_one (as_retv (av_ixL (av_syM Y (v_ 0)) (av_ifI (tp_cmp (av_add (v_ 1) i_) (av_len B.len (av_syM Y (v_ 0)) (.l (.self _))) cp_lt) (fun _ => av_add (v_ 1) i_) (fun _ => av_syB Y (v_ 0))) (.self _) ?_) (.ok hp))
  have hr : rdI cs b i < cs.length := by
    unfold rdI
    split <;> omega
  have e : (if (i : Int) + 1 < (((List.range cs.length).map fun i => mbV CM (cs.getD i S) (pc i) (ps i)).length : Int) then (i : Int) + 1 else (b : Nat)) = (rdI cs b i : Nat) := by
    rw [lm]
    unfold rdI
    by_cases z : i + 1 < cs.length
    · rw [if_pos (by omega), if_pos z]
      rfl
    · rw [if_neg (by omega), if_neg z]
  rw [e]
  refine atI_nat ?_
  rw [List.getElem?_map, List.getElem?_range hr]
  rfl
abbrev GRby (P : Program) (w : World) (K : PySem.W.Frag) (mg : Str → Option Value) (base : Heap) (C CM CY : Addr) : Prop := Mt P w K mg base CY 1 "read_by" (aRby C CM CY)
/-! ### extend -/
theorem sum_range {g : Nat → Int} : ∀ n, ((List.range n).map g).sum = smN g n
  | 0 => rfl
  | n + 1 => by
    rw [List.range_succ, List.map_append, List.sum_append, sum_range n]
    show _ + (g n + 0) = smN g n + g n
    omega
theorem readE {S S1 : Sc} (h : LvG S) (ea : S1.a = S.a) (e1 : ∀ j, item S1.sp j = item S.sp (j + 1)) (e2 : ∀ j, item S1.lv j = item S.lv (j + 1)) {n : Nat} (hn : bdS S ≤ (n : Int)) : ((List.range S.a.toNat).map fun i => vS S1 (plcS S n i).toNat).sum = vS S n := by
  rw [sum_range]
  have f1 : item S1.sp = Sm.shf (item S.sp) := funext e1
  have f2 : item S1.lv = Sm.shf (item S.lv) := funext e2
  have := h.ls.eqn (n := n) (by rw [h.ka]; exact hn) (pp := fun i => (plcS S n i).toNat) fun i hi => by
    rw [Int.toNat_of_nonneg (h.plb hn hi).1]
    rfl
  show smN (fun i => vN S1.a.toNat (item S1.sp) (item S1.lv) (plcS S n i).toNat) _ = _
  rw [ea, f1, f2]
  exact this
structure SyG (S : Sc) (cs : List Sc) (b : Nat) : Prop where
  s : SmG S
  c : ChR S cs b
theorem SyG.m {S : Sc} {cs : List Sc} {b : Nat} (h : SyG S cs b) {i : Nat} (hi : i < cs.length) : SmG (cs.getD i S) := h.s.ch h.c.1 hi
theorem SyG.nx {S : Sc} {cs : List Sc} {b : Nat} (h : SyG S cs b) {i : Nat} (hi : i < cs.length) : rdI cs b i < cs.length ∧ (cs.getD (rdI cs b i) S).a = (cs.getD i S).a ∧ (∀ j, item (cs.getD (rdI cs b i) S).sp j = item (cs.getD i S).sp (j + 1)) ∧ ∀ j, item (cs.getD (rdI cs b i) S).lv j = item (cs.getD i S).lv (j + 1) := by
  obtain ⟨hch, h1, h42, hb, hrep, hpw⟩ := h.c
  obtain ⟨a1, a2, a3⟩ := hch i hi
  unfold rdI
  by_cases z : i + 1 < cs.length
  · rw [if_pos z]
    obtain ⟨b1, b2, b3⟩ := hch (i + 1) z
    refine ⟨z, b2.trans a2.symm, fun j => ?_, fun j => ?_⟩
    · rw [(b3 j).1, (a3 (j + 1)).1, show i + 1 + j = i + (j + 1) by omega]
    · rw [(b3 j).2, (a3 (j + 1)).2, show i + 1 + j = i + (j + 1) by omega]
  · rw [if_neg z]
    obtain ⟨b1, b2, b3⟩ := hch b hb
    refine ⟨hb, b2.trans a2.symm, fun j => ?_, fun j => ?_⟩
    · rw [(b3 j).1, (a3 (j + 1)).1, ← (hrep j).1, show cs.length + j = i + (j + 1) by omega]
    · rw [(b3 j).2, (a3 (j + 1)).2, ← (hrep j).2, show cs.length + j = i + (j + 1) by omega]
def aExt (C CM CY : Addr) : ASp := fun ds M R => ∃ (S : Sc) (cs : List Sc) (b : Nat) (pc ps : Nat → Addr) (n t : Nat) (M0 : Mem), ds = [sysV C CM CY S cs b pc ps, .int (n : Int)] ∧ M = bs (sysQ S cs pc ps t) ++ M0 ∧ SyG S cs b ∧ n ≤ 30000 ∧ t ≤ 40000 ∧ ∀ u, n + 1 ≤ u → u ≤ 40000 → R .non (bs (sysQ S cs pc ps u) ++ M0)
theorem b_extend (B : Bt mg) (Y : SyX K mg CY) (FM : MbX K CM) (RB : GRby P w K mg base C CM CY) (PA : GPat P w K mg base CM) (AD : GAdd P w K mg base CM) : BodyOk P w K mg base 2 f n_System_extend "System.extend" (defScope c_System_extend) (defBody c_System_extend) (aExt C CM CY) := by
  rintro cdv A outer s0 H E hr ds M R ⟨S, cs, b, pc, ps, n, t, M0, rfl, rfl, G, hn, ht, hp⟩
  obtain ⟨hch, h1, h42, hb, hrep, hpw⟩ := G.c
  have lm : ((List.range cs.length).map fun i => mbV CM (cs.getD i S) (pc i) (ps i)).length = cs.length := by rw [List.length_map, List.length_range]
  refine as_one (as_forL PassesOwn.never rfl (aj_range2 B.range (aa_cons (ae_minL B.min rfl (ae_lcP [("member", 3)] (fun i => .int ((max (bdn (cs.getD i S)) t : Nat) : Int)) rfl q_System_extend.nd (blkOk_by (N := n_System_extend) (sc := defScope c_System_extend) (by decide +kernel)) (ai_lst (xs := (List.range cs.length).map fun i => mbV CM (cs.getD i S) (pc i) (ps i)) ((av_syM Y (v_ 0)).val ⟨rfl, rfl⟩)) ?_ (by rw [lm]; omega) ⟨_, vw_range, by rw [List.length_map, List.length_range, lm]; omega, fun m hm1 hm2 => aa_cons ((av_add (v_ 1) i_).val (aa_nil ?_))⟩)))))
  · intro i acc D hi s1 H1 C1 cl fp
    rw [lm] at hi
    rw [getD_range hi]
    have hM := sysB_at (g := gS S cs) (pc := pc) (ps := ps) (T := fun i => max (bdn (gS S cs i)) t) (M := M0) cs.length hi
    refine agw_name 3 q_System_extend.nd fun s1 H1 C1 cl fp => (av_lenSvN (n := max (bdn (cs.getD i S)) t) B.len (av_mb3 FM (v_ 3)) (.c _ hM.cons.c) vlI_len).val ⟨rfl, rfl⟩
  obtain ⟨i0, hi0, rfl⟩ := List.mem_map.mp hm1
  obtain ⟨m0, hm0⟩ : ∃ m0, m0 = max (bdn (cs.getD i0 S)) t := ⟨_, rfl⟩
  have hi0 := List.mem_range.mp hi0
  rw [lm] at hi0
  have b440 := (G.m hi0).bd
  have hmin : ∀ i, i < cs.length → max (bdn (cs.getD i S)) t = max (bdn (cs.getD i S)) m0 := fun i hi => by
    have := hm2 _ (List.mem_map.mpr ⟨i, List.mem_range.mpr (by rw [lm]; exact hi), rfl⟩)
    omega
  rw [← hm0]
  have hm40 : m0 ≤ 40000 := by
    have : bdn (cs.getD i0 S) = (bdS (cs.getD i0 S)).toNat := rfl
    omega
  refine ⟨_, _, rfl, by omega, ?_⟩
  refine ⟨fun r Γ M' => M' = bs (sysQ S cs pc ps (m0 + r)) ++ M0 ∧ Γ = [some (sysV C CM CY S cs b pc ps), some (.int (n : Int)), none, none, none, none, none, none], ⟨_, ⟨?_, rfl⟩, (by repeat' first | exact le_nil | refine le_skip ?_ | refine le_keep rfl ?_)⟩, ?_, ?_⟩
  · exact congrArg (fun z => bs z ++ M0) (sysB_congr _ fun i hi => ⟨rfl, rfl, hmin i hi⟩)
  · rintro r Γ M' hr' ⟨rfl, rfl⟩
    show aG _ _ (.int ((m0 : Int) + (r : Int))) _ _ _
    refine ag_name 2 q_System_extend.nd ?_
    have er : (m0 : Int) + (r : Int) = ((m0 + r : Nat) : Int) := by omega
    obtain ⟨nu, hnu⟩ : ∃ nu, nu = m0 + r := ⟨_, rfl⟩
    have hnn : nu ≤ n := by omega
    rw [er, ← hnu]
    refine as_one (as_forL PassesOwn.never rfl (aj_ai (R := fun M1 => M1 = bs (sysQ S cs pc ps nu) ++ M0) (ai_enumL (xs := (List.range cs.length).map fun i => mbV CM (cs.getD i S) (pc i) (ps i)) B.enumerate ((av_syM Y (v_ 0)).val ⟨rfl, rfl⟩)) fun M1 e => ?_) (hk := fun _ _ _ l ⟨Γ0, h, l0⟩ => ⟨Γ0, h, l0.trans l⟩))
    subst e
    rw [lm]
    refine ⟨fun j Γ M' => M' = bs (sysB (gS S cs) pc ps (fun i => if i < j then max (bdn (gS S cs i)) (nu + 1) else max (bdn (gS S cs i)) nu) cs.length) ++ M0 ∧ Γ = [some (sysV C CM CY S cs b pc ps), some (.int (n : Int)), some (.int (nu : Int)), none, none, none, none, none], ⟨_, ⟨?_, rfl⟩, (by repeat' first | exact le_nil | refine le_skip ?_ | refine le_keep rfl ?_)⟩, ?_, ?_⟩
    · exact congrArg (fun z => bs z ++ M0) (sysB_congr _ fun i hi => ⟨rfl, rfl, (if_neg (Nat.not_lt_zero i)).symm⟩)
    · rintro j Γ M' hj ⟨rfl, rfl⟩
      show aG _ _ (.tup [.int (j : Int), ((List.range cs.length).map fun i => mbV CM (cs.getD i S) (pc i) (ps i)).getD j .non]) _ _ _
      rw [getD_range hj]
      refine ag_tup rfl (ags_cons (ag_name 4 q_System_extend.nd (ags_cons (ag_name 3 q_System_extend.nd (ags_nil ?_)))))
      have hM := sysB_at (g := gS S cs) (pc := pc) (ps := ps) (T := fun i => if i < j then max (bdn (gS S cs i)) (nu + 1) else max (bdn (gS S cs i)) nu) (M := M0) cs.length hj
      have ej : (if j < j then max (bdn (gS S cs j)) (nu + 1) else max (bdn (gS S cs j)) nu) = max (bdn (cs.getD j S)) nu := if_neg (Nat.lt_irrefl j)
      rw [ej] at hM
      have hG := G.m hj
      obtain ⟨n1, n2, n3, n4⟩ := G.nx hj
      have hb0 := hG.bd
      have ebn : bdn (cs.getD j S) = (bdS (cs.getD j S)).toNat := rfl
      have aj : S.a = (cs.getD j S).a := (hch j hj).2.1.symm
      refine as_one (as_ifp (tp_cmp (av_lenSvN (n := max (bdn (cs.getD j S)) nu) B.len (av_mb3 FM (v_ 3)) (.c _ hM.c) vlI_len) (v_ 2) cp_eq) (fun hc => ?_) (fun hc => as_nil ⟨_, ⟨?_, rfl⟩, (by repeat' first | exact le_nil | refine le_skip ?_ | refine le_keep rfl ?_)⟩))
      · have hle : bdn (cs.getD j S) ≤ nu := by omega
        have enu : max (bdn (cs.getD j S)) nu = nu := by omega
        rw [enu] at hM
        refine as_cons (as_set 5 q_System_extend.nd (ae_m1 Y.cl RB hr (by decide) ((v_ 0).val ⟨(Ob.im _).obM rfl, (v_ 4).val ⟨S, cs, b, pc, ps, j, rfl, hj, h42, hb, ?_⟩⟩)))
        refine as_cons (as_set 6 q_System_extend.nd (ae_m2 FM.cl PA hr (by decide) ((v_ 3).val ⟨(Ob.im _).obM rfl, (v_ 2).val ((av_syA Y (v_ 0)).val ⟨cs.getD j S, pc j, ps j, _, nu, (nu : Int), by rw [aj]; rfl, hM, hG.g, by omega, by omega, by omega, ?_⟩)⟩)))
        have hsrc := sysB_at (g := gS S cs) (pc := pc) (ps := ps) (T := fun i => if i < j then max (bdn (gS S cs i)) (nu + 1) else max (bdn (gS S cs i)) nu) (M := M0) cs.length n1
        have hT : nu ≤ (if rdI cs b j < j then max (bdn (gS S cs (rdI cs b j))) (nu + 1) else max (bdn (gS S cs (rdI cs b j))) nu) := by split <;> omega
        have kl := hG.g.k9
        refine as_one (as_expr (ae_m1 FM.cl AD hr (by decide) ((v_ 3).val ⟨(Ob.im _).obM rfl, ae_sum B.sum rfl (ae_lcP [("place", 7)] (fun i => .int (vS (cs.getD (rdI cs b j) S) (plcS (cs.getD j S) nu i).toNat)) rfl q_System_extend.nd (blkOk_by (N := n_System_extend) (sc := defScope c_System_extend) (by decide +kernel)) (ai_lst (xs := (List.range (cs.getD j S).a.toNat).map fun i => .int (plcS (cs.getD j S) nu i)) ((v_ 6).val ⟨rfl, rfl⟩)) ?_ (by rw [List.length_map, List.length_range]; omega) ⟨_, vw_range, cs.getD j S, pc j, ps j, _, nu, ?_, hM, by omega, ?_⟩)⟩)))
        · intro i acc D hi s1 H1 C1 cl fp
          rw [List.length_map, List.length_range] at hi
          rw [getD_range hi]
          obtain ⟨p1, p2⟩ := hG.g.plb (n := (nu : Int)) (by omega) hi
          have e1 : at0 (vlI (cs.getD (rdI cs b j) S) (if rdI cs b j < j then max (bdn (gS S cs (rdI cs b j))) (nu + 1) else max (bdn (gS S cs (rdI cs b j))) nu)) (plcS (cs.getD j S) nu i) = vS (cs.getD (rdI cs b j) S) (plcS (cs.getD j S) nu i).toNat := vlI_at (by omega)
          refine agw_name 7 q_System_extend.nd fun s1 H1 C1 cl fp => ?_
          rw [← e1]
          exact (av_ixSv (av_mb3 FM (v_ 5)) (v_ 7) (.c _ hsrc.cons.c) p1 (by rw [vlI_len]; omega)).val ⟨rfl, rfl⟩
        · rw [List.length_map, List.length_range, readE hG.g n2 n3 n4 (by omega)]
          rfl
        · refine ⟨_, ⟨?_, rfl⟩, (by repeat' first | exact le_nil | refine le_skip ?_ | refine le_keep rfl ?_)⟩
          rw [sysB_set cs.length hj]
          refine congrArg (fun z => bs z ++ M0) (sysB_congr _ fun i hi => ⟨rfl, rfl, ?_⟩)
          show (if i = j then nu + 1 else if i < j then max (bdn (gS S cs i)) (nu + 1) else max (bdn (gS S cs i)) nu) = if i < j + 1 then max (bdn (gS S cs i)) (nu + 1) else max (bdn (gS S cs i)) nu
          by_cases z : i = j
          · subst z
            rw [if_pos rfl, if_pos (by omega)]
            have : bdn (gS S cs i) ≤ nu := hle
            omega
          · rw [if_neg z]
            by_cases y : i < j
            · rw [if_pos y, if_pos (by omega)]
            · rw [if_neg y, if_neg (by omega)]
      · refine congrArg (fun z => bs z ++ M0) (sysB_congr _ fun i hi => ⟨rfl, rfl, ?_⟩)
        show (if i < j then max (bdn (gS S cs i)) (nu + 1) else max (bdn (gS S cs i)) nu) = if i < j + 1 then max (bdn (gS S cs i)) (nu + 1) else max (bdn (gS S cs i)) nu
        by_cases y : i < j
        · rw [if_pos y, if_pos (by omega)]
        · rw [if_neg y]
          by_cases z : i = j
          · subst z
            rw [if_pos (by omega)]
            have : ¬ ((max (bdn (cs.getD i S)) nu : Nat) : Int) = (nu : Int) := hc
            show max (bdn (cs.getD i S)) nu = max (bdn (cs.getD i S)) (nu + 1)
            omega
          · rw [if_neg (by omega)]
    · rintro Γ M' ⟨rfl, rfl⟩
      refine ⟨_, ⟨?_, rfl⟩, (by repeat' first | exact le_nil | refine le_skip ?_ | refine le_keep rfl ?_)⟩
      rw [show m0 + (r + 1) = nu + 1 by omega]
      exact congrArg (fun z => bs z ++ M0) (sysB_congr _ fun i hi => ⟨rfl, rfl, if_pos hi⟩)
  · rintro Γ M' ⟨rfl, rfl⟩
    exact .ok (hp _ (by omega) (by omega))
abbrev GExt (P : Program) (w : World) (K : PySem.W.Frag) (mg : Str → Option Value) (base : Heap) (C CM CY : Addr) : Prop := Mt P w K mg base CY 3 "extend" (aExt C CM CY)
/-! ### is_whole of no integer -/
def aWhN (K : PySem.W.Frag) : ASp := fun ds M R => ∃ d lo hi, ds = [d, lo, hi] ∧ NInt K M d ∧ R (.bl false) M
theorem b_is_wholeN (B : Bt mg) : BodyOk P w K mg base k f n_is_whole "is_whole" (defScope s_is_whole) (defBody s_is_whole) (aWhN K) := by
  rintro cdv A outer s H E hr ds M R ⟨d, lo, hi, rfl, ⟨T, hT, hk⟩ | ⟨b, rfl⟩, hp⟩
  · exact as_cons (as_if (at_w (aw_or (at_not (at_val (ae_isi B.isinstance (v_ 0) (av_ty (T := "int") B.int (by decide +kernel)) (.ty "int") hT hk ⟨false, rfl, fun _ => ⟨fun _ => as_one (as_ret (ae_bl (.ok hp))), ntf⟩, ntf⟩))))))
  · refine as_cons (as_if (at_w (aw_or (at_not (at_val (ae_isi B.isinstance (v_ 0) (av_ty (T := "int") B.int (by decide +kernel)) (.ty "int") (.bl b) (kit_ty (by decide +kernel)) ⟨true, rfl, nft, fun _ => ?_⟩))))))
    exact aw_or1 (at_val (ae_isi B.isinstance (v_ 0) (av_ty (T := "bool") B.bool (by decide +kernel)) (.ty "bool") (.bl b) (kit_ty (by decide +kernel)) ⟨true, rfl, fun _ => as_one (as_ret (ae_bl (.ok hp))), ntf⟩))
structure GWhN (P : Program) (w : World) (K : PySem.W.Frag) (mg : Str → Option Value) (base : Heap) : Prop where
  two : Gd P w K mg base 1 "is_whole" ["least", "most"] fun ds es M R => ds.length = 1 ∧ aWhN K (ds ++ es) M R
section
variable {X : Cx} {Γ : Gam} {M : Mem} {k : AK} {ex : XG} {s1 s2 : List Stmt} {e a b : Expr} {p1 p2 p3 p4 p5 pos : Pos} {d : Val} {lo hi : Int} {m : Nat}
/-- if not is_whole(e, least=a, most=b): .. where it is not so -/
theorem ys_whBad (W : GWh X.prog X.w X.K X.mg X.base) (W2 : GWhN X.prog X.w X.K X.mg X.base) (hr : Rm m X.A) (hm : 1 ≤ m) (he : aV X e Γ M d) (ha : aV X a Γ M (.int lo)) (hb : aV X b Γ M (.int hi)) (hB : Bad X.K M d lo (some hi)) (h : ySs X s1 Γ M k ex)
    (hg : Gl X "is_whole" := by rfl) (hst : starEach [e] X.env = (false, eval e X.env) :: starEach [] X.env := by rfl) : yS X (.If (.UnaryOp .Not (.Call (.Name "is_whole" p1) [e] [⟨some "least", a, p2⟩, ⟨some "most", b, p3⟩] p4) p5) s1 s2 pos) Γ M k ex := by
  rcases hB with hB | ⟨n, rfl, hn⟩
  · exact ys_if (at_not (at_val (ae_g W2.two hr hm (aa_cons (he.val (aa_nil (ak_cons (ha.val (ak_cons (hb.val (ak_nil ⟨rfl, rfl, d, _, _, rfl, hB, false, rfl, fun _ => h, ntf⟩)))))) ) hst) hg rfl rfl (by decide) hst (by rw [hst]; rfl))))
  · exact ys_if (at_not (at_val (ae_g W.two hr hm (aa_cons (he.val (aa_nil (ak_cons (ha.val (ak_cons (hb.val (ak_nil ⟨rfl, rfl, n, some lo, some hi, rfl, false, by rw [hn], fun _ => h, ntf⟩)))))) ) hst) hg rfl rfl (by decide) hst (by rw [hst]; rfl))))
end
/-! ### places_read -/
theorem mb_at {S : Sc} {cs : List Sc} {pc ps : Nat → Addr} {j : Nat} (h : j < cs.length) : atI ((List.range cs.length).map fun i => mbV CM (cs.getD i S) (pc i) (ps i)) (j : Int) = some (mbV CM (cs.getD j S) (pc j) (ps j)) := by
  refine atI_nat ?_
  rw [List.getElem?_map, List.getElem?_range h]
  rfl
def plcL (S : Sc) (n : Nat) : List Int := (List.range S.a.toNat).map fun i => plcS S n i
def aPlr (K : PySem.W.Frag) (C CM CY CN : Addr) : ASe := fun ds M R PE => ∃ (S : Sc) (cs : List Sc) (b : Nat) (pc ps : Nat → Addr) (i : Nat) (d e : Val), ds = [sysV C CM CY S cs b pc ps, d, e] ∧ M[i]? = some (ps 0, sysC S cs pc ps) ∧ SyG S cs b ∧
  ((Bad K M d 0 (some ((cs.length : Int) - 1)) ∧ PE CN [("number", d)] M) ∨ ∃ j : Nat, j < cs.length ∧ d = .int (j : Int) ∧ ((Bad K M e (bdS (cs.getD j S)) (some 2000) ∧ PE CN [("number", e)] M) ∨ ∃ n : Nat, e = .int (n : Int) ∧ bdS (cs.getD j S) ≤ (n : Int) ∧ n ≤ 2000 ∧ R (.tup ((plcL (cs.getD j S) n).map .int)) M))
theorem e_places_read {CN : Addr} (B : Bt mg) (Y : SyX K mg CY) (FM : MbX K CM) (W : GWh P w K mg base) (W2 : GWhN P w K mg base) (EX : GExt P w K mg base C CM CY) (PA : GPat P w K mg base CM) (XN : XMk P w K mg base "InvalidNumber" CN 1 (g1 "number")) : BodyE P w K mg base 4 f n_System_places_read "System.places_read" (defScope c_System_places_read) (defBody c_System_places_read) (aPlr K C CM CY CN) := by
  rintro cdv A outer s0 H E hr po ds M R PE ⟨S, cs, b, pc, ps, i, d, e, rfl, hi, G, hcase⟩
  obtain ⟨hch, h1, h42, hb, hrep, hpw⟩ := G.c
  obtain ⟨mc, u, rd, mf⟩ := Y.mt
  have lm : ((List.range cs.length).map fun i => mbV CM (cs.getD i S) (pc i) (ps i)).length = cs.length := by rw [List.length_map, List.length_range]
  rcases hcase with ⟨hB, hE⟩ | ⟨j, hj, rfl, hcase⟩
  · exact ys_cons (ys_whBad W W2 hr (by decide) (v_ 1) i_ (av_sub (av_len B.len (av_syM Y (v_ 0)) (.l (.self _))) i_) (by rw [lm]; exact hB) (ys_one (ys_raise XN hr (by decide) rfl (aa_cons ((v_ 1).val (aa_nil ⟨rfl, .ok hE⟩))))))
  have hG := G.m hj
  refine ys_cons (ys_of (as_if (at_not (at_val (aE.val (av_whole W hr (by decide) (v_ 1) i_ (av_sub (av_len B.len (av_syM Y (v_ 0)) (.l (.self _))) i_) (by omega) (by rw [lm]; omega)) ⟨true, rfl, nft, fun _ => as_nil ?_⟩)))))
  rcases hcase with ⟨hB, hE⟩ | ⟨n, rfl, n1, n2, hR⟩
  · exact ys_cons (ys_whBad W W2 hr (by decide) (v_ 2) (av_mb2 FM (av_ixL (av_syM Y (v_ 0)) (v_ 1) (.self _) (mb_at hj))) (ae_const rd mf (ae_glob Y.gY ⟨rfl, rfl⟩) (fun _ => .int _) ⟨rfl, rfl⟩) hB (ys_one (ys_raise XN hr (by decide) rfl (aa_cons ((v_ 2).val (aa_nil ⟨rfl, .ok hE⟩))))))
  refine ys_cons (ys_of (as_if (at_not (at_val (aE.val (av_whole W hr (by decide) (v_ 2) (av_mb2 FM (av_ixL (av_syM Y (v_ 0)) (v_ 1) (.self _) (mb_at hj))) (ae_const rd mf (ae_glob Y.gY ⟨rfl, rfl⟩) (fun _ => .int _) ⟨rfl, rfl⟩) n1 (by omega)) ⟨true, rfl, nft, fun _ => as_nil ?_⟩)))))
  refine yss_of (as_open hi fun B0 hB0 _ => ?_)
  obtain ⟨t, ht, rfl⟩ := hB0
  refine as_cons (as_expr (ae_m1 Y.cl EX hr (by decide) ((v_ 0).val ⟨(Ob.im _).obM rfl, (v_ 2).val ⟨S, cs, b, pc, ps, n, t, M.eraseIdx i, rfl, rfl, G, by omega, ht, fun u h1' h2' => ?_⟩⟩)))
  have hM := sysB_at (g := gS S cs) (pc := pc) (ps := ps) (T := fun i => max (bdn (gS S cs i)) u) (M := M.eraseIdx i) cs.length hj
  have bb := hG.bd
  have ebn : bdn (cs.getD j S) = (bdS (cs.getD j S)).toNat := rfl
  have aj : S.a = (cs.getD j S).a := (hch j hj).2.1.symm
  refine as_one (as_ret (ae_perm (ae_close (ae_tuple B.tuple (ae_m2 FM.cl PA hr (by decide) ((av_ixL (av_syM Y (v_ 0)) (v_ 1) (.self _) (mb_at hj)).val ⟨(Ob.im _).obM rfl, (v_ 2).val ((av_syA Y (v_ 0)).val ⟨cs.getD j S, pc j, ps j, _, max (bdn (cs.getD j S)) u, (n : Int), by rw [aj], hM, hG.g, n1, by omega, by omega, _, .l (.self _), sysP S cs pc ps, sysQ S cs pc ps u, M.eraseIdx i, ps 0, rfl, ⟨u, h2', rfl⟩, sysB_mem _ h1, M, perm_at hi, .ok ?_⟩)⟩))))))
  have e : (List.range (cs.getD j S).a.toNat).map (fun i => Val.int (plcS (cs.getD j S) n i)) = (plcL (cs.getD j S) n).map .int := by
    unfold plcL
    rw [List.map_map]
    rfl
  rw [e]
  exact hR
end
end K39
namespace K39
open PySem L2 Ab GenW
/-! ### the draws of stage 5 -/
abbrev d5 (x y z : Int) : List (Key × Val) := [(.inr "large", .int x), (.inr "mixed", .int y), (.inr "turn", .int z)]
def st5 (p : Addr) : Cell := .box fun B => ∃ x y z : Int, B = [(p, .dk (d5 x y z))]
section
variable {P : Program} {w : World} {K : PySem.W.Frag} {mg : Str → Option Value} {base : Heap} {k : Nat} {f C : Addr}
theorem dg51 {x y z : Int} : dGet (d5 x y z) (.inr ("large" : Str)) = some (.int x) := by rfl
theorem dg52 {x y z : Int} : dGet (d5 x y z) (.inr ("mixed" : Str)) = some (.int y) := by rfl
theorem dg53 {x y z : Int} : dGet (d5 x y z) (.inr ("turn" : Str)) = some (.int z) := by rfl
theorem dp51 {x y z v : Int} : dPut (d5 x y z) (.inr ("large" : Str)) (.int v) = d5 v y z := by rfl
theorem dp52 {x y z v : Int} : dPut (d5 x y z) (.inr ("mixed" : Str)) (.int v) = d5 x v z := by rfl
theorem dp53 {x y z v : Int} : dPut (d5 x y z) (.inr ("turn" : Str)) (.int v) = d5 x y v := by rfl
def aDrC : ASp := fun ds M R => ∃ (p : Addr) (x y z n : Int) (M0 : Mem), ds = [.ptr p, .int n] ∧ M = (p, .dk (d5 x y z)) :: M0 ∧ 0 < n ∧ n < 1073741824 ∧ ∀ v x' y' z', 0 ≤ v → v < n → R (.int v) ((p, .dk (d5 x' y' z')) :: M0)
theorem b__law_draw5 : BodyOk P w K mg base k f n__law_draw "_law_draw" (defScope s__law_draw) (defBody s__law_draw) aDrC := by
  rintro cdv A outer0 s H E hr ds M R ⟨p, x, y, z, n, M0, rfl, rfl, hn, hn2, hp⟩
  have hu := hr.u1
  refine as_cons (as_ifd (p := 0 < x) (at_cmp (av_dget hu (v_ 0) s_ (n := 0) rfl dg51) i_ cmp_gt ⟨rfl, rfl⟩) (fun hx => ?_) (fun hx => as_nil ?_))
  · refine as_cons (as_set 2 q__law_draw.nd (aE.val (av_mod (av_dget hu (v_ 0) s_ (n := 0) rfl dg51) (v_ 1) hn) ?_))
    refine as_cons (as_dput hu (v_ 0) s_ (av_fdiv (av_dget hu (v_ 0) s_ (n := 0) rfl dg51) (v_ 1) ⟨hn, hn2⟩) (n := 0) rfl (szl (Nat.le_of_ble_eq_true rfl)) ?_)
    rw [dp51]
    exact as_one (as_ret ((v_ 2).val (.ok (hp _ _ _ _ (Int.emod_nonneg _ (by omega)) (Int.emod_lt_of_pos _ hn)))))
  · refine as_cons (as_dput hu (v_ 0) s_ (av_add (av_dget hu (v_ 0) s_ (n := 0) rfl dg53) i_) (n := 0) rfl (szl (Nat.le_of_ble_eq_true rfl)) ?_)
    rw [dp53]
    refine as_cons (as_dput hu (v_ 0) s_ (av_mod (av_add (av_add (av_mul (av_dget hu (v_ 0) s_ (n := 0) rfl dg52) i_ (.inr ⟨by decide, by decide⟩)) (av_mul i_ (av_dget hu (v_ 0) s_ (n := 0) rfl dg53) (.inl ⟨by decide, by decide⟩))) i_) i_ (by decide)) (n := 0) rfl (szl (Nat.le_of_ble_eq_true rfl)) ?_)
    rw [dp52]
    generalize (y * 48271 + 104729 * (z + 1) + 11) % 2147483647 = v
    exact as_one (as_ret (aE.val (av_mod (av_fdiv (av_dget hu (v_ 0) s_ (n := 0) rfl dg52) i_ ⟨by decide, by decide⟩) (v_ 1) hn) (.ok (hp _ _ _ _ (Int.emod_nonneg _ (by omega)) (Int.emod_lt_of_pos _ hn)))))
/-- any number below the size; the state stays in its box -/
def aDr5 : ASp := fun ds M R => ∃ (p : Addr) (i : Nat) (n : Int), ds = [.ptr p, .int n] ∧ M[i]? = some (p, st5 p) ∧ 0 < n ∧ n < 1073741824 ∧ ∀ v, 0 ≤ v → v < n → R (.int v) M
abbrev GDr5 (P : Program) (w : World) (K : PySem.W.Frag) (mg : Str → Option Value) (base : Heap) : Prop := Gd P w K mg base 1 "_law_draw" [] fun ds _ => aDr5 ds
theorem dr5 (G : Gd P w K mg base 1 "_law_draw" [] fun ds _ => aDrC ds) : GDr5 P w K mg base := by
  obtain ⟨f, F, m, k⟩ := G.ex
  refine ⟨⟨f, FnX.box (sx' := fun ds _ => aDr5 ds) F (fun ds es M R ⟨p, i, n, e, hi, h0, h1, hp⟩ => ⟨i, p, (fun B => ∃ x y z : Int, B = [(p, .dk (d5 x y z))]), hi, fun B ⟨x, y, z, eB⟩ _ => ⟨p, x, y, z, n, M.eraseIdx i, e, by rw [eB]; rfl, h0, h1, fun v x' y' z' v0 v1 =>
    ⟨[(p, .dk (d5 x' y' z'))], (fun B => ∃ x y z : Int, B = [(p, .dk (d5 x y z))]), rfl, ⟨x', y', z', rfl⟩, List.mem_cons_self, by rw [show M.set i (p, Cell.box fun B => ∃ x y z : Int, B = [(p, .dk (d5 x y z))]) = M from set_at hi]; exact hp v v0 v1⟩⟩⟩), m, k⟩⟩
def aBg5 : ASp := fun ds M R => ∃ (ns : List Int) (sp : Int), ds = [.lst (ns.map .int), .int sp] ∧ 0 ≤ sp ∧ sp ≤ 1000 ∧ ∀ p, R (.ptr p) ((p, st5 p) :: M)
def aBgC : ASp := fun ds M R => ∃ (ns : List Int) (sp : Int), ds = [.lst (ns.map .int), .int sp] ∧ 0 ≤ sp ∧ sp ≤ 1000 ∧ ∀ p x y z, R (.ptr p) ((p, .dk (d5 x y z)) :: M)
theorem b__law_begin5 (B : Bt mg) : BodyOk P w K mg base k f n__law_begin "_law_begin" (defScope s__law_begin) (defBody s__law_begin) aBgC := by
  rintro cdv A outer0 s H E hr ds M R ⟨ns, sp, rfl, h0, h1, hp⟩
  have hu := hr.u64
  have fin : ∀ c : Int, aSs (bcx P w K mg base n__law_begin "_law_begin" (defScope s__law_begin) f cdv A outer0 s H E) [(defBody s__law_begin).getD 1 (.Pass ⟨0, 0, 0, 0⟩)] [some (.lst (ns.map .int)), some (.int sp), some (.int c)] M (kOf R) := by
    intro c
    refine as_one (as_ret (ae_dict3 fun p => ap_cons s_ (d := .int (if (10 : Int) ^ (18 : Int).toNat ≤ c then c else 0)) (ae_ifd (p := (10 : Int) ^ (18 : Int).toNat ≤ c) (at_cmp (v_ 2) (av_pow i_ i_ ⟨by decide, by decide, by decide⟩) cmp_ge ⟨rfl, rfl⟩) (fun h => ?_) fun h => ?_)
      (ap_cons s_ (av_mod (av_add (av_add (v_ 2) (av_mul i_ (v_ 1) (.inl ⟨by decide, by decide⟩))) i_) i_ (by decide)) (ap_cons s_ i_ (ap_nil ⟨_, rfl, Nat.le_of_ble_eq_true rfl, .ok (hp _ _ _ _)⟩)))))
    · rw [if_pos h]
      exact v_ 2
    · rw [if_neg h]
      exact i_
  refine as_cons (as_set 2 q__law_begin.nd (ae_if (at_cmp (v_ 0) (ae_lst (aa_nil ⟨by decide, rfl, rfl⟩)) (cmp_neLI (ns := ns) (ms := []) (.self _) (.self _) hu) ⟨fun h => ?_, fun h => i_.val (fin _)⟩)))
  have hl : 0 < ns.length := by
    cases ns with
    | nil => simp at h
    | cons => simp
  have hl' : (0 : Int) < ((ns.map Val.int).length : Int) := by
    rw [List.length_map]
    omega
  have h2 := Int.emod_lt_of_pos sp hl'
  rw [List.length_map] at h2
  exact aE.val (av_ixL (v_ 0) (av_mod (v_ 1) (av_len B.len (v_ 0) (.l (.self _))) hl') (.self _) (atI_int (Int.emod_nonneg _ (by omega)) (by rw [List.length_map]; exact h2))) (fin _)
abbrev GBg5 (P : Program) (w : World) (K : PySem.W.Frag) (mg : Str → Option Value) (base : Heap) : Prop := Gd P w K mg base 1 "_law_begin" [] fun ds _ => aBg5 ds
theorem bg5 (G : Gd P w K mg base 1 "_law_begin" [] fun ds _ => aBgC ds) : GBg5 P w K mg base := by
  obtain ⟨f, F, m, k⟩ := G.ex
  exact ⟨⟨f, FnX.boxNew (sx' := fun ds _ => aBg5 ds) F (fun ds es M R ⟨ns, sp, e, h0, h1, hp⟩ => ⟨ns, sp, e, h0, h1, fun p x y z => ⟨p, [(p, .dk (d5 x y z))], _, M, rfl, ⟨x, y, z, rfl⟩, List.mem_cons_self, hp p⟩⟩), m, k⟩⟩
/-! ### terms, first values -/
theorem ae_dr5 {X : Cx} {Γ : Gam} {M : Mem} {R : Val → Mem → Prop} {a b : Expr} {p1 pos : Pos} {n : Int} {p : Addr} {j m : Nat} (D : GDr5 X.prog X.w X.K X.mg X.base) (hr : Rm m X.A) (hm : 1 ≤ m) (ha : aV X a Γ M (.ptr p)) (hb : aV X b Γ M (.int n)) (hs : M[j]? = some (p, st5 p)) (h0 : 0 < n) (h1 : n < 1073741824)
    (h : ∀ v, 0 ≤ v → v < n → R (.int v) M) (hg : Gl X "_law_draw" := by rfl) (he : starEach [a, b] X.env = [(false, eval a X.env), (false, eval b X.env)] := by rfl) (he2 : starEach [b] X.env = [(false, eval b X.env)] := by rfl) : aE X (.Call (.Name "_law_draw" p1) [a, b] [] pos) Γ M R :=
  ae_g D hr hm (aa_cons (ha.val (aa_cons (hb.val (aa_nil (ak_nil ⟨rfl, p, _, _, rfl, hs, h0, h1, h⟩))) (by rw [he2]; rfl))) (by rw [he, he2])) hg rfl rfl (by decide) (by rw [he, he2]) (by rw [he]; rfl)
/-! ### _law_made -/
/-! ### a run by the law's own hand -/
end
end K39
/-! defs that make lambdas: their code object is known; the end of a law whose defs make lambdas -/
namespace Ab
open PySem PySem.Spec PyProof.Rows L2 LamX
section
variable {P : Program} {w : World} {K : PySem.W.Frag} {mg : Str → Option Value} {base : Heap}
/-- a body whose code object is at c -/
abbrev BodyT (P : Program) (w : World) (K : PySem.W.Frag) (mg : Str → Option Value) (base : Heap) (k : Nat) (f c : Addr) (N : List Str) (qual : Str) (sc : Scope) (body : List Stmt) (s0 : ASp) : Prop :=
  ∀ A outer s H E, Rm k (A.deeper (envOfC qual sc s.heap.objs.size f (.ref c))) → ∀ ds M R, s0 ds M R → aSs (bcx P w K mg base N qual sc f (.ref c) A outer s H E) body (gam N ds) M (kOf R)
theorem fnx_posT {x qual : Str} {params : Arguments} {body : List Stmt} {sc : Scope} {f c : Addr} {oc : Value} {od an : Option Addr} {osl : Array (Option Value)} {kV doc pm ct : Value} {N ps : List Str} {k : Nat} {s0 : ASp}
    (lk : K.lookup f = some ⟨oc, od, .func (PySem.W.fnOf x qual params body sc .none kV doc pm an (.ref c) ct), osl⟩) (hcd : PySem.W.codeIn K (.ref c) qual = true) (S : FnScope N ps sc)
    (h : ∀ (us : List Value), us.length = ps.length → bindArgs (PySem.W.fnOf x qual params body sc .none kV doc pm an (.ref c) ct) ⟨us, []⟩ = pure (ps.zip us))
    (len : ∀ ds M R, s0 ds M R → ds.length = ps.length) (hb : BodyT P w K mg base k f c N qual sc body s0) : FnX P w K mg base (k + 1) f [] (spX K fun ds _ => s0 ds) := by
  refine ⟨fun A outer s H us ws vs zs Q hr e0 r rz hz ⟨Hi, M, ds, es, R, ra, re, ok, hs, q⟩ => ?_⟩
  have hl := len _ _ _ hs
  have ez : zs = [] := List.length_eq_zero_iff.mp hz
  subst ez
  cases rz
  have hlv : vs.length = ps.length := ra.length.symm.trans hl
  have hlu : us.length = ps.length := r.length.symm.trans hlv
  refine StX.run_bnd (CX := CX0) (E := E0) (G := fun vs' H2 => vs' = vs ∧ H2 = H) lk hcd S hr.room e0 (fun A' Ex Q' hh => ?_) fun s2 H2 vs' hG hr' => ?_
  · show wpAny (model P w) A' (bindArgs _ ⟨us, []⟩) Q' Ex s
    rw [h us hlu]
    exact wpAny_pure (hh s H vs us e0 Un.refl rfl (fun _ _ z => z) r hlv ⟨rfl, rfl⟩)
  · obtain ⟨rfl, rfl⟩ := hG
    obtain ⟨t, p, z⟩ := body_of (hb A outer s2 H2 E0 (hr.deeper _)) (Q := Q) (vs := vs') ⟨Hi, M, ds, R, ra, ok, hs, q⟩
    exact ⟨t, p.nox, z⟩
end
/-! ### the end -/
abbrev tbM (ts : List (Addr × Str)) : Mem := ts.map fun p => (p.1, Cell.b (.tb p.2))
/-- a law's promise where tables stand -/
def aLawT (ts : List (Addr × Str)) : ASx := fun ds _ M R => ∃ ns : List Int, ds = [.lst (ns.map .int)] ∧ ns.length ≤ 63 ∧ M = tbM ts ∧ ∀ M', R (.bl true) M'
section
variable {P : Program} {w : World} {K : PySem.W.Frag} {mg mb : Str → Option Value} {k : Nat} {fa a : Addr} {sp : List V → List V → Hp → VK → Prop} {s : Shared} {vs : List Value} {ns : List Int} {cs : List (Addr × Addr)}
theorem run_lawT (KX : K.In s.heap) (hns : s.heap.Ns mainGlobals mg) (hbl : s.heap.Ns builtinsNs mb) (hbb : ∀ x : Str, x ≠ "__name__" → mb x = bootBuiltins x) (hlim : s.heap.NoLimit) (hg : s.gens = #[])
    (hT : ∀ p ∈ cs, s.heap.get? p.2 = some { cls := .none, data := .fields #[] }) (nT : ∀ p ∈ cs, K.lookup p.2 = none) (C : ∀ p ∈ cs, PySem.W.codeHdIn K p.1 p.2 = true)
    (hbm : ∃ (bm : Addr) (ob : Obj), mg "__builtins__" = some (.ref bm) ∧ bm ≠ builtinsNs ∧ s.heap.get? bm = some ob ∧ ob.cls = .type "module" ∧ ob.dict = some builtinsNs ∧ ob.data = .plain)
    (ha : s.heap.get? a = some { cls := .type "list", data := .seq vs.toArray }) (hi : IntsAre vs ns) (hl : ns.length ≤ sizeLine) (hr : Rm k callerA)
    (F : ∀ bs : Heap, K.In bs → bs.Ns mainGlobals mg → (∀ p ∈ cs, TabB bs mg p.1 p.2) → FnX P w K mg bs k fa [] sp)
    (hsp : ∀ H : Hp, (∀ p ∈ cs, H p.2 = some (.tbl #[])) → SqL K (fun b => if b ∈ cs.map (·.2) then none else H b) a (ns.map V.int) → (∀ b, b ∈ cs.map (·.2) → a ≠ b) → sp [.ref a] [] H (fun v _ => v = .bl true)) :
    codeAny (model P w) callerA (.call (.ref fa) ⟨[.ref a], []⟩) (fun r s' => r = .ok (.ret (.bool true)) ∧ OldK s.heap s'.heap ∧ s'.os = s.os ∧ AllBare s'.gens) s := by
  have isT : ∀ b : Addr, b ∈ cs.map (·.2) → s.heap.get? b = some { cls := .none, data := .fields #[] } := fun b hb => by
    obtain ⟨p, hp, rfl⟩ := List.mem_map.mp hb
    exact hT p hp
  have aT : ∀ b, b ∈ cs.map (·.2) → a ≠ b := fun b z e => by
    have q := isT b z
    rw [← e, ha] at q
    exact nomatch (show Data.seq vs.toArray _ = Data.fields #[] from congrArg Obj.data (Option.some.inj q))
  -- what may be tracked: the script, the tables
  have go : ∀ H : Hp, (∀ p ∈ cs, H p.2 = some (.tbl #[])) → (∀ b o, H b = some o → (b ∈ cs.map (·.2) ∧ o = .tbl #[]) ∨ (b = a ∧ K.lookup a = none ∧ ∃ ob xs, o = .frz ob (.lst xs))) → HOk P w H s.heap → SqL K (fun b => if b ∈ cs.map (·.2) then none else H b) a (ns.map V.int) →
      codeAny (model P w) callerA (.call (.ref fa) ⟨[.ref a], []⟩) (fun r s' => r = .ok (.ret (.bool true)) ∧ OldK s.heap s'.heap ∧ s'.os = s.os ∧ AllBare s'.gens) s := by
    intro H hH only hok hS
    have shown : ∀ {b : Addr} {o : Obj}, s.heap.get? b = some o → (∀ us n, o.data ≠ .seq us n) → o.data ≠ .fields #[] → (hidT s.heap H).get? b = some o := fun {b o} e n1 n2 => hidT_get e (by
      cases q : H b with
      | none => rfl
      | some u =>
        rcases only b u q with ⟨hb, _⟩ | ⟨rfl, _⟩
        · rw [isT b hb] at e
          cases e
          exact absurd rfl n2
        · rw [ha] at e
          cases e
          exact absurd rfl (n1 _ _))
    have nsOf : ∀ {b : Addr} {m : Str → Option Value}, s.heap.Ns b m → (hidT s.heap H).Ns b m := fun {b m} ⟨o, es, ep, e, dd, r⟩ => ⟨o, es, ep, shown e (fun _ _ z => by rw [dd] at z; cases z) (fun z => by rw [dd] at z; cases z), dd, r⟩
    have kin : K.In (hidT s.heap H) := fun b o e => hidT_get (KX b o e) (by
      cases q : H b with
      | none => rfl
      | some u =>
        rcases only b u q with ⟨hb, _⟩ | ⟨rfl, hk, _⟩
        · obtain ⟨p, hp, ep⟩ := List.mem_map.mp hb
          have := nT p hp
          rw [ep, e] at this
          cases this
        · rw [hk] at e
          cases e)
    have tabs : ∀ p ∈ cs, TabB (hidT s.heap H) mg p.1 p.2 := fun p hp => by
      obtain ⟨bm, ob, b1, b2, b3, b4, b5, b6⟩ := hbm
      obtain ⟨og, eg, pg, g1, g2, _⟩ := hns
      have noG : bm ≠ mainGlobals := fun q => by
        rw [q, g1] at b3
        cases b3
        rw [g2] at b6
        cases b6
      have noP : bm ≠ p.2 := fun q => by
        rw [q, hT p hp] at b3
        cases b3
        cases b6
      refine ⟨PySem.W.codeHd_of_K kin (C p hp), ⟨bm, ob, b1, b2, noG, noP, shown b3 (fun _ _ z => by rw [b6] at z; cases z) (fun z => by rw [b6] at z; cases z), b4, b5, b6⟩, fun z => ?_⟩
      rw [z, hT p hp] at g1
      cases g1
      cases g2
    obtain ⟨mc, l1, l2⟩ := hlim
    have e0 : Env0 P w K mg (hidT s.heap H) callerA [] s H := ⟨rfl, ⟨kin, nsOf hns, ⟨mb, nsOf hbl, hbb⟩, mc, nsOf l1, l2⟩, fun b o e => of_hidT e, Nat.le_of_eq (hidT_size _ _), trivial, (fun b hb => nomatch hb), hok, .of_eq hg⟩
    refine codeAny_mono ((F _ kin (nsOf hns) tabs).run callerA [] s H [.ref a] [] [.ref a] [] _ hr e0 (.cons rfl .nil) .nil rfl (hsp H hH hS aT)) fun r s' h => ?_
    cases r with
    | error e => exact False.elim h
    | ok fl =>
      cases fl with
      | next => exact False.elim h
      | brk => exact False.elim h
      | cont => exact False.elim h
      | ret u =>
        obtain ⟨v, H', os, bare, un, hok', rv, rfl⟩ := h
        obtain rfl : u = Value.bool true := rv
        have more : ∀ p ∈ cs, ∃ m : Array Value, s'.heap.get? p.2 = some { cls := .none, data := .fields m } := fun p hp => by
          obtain ⟨m, z⟩ := un.tbls p.2 #[] (hH p hp)
          exact ⟨_, hok' p.2 _ z⟩
        have kept : ∀ b o, b ∉ cs.map (·.2) → s.heap.get? b = some o → s'.heap.get? b = some o := fun b o nb e => by
          cases q : H b with
          | none => exact un.keep b o e q (fun z => nomatch z) (fun z => nomatch z)
          | some u =>
            rcases only b u q with ⟨hb, _⟩ | ⟨rfl, _, ob, xs, rfl⟩
            · exact absurd hb nb
            · have e1 := (hok _ _ q).1
              rw [e] at e1
              cases e1
              exact (hok' _ _ (un.frzs _ _ _ q)).1
        refine ⟨rfl, ⟨fun b o e => ?_, fun b o e => ?_⟩, os, bare⟩
        · by_cases hb : b ∈ cs.map (·.2)
          · obtain ⟨p, hp, rfl⟩ := List.mem_map.mp hb
            obtain ⟨m, hm⟩ := more p hp
            rw [hT p hp] at e
            cases e
            exact .inr (.inl ⟨((PySem.W.codeHd_of_K KX (C p hp)).tab (hT p hp)).isCodeTable, rfl, #[], m, rfl, by rw [Array.empty_append]; exact hm⟩)
          · exact .inl (kept b o hb e)
        · by_cases hb : b ∈ cs.map (·.2)
          · obtain ⟨p, hp, rfl⟩ := List.mem_map.mp hb
            obtain ⟨m, hm⟩ := more p hp
            exact ⟨_, hm⟩
          · exact ⟨o, kept b o hb e⟩
  have rv := vals_ints hi
  cases hk : K.lookup a with
  | some o =>
    have e := KX a o hk
    rw [ha] at e
    cases e
    refine go (fun b => if b ∈ cs.map (·.2) then some (.tbl #[]) else none) (fun p hp => if_pos (List.mem_map.mpr ⟨p, hp, rfl⟩)) (fun b o z => ?_) (fun b o z => ?_) (.inr ⟨_, vs.toArray, _, hk, rfl, rfl, rfl, ?_, by simpa using rv⟩)
    · by_cases hb : b ∈ cs.map (·.2)
      · simp only [if_pos hb] at z
        cases z
        exact .inl ⟨hb, rfl⟩
      · simp only [if_neg hb] at z
        cases z
    · by_cases hb : b ∈ cs.map (·.2)
      · simp only [if_pos hb] at z
        cases z
        exact isT b hb
      · simp only [if_neg hb] at z
        cases z
    · rw [List.size_toArray, hi.length]
      exact hl
  | none =>
    refine go (fun b => if b ∈ cs.map (·.2) then some (.tbl #[]) else hpS a { cls := .type "list", data := .seq vs.toArray } (ns.map V.int) b) (fun p hp => if_pos (List.mem_map.mpr ⟨p, hp, rfl⟩)) (fun b o z => ?_) (fun b o z => ?_) (.inl (.inr ⟨{ cls := .type "list", data := .seq vs.toArray }, ?_⟩))
    · by_cases hb : b ∈ cs.map (·.2)
      · simp only [if_pos hb] at z
        cases z
        exact .inl ⟨hb, rfl⟩
      · simp only [if_neg hb] at z
        unfold hpS at z
        by_cases hb2 : b = a
        · simp only [if_pos hb2] at z
          cases z
          exact .inr ⟨hb2, hk, _, _, rfl⟩
        · simp only [if_neg hb2] at z
          cases z
    · by_cases hb : b ∈ cs.map (·.2)
      · simp only [if_pos hb] at z
        cases z
        exact isT b hb
      · simp only [if_neg hb] at z
        unfold hpS at z
        by_cases hb2 : b = a
        · simp only [if_pos hb2] at z
          cases z
          subst hb2
          exact ⟨ha, by rw [List.length_map]; exact hl, vs, _, rv, ha⟩
        · simp only [if_neg hb2] at z
          cases z
    · have na : a ∉ cs.map (·.2) := fun z => aT a z rfl
      show (if a ∈ cs.map (·.2) then none else if a ∈ cs.map (·.2) then some (HO.tbl #[]) else hpS a _ _ a) = _
      rw [if_neg na, if_neg na]
      exact if_pos rfl
end
theorem flat_tb : ∀ ts : List (Addr × Str), Flat (tbM ts) (ts.map fun p => (p.1, Cell0.tb p.2))
  | [] => .nil
  | p :: ts => (flat_tb ts).one
/-- the end of a law whose defs make lambdas: cs: code objects, their tables, the lambdas' name -/
theorem walk_xT {l : PySem.W.OpenLaw} {k : Nat} {q : Program} {loose : List Str} {XP : (Str → Option Value) → Heap → Prop} {YP : World → Heap → Prop} {d : DefRec} {K : Params → PySem.W.Frag}
    (hn : l.most = some 63) (hdf : d.params.defaults = []) (hr : Room k callerA) (hY : ∀ (w : World) (h : Heap), YP w h → (K w.params).In h) (xs : List Str) (hrec : (xs.all fun x => (recsOf q).any fun e => e.name == x) = true)
    (F : ∀ (w : World) (mg : Str → Option Value) (fa : Addr) (h : Heap), (K w.params).In h → h.Ns mainGlobals mg → mg d.name = some (.ref fa) → (∀ x ∈ xs, ∀ f, mg x = some (.ref f) → OwnTab (K w.params) f h) →
        ∃ cs : List (Addr × Addr × Str), (∀ p ∈ cs, h.get? p.2.1 = some { cls := .none, data := .fields #[] }) ∧ (∀ p ∈ cs, (K w.params).lookup p.2.1 = none) ∧ (∀ p ∈ cs, PySem.W.codeHdIn (K w.params) p.1 p.2.1 = true) ∧ (cs.map (·.2.1)).Nodup ∧
          ∀ bs : Heap, (K w.params).In bs → bs.Ns mainGlobals mg → (∀ p ∈ cs, TabB bs mg p.1 p.2.1) → FnX l.prog w (K w.params) mg bs k fa [] (spX (K w.params) (aLawT (cs.map (·.2))))) :
    PySem.W.WalkO q loose XP YP l.row.toRowW d [] (fun f vs => PySem.call f vs) := by
  refine Att.attach_call hn hdf fun w s₀ s₁ mg mb fa o pm cd doc a vs ns G Y ho hd hcd hmg hobj hints hlen hg => ?_
  have KX := hY w _ Y
  have own : ∀ x ∈ xs, ∀ f, mg x = some (.ref f) → OwnTab (K w.params) f s₁.heap := fun x hx f hf c P o1 fd1 e dd vs1 sl k1 k2 k3 k4 k5 => by
    obtain ⟨dL, hm, hn1⟩ := List.any_eq_true.mp (List.all_eq_true.mp hrec x hx)
    have hn2 := beq_iff_eq.mp hn1
    obtain ⟨a', o', fd', c', P', h1, h2, h3, h4, h5, h6⟩ := G.T.tab dL hm
    rw [hn2, hf] at h1
    cases h1
    have g1 := KX _ _ k1
    rw [g1] at h2
    cases h2
    rw [k2] at h3
    cases h3
    rw [k3] at h4
    cases h4
    obtain ⟨⟨oc, vc, e1, _, e3, e4⟩, hP⟩ := h6
    have g2 := KX _ _ k4
    rw [g2] at e1
    cases e1
    cases e3
    rw [k5] at e4
    cases e4
    exact hP
  obtain ⟨cs, hT, nT, hC, hnd, hF⟩ := F w mg fa _ KX G.T.g hmg own
  have mem : ∀ p ∈ cs.map (fun p => (p.1, p.2.1)), ∃ x ∈ cs, p = (x.1, x.2.1) := fun p hp => let ⟨x, h1, h2⟩ := List.mem_map.mp hp; ⟨x, h1, h2.symm⟩
  refine run_lawT (cs := cs.map fun p => (p.1, p.2.1)) KX G.T.g G.T.b G.T.builtins G.T.nolimit hg (fun p hp => by obtain ⟨x, h1, rfl⟩ := mem p hp; exact hT x h1) (fun p hp => by obtain ⟨x, h1, rfl⟩ := mem p hp; exact nT x h1) (fun p hp => by obtain ⟨x, h1, rfl⟩ := mem p hp; exact hC x h1) G.T.bmain hobj hints (Nat.le_trans hlen (by decide)) ⟨hr, rfl⟩
    (fun bs kin hns tb => hF bs kin hns fun p hp => tb (p.1, p.2.1) (List.mem_map.mpr ⟨p, hp, rfl⟩)) fun H hH hS hna => ?_
  have em : (cs.map fun p => (p.1, p.2.1)).map (·.2) = cs.map (·.2.1) := by rw [List.map_map]; rfl
  rw [em] at hS hna
  refine ⟨fun b => if b ∈ cs.map (·.2.1) then none else H b, tbM (cs.map (·.2)), [.lst (ns.map .int)], [], fun d _ => d = .bl true, .cons (.lst hS (.ofInts ns)) .nil, .nil, ⟨_, flat_tb _, ?_, ?_, ?_⟩, ⟨ns, rfl, hlen, rfl, fun _ => rfl⟩, ?_⟩
  · intro b x e
    by_cases hb : b ∈ cs.map (·.2.1)
    · simp only [if_pos hb] at e
      cases e
    · simp only [if_neg hb] at e
      exact e
  · intro b c hm
    obtain ⟨p, hp, e⟩ := List.mem_map.mp hm
    obtain ⟨p2, hp2, rfl⟩ := List.mem_map.mp hp
    cases e
    have hin : p2.2.1 ∈ cs.map (·.2.1) := List.mem_map.mpr ⟨p2, hp2, rfl⟩
    refine ⟨if_pos hin, _, hH (p2.1, p2.2.1) (List.mem_map.mpr ⟨p2, hp2, rfl⟩), #[], rfl, trivial, fun pos cv hc => ?_⟩
    have z : codeAmong pos [] = some cv := hc
    simp [codeAmong] at z
  · rw [List.map_map, List.map_map]
    exact hnd
  · rintro d M' v Hi' H' rfl _ _ r
    cases r
    rfl
end Ab
namespace K39
open PySem L2 Ab GenW LamX
section
variable {P : Program} {w : World} {K : PySem.W.Frag} {mg : Str → Option Value} {base : Heap} {k : Nat} {f C : Addr}
/-! ### _law_error -/
/-- an exception class by its name: caught, its field read -/
structure XCt (K : PySem.W.Frag) (mg : Str → Option Value) (x : Str) (C : Addr) (fl : Str) : Prop where
  gl : mg x = some (.ref C)
  fc : XfC K C
  no : PySem.W.findIn K (.ref C) fl = some none
  self : PySem.W.exmOne K (.ref C) (.ref C) = some true
/-- the four classes -/
structure XErr (K : PySem.W.Frag) (mg : Str → Option Value) (CN CR CV CD : Addr) : Prop where
  n : XCt K mg "InvalidNumber" CN "number"
  r : XCt K mg "InvalidRecurrence" CR "part"
  v : XCt K mg "InvalidValues" CV "index"
  d : XCt K mg "Dead" CD "index"
  rn : PySem.W.exmOne K (.ref CR) (.ref CN) = some false
  vn : PySem.W.exmOne K (.ref CV) (.ref CN) = some false
  vr : PySem.W.exmOne K (.ref CV) (.ref CR) = some false
  dn : PySem.W.exmOne K (.ref CD) (.ref CN) = some false
  dr : PySem.W.exmOne K (.ref CD) (.ref CR) = some false
  dv : PySem.W.exmOne K (.ref CD) (.ref CV) = some false
def aErr (CN CR CV CD : Addr) : LSp := fun bsp M R => bsp M (fun _ M1 => R (.tup []) M1) fun C fs M1 =>
  (C = CN ∧ ∃ v, fs = [(("number" : Str), v)] ∧ R (.tup [.str "number", v]) M1) ∨ (C = CR ∧ ∃ v, fs = [(("part" : Str), v)] ∧ R (.tup [.str "recurrence", v]) M1) ∨
  (C = CV ∧ ∃ v, fs = [(("index" : Str), v)] ∧ R (.tup [.str "values", v]) M1) ∨ (C = CD ∧ ∃ v, fs = [(("index" : Str), v)] ∧ R (.tup [.str "dead", v]) M1)
theorem b__law_error {CN CR CV CD : Addr} (XE : XErr K mg CN CR CV CD) : BodyL P w K mg base 1 f n__law_error "_law_error" (defScope s__law_error) (defBody s__law_error) "_law_call" (aErr CN CR CV CD) := by
  rintro cdv A outer s0 H E hr fl Hf bsp act M R hp
  refine as_cons (as_setv 1 q__law_error.nd (av_tup avs_nil szb) ?_)
  refine as_cons (as_trys q__law_error.nd (.cons (c := .ref CN) (i := 2) ⟨rfl, by decide, .inl XE.n.gl⟩ rfl rfl (.cons (c := .ref CR) (i := 2) ⟨rfl, by decide, .inl XE.r.gl⟩ rfl rfl (.cons (c := .ref CV) (i := 2) ⟨rfl, by decide, .inl XE.v.gl⟩ rfl rfl (.cons (c := .ref CD) (i := 2) ⟨rfl, by decide, .inl XE.d.gl⟩ rfl rfl .nil)))) fun pn xe po => ?_)
  refine ys_one (ys_expr ((act pn xe 0 _ _ _ _ _ _ rfl rfl hp).mono (fun d M1 h => as_one (as_retv (v_ 1) (.ok h))) fun C fs M1 h => ?_))
  rcases h with ⟨rfl, v, rfl, h⟩ | ⟨rfl, v, rfl, h⟩ | ⟨rfl, v, rfl, h⟩ | ⟨rfl, v, rfl, h⟩
  · exact ⟨true, XE.n.self, fun _ a pn => as_one (as_set 1 q__law_error.nd (ae_tup (aa_cons (s_.val (aa_cons (ae_xf XE.n.fc XE.n.no ((v_ 2).val ⟨_, v, rfl, rfl, aa_nil ⟨szb, as_one (as_retv (v_ 1) (.ok h))⟩⟩))))))), ntf⟩
  · exact ⟨false, XE.rn, nft, fun _ => ⟨true, XE.r.self, fun _ a pn => as_one (as_set 1 q__law_error.nd (ae_tup (aa_cons (s_.val (aa_cons (ae_xf XE.r.fc XE.r.no ((v_ 2).val ⟨_, v, rfl, rfl, aa_nil ⟨szb, as_one (as_retv (v_ 1) (.ok h))⟩⟩))))))), ntf⟩⟩
  · exact ⟨false, XE.vn, nft, fun _ => ⟨false, XE.vr, nft, fun _ => ⟨true, XE.v.self, fun _ a pn => as_one (as_set 1 q__law_error.nd (ae_tup (aa_cons (s_.val (aa_cons (ae_xf XE.v.fc XE.v.no ((v_ 2).val ⟨_, v, rfl, rfl, aa_nil ⟨szb, as_one (as_retv (v_ 1) (.ok h))⟩⟩))))))), ntf⟩⟩⟩
  · exact ⟨false, XE.dn, nft, fun _ => ⟨false, XE.dr, nft, fun _ => ⟨false, XE.dv, nft, fun _ => ⟨true, XE.d.self, fun _ a pn => as_one (as_set 1 q__law_error.nd (ae_tup (aa_cons (s_.val (aa_cons (ae_xf XE.d.fc XE.d.no ((v_ 2).val ⟨_, v, rfl, rfl, aa_nil ⟨szb, as_one (as_retv (v_ 1) (.ok h))⟩⟩))))))), ntf⟩⟩⟩⟩
abbrev LErr (P : Program) (w : World) (K : PySem.W.Frag) (mg : Str → Option Value) (base : Heap) (CN CR CV CD : Addr) : Prop := LGd P w K mg base 2 "_law_error" (aErr CN CR CV CD)
end
end K39
/-! S16: every number has a value -/
namespace Sm
end Sm
namespace K39
open PySem L2 Ab Sm
/-! ### places and counts, leaf by leaf -/
structure PlOk (k : Nat) (xs ys : List Int) (s l : Nat → Int) (last : Int) : Prop where
  k2 : 2 ≤ k
  k9 : k ≤ 9
  nx : 14 ≤ xs.length
  ny : 14 ≤ ys.length
  sx : ∀ i, i < 14 → xs.getD i 0 = s i
  ly : ∀ i, i < 14 → ys.getD i 0 = l i
  sn : ∀ j, 0 ≤ s j
  ln : ∀ j, 0 ≤ l j
  l0 : 0 < l 0
  n0 : 0 ≤ last
  n1 : last ≤ 4000
def plL (k : Nat) (s l : Nat → Int) (n : Nat) : List Int := (List.range n).map (pl k s l 0)
theorem plL_len {k : Nat} {s l : Nat → Int} {n : Nat} : (plL k s l n).length = n := by simp [plL]
theorem plL_succ {k : Nat} {s l : Nat → Int} {n : Nat} : plL k s l (n + 1) = plL k s l n ++ [pl k s l 0 n] := by
  unfold plL
  rw [List.range_succ, List.map_append]
  rfl
theorem plL_at {k : Nat} {s l : Nat → Int} {n b : Nat} (h : b < n) : (plL k s l n).getD b 0 = pl k s l 0 b := by
  unfold plL
  rw [List.getD_eq_getElem?_getD, List.getElem?_map, List.getElem?_range h]
  rfl
theorem atI_st {k : Nat} {xs ys : List Int} {s l : Nat → Int} {last : Int} (h : PlOk k xs ys s l last) {i : Int} {j : Nat} (hi : i = (j : Int)) (hj : j < 14) : atI (xs.map Val.int) i = some (.int (s j)) := by
  have := h.nx
  rw [hi, atI_int (by omega) (by omega)]
  unfold at0
  rw [Int.toNat_natCast, h.sx j hj]
theorem atI_ti {k : Nat} {xs ys : List Int} {s l : Nat → Int} {last : Int} (h : PlOk k xs ys s l last) {i : Int} {j : Nat} (hi : i = (j : Int)) (hj : j < 14) : atI (ys.map Val.int) i = some (.int (l j)) := by
  have := h.ny
  rw [hi, atI_int (by omega) (by omega)]
  unfold at0
  rw [Int.toNat_natCast, h.ly j hj]
theorem pow_h {k h r b : Nat} (hk : 2 ≤ k) (hb : b ≤ 8000) (e : b = k ^ h * r) (r0 : 0 < r) : h < 13 := by
  rcases Nat.lt_or_ge h 13 with z | z
  · exact z
  · have h1 := Nat.pow_le_pow_right (n := 2) (by decide) z
    have h2 := Nat.pow_le_pow_left hk h
    have h3 : k ^ h ≤ b := by
      rw [e]
      exact Nat.le_mul_of_pos_right _ r0
    have : (2 : Nat) ^ 13 = 8192 := by decide
    omega
section
variable {P : Program} {w : World} {K : PySem.W.Frag} {mg : Str → Option Value} {base : Heap} {k : Nat} {f : Addr}
def aPlc : ASp := fun ds M R => ∃ (k : Nat) (xs ys : List Int) (s l : Nat → Int) (last : Int), ds = [.int (k : Int), .lst (xs.map .int), .lst (ys.map .int), .int last] ∧ PlOk k xs ys s l last ∧
  ∀ B : Nat, (∀ b, b < B → pl k s l 0 b ≤ last) → last < pl k s l 0 B → R (.lst ((plL k s l (B + 1)).map .int)) M
theorem b__law_places : BodyOk P w K mg base k f n__law_places "_law_places" (defScope s__law_places) (defBody s__law_places) aPlc := by
  rintro cdv A outer0 s0 H E hr ds M R ⟨k, xs, ys, s, l, last, rfl, h, hp⟩
  have k2 := h.k2
  have k9 := h.k9
  have n0 := h.n0
  have n1 := h.n1
  refine as_cons (as_par 4 5 q__law_places.nd rfl (by decide) (aa_cons (ae_lstC (aa_cons ((av_ixL (v_ 1) i_ (.self _) (atI_st h (j := 0) rfl (by decide))).val (aa_nil ⟨szb, fun q => aa_cons (i_.val (aa_nil ⟨_, _, rfl, ?_⟩))⟩))))))
  refine as_cons (as_whileW (fun z Γ M' => ∃ b : Nat, z = (last + 3).toNat - b ∧ (∀ c, c < b → pl k s l 0 c ≤ last) ∧ M' = (q, .lst ((plL k s l (b + 1)).map .int)) :: M ∧ Γ = [some (.int (k : Int)), some (.lst (xs.map .int)), some (.lst (ys.map .int)), some (.int last), some (.ptr q), some (.int ((b : Int) + 1)), none, none, none]) (last + 3).toNat PassesOwn.never ⟨_, _, ⟨0, rfl, (fun c hc => absurd hc (by omega)), ?_, rfl⟩, (by repeat' first | exact le_nil | refine le_skip ?_ | refine le_keep rfl ?_), (by repeat' first | exact List.Sublist.refl _ | exact List.sublist_append_right _ _ | apply List.Sublist.cons₂ | apply List.Sublist.cons)⟩ ?_)
  · show _ = (q, Cell.lst [Val.int (pl k s l 0 0)]) :: M
    rw [pl00]
  rintro z Γ M' ⟨b, rfl, hb, rfl, rfl⟩
  have hge := pl_ge k2 h.sn h.ln h.l0 0 b
  refine ⟨_, (tp_cmp (av_ixL (v_ 4) (av_neg i_) (.lst 0 rfl) (atI_lastE plL_len (plL_at (Nat.lt_succ_self b)))) (v_ 3) cp_le), fun hc => ?_, fun hc => ?_⟩
  · refine as_cons (as_par3 6 7 8 q__law_places.nd rfl (aA.val (avs_cons (v_ 5) (avs_cons i_ (avs_cons (av_ixL (v_ 2) i_ (.self _) (atI_ti h (j := 0) rfl (by decide))) avs_nil))) ⟨_, _, _, rfl, ?_⟩))
    refine as_cons (as_whileW (fun z Γ M' => ∃ e r : Nat, r = z ∧ M' = (q, .lst ((plL k s l (b + 1)).map .int)) :: M ∧ 0 < r ∧ b + 1 = k ^ e * r ∧ Γ = [some (.int (k : Int)), some (.lst (xs.map .int)), some (.lst (ys.map .int)), some (.int last), some (.ptr q), some (.int ((b : Int) + 1)), some (.int (r : Int)), some (.int (e : Int)), some (.int (smN l (e + 1)))]) (b + 1) PassesOwn.never ⟨_, _, ⟨0, b + 1, rfl, rfl, by omega, by simp, rfl⟩, ?_, (by repeat' first | exact List.Sublist.refl _ | exact List.sublist_append_right _ _ | apply List.Sublist.cons₂ | apply List.Sublist.cons)⟩ ?_)
    · repeat' first | exact le_nil | refine le_skip ?_ | refine le_keep rfl ?_ | refine le_keep ?_ ?_
      refine congrArg Val.int ?_
      show l 0 = 0 + l 0
      omega
    rintro _ Γ M' ⟨e, r, rfl, rfl, r0, hbr, rfl⟩
    have hrb : r ≤ b + 1 := by
      rw [hbr]
      exact Nat.le_mul_of_pos_left r (Nat.pow_pos (by omega))
    have h13 := pow_h k2 (by omega) hbr r0
    refine ⟨_, (tp_cmp (av_mod (v_ 6) (v_ 0) (by first | omega | assumption)) i_ cp_eq), fun hd => ?_, fun hd => ?_⟩
    · have hd : r % k = 0 := by omega
      have hd2 : r = r / k * k := by
        have := Nat.div_add_mod r k
        rw [Nat.mul_comm]
        omega
      have hlt : r / k < r := Nat.div_lt_self r0 (by omega)
      have h0 : 0 < r / k := by
        rcases Nat.eq_zero_or_pos (r / k) with z | z
        · rw [z, Nat.zero_mul] at hd2
          omega
        · exact z
      have hbr2 : b + 1 = k ^ (e + 1) * (r / k) := by rw [hbr, Nat.pow_succ, Nat.mul_assoc, Nat.mul_comm k, ← hd2]
      have h14 := pow_h k2 (by omega) hbr2 h0
      refine as_cons (as_par 6 7 q__law_places.nd rfl (by decide) (aA.val (avs_cons (av_fdiv (v_ 6) (v_ 0) ⟨by omega, by omega⟩) (avs_cons (av_add (v_ 7) i_) avs_nil)) ⟨_, _, rfl, ?_⟩))
      refine as_one (as_setv 8 q__law_places.nd (av_add (v_ 8) (av_ixL (v_ 2) (v_ 7) (.self _) (atI_ti h (j := e + 1) rfl (by omega)))) ?_)
      refine ⟨_, _, ⟨_, hlt, e + 1, r / k, rfl, rfl, h0, hbr2, rfl⟩, ?_, (by repeat' first | exact List.Sublist.refl _ | exact List.sublist_append_right _ _ | apply List.Sublist.cons₂ | apply List.Sublist.cons)⟩
      repeat' first | exact le_nil | refine le_skip ?_ | refine le_keep rfl ?_ | refine le_keep ?_ ?_
    · have hd : ¬ k ∣ r := fun z => hd (by have := Nat.mod_eq_zero_of_dvd z; omega)
      have hst := place_exp (s := s) (l := l) k2 hbr hd
      rw [← pl0_place k2, ← pl0_place k2] at hst
      refine as_consJ (fun Γ' M' => M' = (q, .lst ((plL k s l (b + 1)).map .int)) :: M ∧ ∃ x : Int, x = smN l (e + 1) + (if r = 1 then s (e + 1) else 0) ∧ Γ' = [some (.int (k : Int)), some (.lst (xs.map .int)), some (.lst (ys.map .int)), some (.int last), some (.ptr q), some (.int ((b : Int) + 1)), some (.int (r : Int)), some (.int (e : Int)), some (.int x)]) (as_ifp (tp_cmp (v_ 6) i_ cp_eq) (fun h1 => ?_) (fun h1 => as_nil ?_)) ?_
      · refine as_one (as_setv 8 q__law_places.nd (av_add (v_ 8) (av_ixL (v_ 1) (av_add (v_ 7) i_) (.self _) (atI_st h (j := e + 1) rfl (by omega)))) ?_)
        exact ⟨rfl, _, by rw [if_pos (by omega)], rfl⟩
      · exact ⟨rfl, _, by rw [if_neg (by omega), Int.add_zero], rfl⟩
      rintro Γ' M' ⟨rfl, x, hx, rfl⟩
      refine as_cons (as_expr (ae_append (n0 := 0) (v_ 4) rfl ((av_add (av_ixL (v_ 4) (av_neg i_) (.lst 0 rfl) (atI_lastE plL_len (plL_at (Nat.lt_succ_self b)))) (v_ 8)).val ⟨0, _, rfl, szl (by rw [List.length_map, plL_len]; omega), ?_⟩)))
      refine as_one (as_setv 5 q__law_places.nd (av_add (v_ 5) i_) ?_)
      refine ⟨_, _, ⟨_, ?_, b + 1, rfl, fun c hc2 => ?_, ?_, rfl⟩, (by repeat' first | exact le_nil | refine le_skip ?_ | refine le_keep rfl ?_), (by repeat' first | exact List.Sublist.refl _ | exact List.sublist_append_right _ _ | apply List.Sublist.cons₂ | apply List.Sublist.cons)⟩
      · omega
      · rcases (show c < b ∨ c = b by omega) with z | rfl
        · exact hb c z
        · exact hc
      · show (q, Cell.lst ((plL k s l (b + 1)).map .int ++ [.int (pl k s l 0 b + x)])) :: M = _
        rw [plL_succ (n := b + 1), List.map_append, show pl k s l 0 b + x = pl k s l 0 (b + 1) by omega]
        rfl
  · exact as_one (as_retv (v_ 4) (.frz (.ok (hp b hb (by omega)))))
abbrev GPlc (P : Program) (w : World) (K : PySem.W.Frag) (mg : Str → Option Value) (base : Heap) : Prop := Gd P w K mg base 1 "_law_places" [] fun ds _ => aPlc ds
/-- the counts from 0 on -/
def ctL (av : Nat → Int) (n : Nat) : List Int := (List.range n).map av
theorem ctL_succ {av : Nat → Int} {n : Nat} : ctL av (n + 1) = ctL av n ++ [av n] := by
  unfold ctL
  rw [List.range_succ, List.map_append]
  rfl
theorem ctL_len {av : Nat → Int} {n : Nat} : (ctL av n).length = n := by simp [ctL]
def aCts : ASp := fun ds M R => ∃ (k : Nat) (xs ys : List Int) (s l : Nat → Int) (last : Int) (av : Nat → Int), ds = [.int (k : Int), .lst (xs.map .int), .lst (ys.map .int), .int last] ∧ PlOk k xs ys s l last ∧
  (∀ t : Nat, Cnt k s l 0 (t : Int) (av t)) ∧ R (.lst ((ctL av (last.toNat + 1)).map .int)) M
theorem b__law_counts (B : Bt mg) (GP : GPlc P w K mg base) : BodyOk P w K mg base 2 f n__law_counts "_law_counts" (defScope s__law_counts) (defBody s__law_counts) aCts := by
  rintro cdv A outer0 s0 H E hr ds M R ⟨k, xs, ys, s, l, last, av, rfl, h, hav, hp⟩
  have k2 := h.k2
  have n0 := h.n0
  have n1 := h.n1
  refine as_cons (as_par3 4 5 6 q__law_counts.nd rfl (aa_cons (ae_g GP hr (by decide) (aa_cons ((v_ 0).val (aa_cons ((v_ 1).val (aa_cons ((v_ 2).val (aa_cons ((v_ 3).val (aa_nil (ak_nil ⟨rfl, k, xs, ys, s, l, last, rfl, h, fun BB hb1 hb2 => aa_cons (ae_lstC (aa_nil ⟨szb, fun q => aa_cons (i_.val (aa_nil ⟨_, _, _, rfl, ?_⟩))⟩))⟩)))))))))))))
  have hBB : (BB : Int) ≤ last + 2 := by
    rcases Nat.eq_zero_or_pos BB with z | z
    · omega
    · have h1 := hb1 (BB - 1) (by omega)
      have h2 := pl_ge k2 h.sn h.ln h.l0 0 (BB - 1)
      omega
  refine as_cons (as_forW PassesOwn.never rfl (aj_range1 B.range (aE.val (av_add (v_ 3) i_) ⟨_, rfl, by omega, by omega, ?_⟩)))
  refine ⟨fun t Γ M' => ∃ u : Nat, (∀ b : Nat, b < u → pl k s l 0 b < (t : Int)) ∧ u ≤ BB ∧ M' = (q, .lst ((ctL av t).map .int)) :: M ∧ Γ = [some (.int (k : Int)), some (.lst (xs.map .int)), some (.lst (ys.map .int)), some (.int last), some (.lst ((plL k s l (BB + 1)).map .int)), some (.ptr q), some (.int (u : Int)), none], ⟨_, _, ⟨0, fun b h => absurd h (by omega), by omega, rfl, rfl⟩, (by repeat' first | exact le_nil | refine le_skip ?_ | refine le_keep rfl ?_), (by repeat' first | exact List.Sublist.refl _ | exact List.sublist_append_right _ _ | apply List.Sublist.cons₂ | apply List.Sublist.cons)⟩, ?_, ?_⟩
  · rintro t Γ M' ht ⟨u, hu, hut, rfl, rfl⟩
    show aG _ _ (Val.int (0 + (t : Int))) _ _ _
    rw [Int.zero_add]
    refine ag_name 7 q__law_counts.nd ?_
    have hc := hav t
    refine as_cons (as_whileW (fun z Γ M2 => ∃ u : Nat, (∀ b : Nat, b < u → pl k s l 0 b ≤ (t : Int)) ∧ u ≤ BB ∧ z = BB - u ∧ M2 = (q, .lst ((ctL av t).map .int)) :: M ∧ Γ = [some (.int (k : Int)), some (.lst (xs.map .int)), some (.lst (ys.map .int)), some (.int last), some (.lst ((plL k s l (BB + 1)).map .int)), some (.ptr q), some (.int (u : Int)), some (.int (t : Int))]) (BB - u) PassesOwn.never ⟨_, _, ⟨u, fun b hb => Int.le_of_lt (hu b hb), hut, rfl, rfl, rfl⟩, (by repeat' first | exact le_nil | refine le_skip ?_ | refine le_keep rfl ?_), (by repeat' first | exact List.Sublist.refl _ | exact List.sublist_append_right _ _ | apply List.Sublist.cons₂ | apply List.Sublist.cons)⟩ ?_)
    rintro z Γ M2 ⟨u, hu, hut, rfl, rfl, rfl⟩
    have hx : atI ((plL k s l (BB + 1)).map Val.int) (u : Int) = some (.int (pl k s l 0 u)) := by
      rw [atI_int (by omega) (by rw [plL_len]; omega)]
      unfold at0
      rw [Int.toNat_natCast, plL_at (by omega)]
    refine ⟨_, (tp_cmp (av_ixL (v_ 4) (v_ 6) (.self _) hx) (v_ 7) cp_le), fun hg => ?_, fun hg => ?_⟩
    · refine as_one (as_setv 6 q__law_counts.nd (av_add (v_ 6) i_) ?_)
      have huB : u ≠ BB := fun z => by subst z; omega
      refine ⟨_, _, ⟨_, ?_, u + 1, fun b hb => ?_, by omega, rfl, rfl, rfl⟩, (by repeat' first | exact le_nil | refine le_skip ?_ | refine le_keep rfl ?_), (by repeat' first | exact List.Sublist.refl _ | exact List.sublist_append_right _ _ | apply List.Sublist.cons₂ | apply List.Sublist.cons)⟩
      · omega
      · rcases (show b < u ∨ b = u by omega) with z | rfl
        · exact hu b z
        · exact hg
    · have ev : av t = (u : Int) := by
        have h1 : ¬ (u : Int) < av t := fun z => hg ((hc.2 u).mp z)
        have h0 := hc.1
        rcases (show av t = u ∨ av t < u by omega) with z | z
        · exact z
        · have h2 := (hc.2 (av t).toNat).mpr (hu _ (by omega))
          omega
      refine as_one (as_expr (ae_append (n0 := 0) (v_ 5) rfl ((v_ 6).val ⟨0, _, rfl, szl (by rw [List.length_map, ctL_len]; omega), ?_⟩)))
      refine ⟨_, _, ⟨u, fun b hb => ?_, hut, ?_, rfl⟩, (by repeat' first | exact le_nil | refine le_skip ?_ | refine le_keep rfl ?_), (by repeat' first | exact List.Sublist.refl _ | exact List.sublist_append_right _ _ | apply List.Sublist.cons₂ | apply List.Sublist.cons)⟩
      · have := hu b hb
        omega
      · show (q, Cell.lst ((ctL av t).map .int ++ [Val.int (u : Int)])) :: M = _
        rw [ctL_succ, List.map_append, ← ev]
        rfl
  · rintro Γ M' ⟨u, _, _, rfl, rfl⟩
    rw [show (last + 1).toNat = last.toNat + 1 by omega]
    exact as_one (as_retv (v_ 5) (.frz (.ok hp)))
abbrev GCts (P : Program) (w : World) (K : PySem.W.Frag) (mg : Str → Option Value) (base : Heap) : Prop := Gd P w K mg base 3 "_law_counts" [] fun ds _ => aCts ds
end
end K39
/-! Ab116: list.extend by a tuple -/
namespace Ab
open PySem PySem.Spec PyProof.Rows L2
theorem list_extend_list_tup (l : Addr) (items : Array Value) (n : Nat) (b : Addr) (items2 : Array Value) (n2 : Nat) (dd : Option Addr) (sl : Array (Option Value)) (hs0 : ¬(!items.isEmpty && Builtin.List.listTooLong (items.size + items2.size)) = true) (hs1 : items.size ≤ sizeLine) (hs2 : items.size + items2.size ≤ sizeLine + 1) :
    Meets (Builtin.«list.extend» ⟨[.ref l, .ref b], []⟩) (fun _ R s => s.heap.get? l = some { cls := .type "list", dict := none, data := .seq items n, slots := #[] } ∧ s.heap.get? b = some { cls := .type "tuple", dict := dd, data := .seq items2 n2, slots := sl } ∧ R (.ok (.ret Value.none)) { s with heap := s.heap.update l (Obj.mapSeq fun x => x ++ items2), toks := s.toks }) :=
  .of_wp fun prog w A R s h => by
    obtain ⟨hp, g, d, tk, os⟩ := s; obtain ⟨hl, hb, h⟩ := h; have f1 := AutoSeq1.idx_int; have f2 := AutoSeq1.sub_tuple_tuple; have f3 := AutoSeq1.sub_list_list; have f4 := AutoSeq1.sub_tuple_list; have f5 := AutoSeq1.sub_list_tuple;
    have hz' : (items ++ items2).size ≤ sizeLine + 1 := by rw [Array.size_append]; exact hs2
    wp_walk using (wpAny_updateSeq hl rfl (hz := hs1) (_hz' := hz')), AutoSeq1.wpAny_loadPart' hl, AutoSeq1.wpAny_loadPart' hb; exact ⟨_, rfl, h⟩
def rExtendT (K : PySem.W.Frag) : V → List V → Hp → VK → Prop := fun x vs H Q => ∃ l b xs zs, x = .ref l ∧ vs = [.ref b] ∧ H l = some (.lst xs) ∧ SqT K H b zs ∧ xs.length + zs.length ≤ sizeLine ∧ Q .non (upd H l (.lst (xs ++ zs)))
theorem mt_extendT {X : L2.Cx} : MtM X "list.extend" (rExtendT X.K) := by
  intro pins s σ H x vs v us Q I rx rv h
  obtain ⟨l, b, xs, zs, rfl, rfl, hH, hB, hz, q⟩ := h
  cases rx
  obtain ⟨u, rfl, ru⟩ := rv.one
  cases ru
  obtain ⟨z, its, n, r, hl, e⟩ := I.lstM hH
  obtain ⟨its2, r2, ⟨o, e2, hc, n2, hd⟩, z2⟩ := I.tuple hB
  have hl2 := r2.length
  have hsz : its.toArray.size + its2.toArray.size ≤ sizeLine := by rw [List.size_toArray, List.size_toArray]; omega
  have hlong : ¬ (!its.toArray.isEmpty && Builtin.List.listTooLong (its.toArray.size + its2.toArray.size)) = true := by
    rw [notLongL hsz, Bool.and_false]
    exact Bool.false_ne_true
  obtain ⟨cls, dd, dat, sl⟩ := o
  obtain rfl : cls = .type "tuple" := hc
  obtain rfl : dat = .seq its2.toArray n2 := hd
  refine call_meets F.slot_list_extend ⟨_, e, rfl⟩ F.entry_list_extend (F.args_list_extend_2 _ _)
    (list_extend_list_tup l its.toArray n b its2.toArray n2 dd sl hlong (by rw [List.size_toArray]; omega) (by omega)) ⟨e, e2, ?_⟩
  refine ⟨.non, _, I.lset (its' := its ++ its2) hH e (by simp) (r.append r2) ?_, rfl, q⟩
  rw [List.length_append]
  omega
section
variable {X : Cx} {Γ : Gam} {M : Mem} {a e : Expr} {pos apos : Pos} {P : Val → Mem → Prop}
/-- xs.extend(e), e a tuple -/
theorem ae_extendT {n0 : Nat} {p : Addr} {xs0 : List Val} (ha : aV X a Γ M (.ptr p)) (hm0 : M[n0]? = some (p, .lst xs0)) (he : aE X e Γ M fun y M2 => ∃ (n : Nat) (xs ys : List Val), y = .tup ys ∧ M2[n]? = some (p, Cell.lst xs) ∧ xs.length + ys.length ≤ sizeLine ∧ P .non (M2.set n (p, .lst (xs ++ ys))))
    (hbase : attributeBase a "extend" X.env (eval a X.env) = eval a X.env := by rfl)
    (hfew : ((backTo pos (starEach [e] X.env)).all (fun x => !x.1) && (backToKw pos (keywordEach [] X.env)).all (fun x => x.1.isSome)
      && decide (([e] : List Expr).length + ([] : List Keyword).length + (if ([] : List Keyword).isEmpty then 0 else 1) < 30)) = true := by rfl)
    (hline : (apos.endLine == pos.line) = true := by rfl) (hs : starEach [e] X.env = (false, eval e X.env) :: starEach [] X.env := by rfl) : aE X (.Call (.Attribute a "extend" apos) [e] [] pos) Γ M P := fun Hi H σ ok en Q q => by
  refine ⟨_, pe_bm PySem.F.plainAttrs_list PySem.F.slot_list_extend PySem.F.type_list_extend mt_extendT pe_we (pa_cons pe_we pa_nil hs) hbase hfew hline hs rfl, ?_⟩
  refine ha Hi H σ ok en _ fun d M1 v Hi1 H1 h1 s1 ok1 r1 => ?_
  obtain ⟨rfl, rfl⟩ := h1
  cases r1
  obtain ⟨_, o, ho, ys, rfl, ra⟩ := ok1.get hm0
  refine ⟨.inl ⟨rfl, _, SqL.of ho⟩, ?_⟩
  refine he Hi1 H1 σ ok1 (en.mono s1) _ fun y M2 w Hi2 H2 h2 s2 ok2 r2 => ?_
  obtain ⟨n, xs, ys, rfl, hm, hl, hp⟩ := h2
  obtain ⟨_, o, ho2, zs, rfl, rz⟩ := ok2.get hm
  cases r2 with
  | tup hq ra2 =>
    exact ⟨p, _, zs, _, rfl, rfl, ho2, sameT ok2.im hq, by rw [← rz.length, ← ra2.length]; exact hl, q _ _ _ Hi2 _ hp (s1.trans s2) (ok2.set hm ⟨_, rfl, rz.append ra2⟩) .non⟩
end
end Ab
namespace K39
open PySem L2 Ab GenW Sm
section
variable {P : Program} {w : World} {K : PySem.W.Frag} {mg : Str → Option Value} {base : Heap} {k : Nat} {f C : Addr}
/-! ### streams of the law -/
structure SrL (lo : Int) (s : Stm) : Prop where
  l1 : s.1.length ≤ 3
  ne : s.2 ≠ []
  l2 : s.2.length ≤ 3
  a : ∀ v ∈ s.1 ++ s.2, lo ≤ v ∧ v ≤ lo + 3
theorem SrL.item {lo : Int} {s : Stm} (h : SrL lo s) (i : Nat) : lo ≤ item s i ∧ item s i ≤ lo + 3 := by
  rcases item_mem h.ne i with z | z
  · exact h.a _ (List.mem_append_left _ z)
  · exact h.a _ (List.mem_append_right _ z)
def aStr : ASp := fun ds M R => ∃ (p : Addr) (i : Nat) (lo : Int), ds = [.ptr p, .int lo] ∧ M[i]? = some (p, st5 p) ∧ ∀ s, SrL lo s → R (stV s) M
theorem b__law_stream (B : Bt mg) (D : GDr5 P w K mg base) : BodyOk P w K mg base 2 f n__law_stream "_law_stream" (defScope s__law_stream) (defBody s__law_stream) aStr := by
  rintro cdv A outer s0 H E hr ds M R ⟨p, i, lo, rfl, hi, hp⟩
  refine as_cons (as_set 2 q__law_stream.nd (ae_tuple B.tuple (ae_frz (ae_lcJ [("_law_k", 3)] rfl q__law_stream.nd (blkOk_by (N := n__law_stream) (sc := defScope s__law_stream) (by decide +kernel)) (aj_range1 B.range (ae_dr5 D hr (by decide) (v_ 0) i_ hi (by decide) (by decide) (fun c c0 c1 => ⟨_, rfl, by omega, by omega, ?_⟩)))))))
  refine ⟨by omega, fun t acc M' => ∃ xs : List Int, acc = xs.map .int ∧ xs.length = t ∧ (∀ v ∈ xs, lo ≤ v ∧ v ≤ lo + 3) ∧ M' = M, ⟨[], rfl, rfl, (fun _ h => nomatch h), rfl⟩, ?_, ?_⟩
  · rintro t acc M' DD ht hl ⟨xs, rfl, hxl, hx, rfl⟩ s H C' cl fp
    refine agw_name 3 q__law_stream.nd fun s H C' cl fp => ats_nil ⟨fun _ s H C' cl fp => ?_, ntf⟩
    refine ae_bin ((v_ 1).val (ae_dr5 D hr (by decide) (v_ 0) i_ (j := i + 1) hi (by decide) (by decide) (fun v v0 v1 => bv_add ⟨M', rfl, xs ++ [lo + v], by rw [List.map_append]; rfl, by rw [List.length_append, hxl]; rfl, fun u hu => ?_, rfl⟩)))
    rcases List.mem_append.mp hu with z | z
    · exact hx u z
    · rw [List.mem_singleton.mp z]
      omega
  rintro q acc M3 ⟨xs, rfl, hxl, hx, rfl⟩
  refine ⟨q, _, M3, rfl, rfl, _, .l (.self _), ?_⟩
  refine as_one (as_ret (ae_tup (aa_cons ((v_ 2).val (aa_cons (ae_tuple B.tuple (ae_frz (ae_lcJ [("_law_k", 3)] rfl q__law_stream.nd (blkOk_by (N := n__law_stream) (sc := defScope s__law_stream) (by decide +kernel)) (aj_range1 B.range (ae_bin (i_.val (ae_dr5 D hr (by decide) (v_ 0) i_ hi (by decide) (by decide) (fun e e0 e1 => bv_add ⟨_, rfl, by omega, by omega, ?_⟩)))))))))))))
  refine ⟨by omega, fun t acc M' => ∃ ys : List Int, acc = ys.map .int ∧ ys.length = t ∧ (∀ v ∈ ys, lo ≤ v ∧ v ≤ lo + 3) ∧ M' = M3, ⟨[], rfl, rfl, (fun _ h => nomatch h), rfl⟩, ?_, ?_⟩
  · rintro t acc M' DD ht hl ⟨xs, rfl, hxl, hx, rfl⟩ s H C' cl fp
    refine agw_name 3 q__law_stream.nd fun s H C' cl fp => ats_nil ⟨fun _ s H C' cl fp => ?_, ntf⟩
    refine ae_bin ((v_ 1).val (ae_dr5 D hr (by decide) (v_ 0) i_ (j := i + 1) hi (by decide) (by decide) (fun v v0 v1 => bv_add ⟨M', rfl, xs ++ [lo + v], by rw [List.map_append]; rfl, by rw [List.length_append, hxl]; rfl, fun u hu => ?_, rfl⟩)))
    rcases List.mem_append.mp hu with z | z
    · exact hx u z
    · rw [List.mem_singleton.mp z]
      omega
  rintro q2 acc M4 ⟨ys, rfl, hyl, hy, rfl⟩
  have x3 : xs.length ≤ 3 := by omega
  have y1 : 0 < ys.length := by omega
  have y3 : ys.length ≤ 3 := by omega
  have ha : ∀ v ∈ xs ++ ys, lo ≤ v ∧ v ≤ lo + 3 := fun v hv => by
    rcases List.mem_append.mp hv with z | z
    · exact hx v z
    · exact hy v z
  exact ⟨q2, _, M4, rfl, rfl, _, .l (.self _), aa_nil ⟨szb, .ok (hp (xs, ys) ⟨x3, List.length_pos_iff.mp y1, y3, ha⟩)⟩⟩
abbrev GStr (P : Program) (w : World) (K : PySem.W.Frag) (mg : Str → Option Value) (base : Heap) : Prop := Gd P w K mg base 3 "_law_stream" [] fun ds _ => aStr ds
/-! ### fourteen items -/
def preS (s : Stm) : Nat → List Int
  | 0 => s.1
  | n + 1 => preS s n ++ s.2
theorem preS_len {s : Stm} : ∀ n, (preS s n).length = s.1.length + n * s.2.length
  | 0 => by show s.1.length = _; omega
  | n + 1 => by
    show (preS s n ++ s.2).length = _
    rw [List.length_append, preS_len n, Nat.succ_mul]
    omega
theorem preS_at {s : Stm} (ne : s.2 ≠ []) : ∀ n i, i < (preS s n).length → (preS s n).getD i 0 = item s i
  | 0, i, h => (item_lt h).symm
  | n + 1, i, h => by
    show (preS s n ++ s.2).getD i 0 = _
    have hl : 0 < s.2.length := List.length_pos_iff.mpr ne
    by_cases z : i < (preS s n).length
    · rw [← preS_at ne n i z, List.getD_eq_getElem?_getD, List.getElem?_append_left z, List.getD_eq_getElem?_getD]
    · have h2 : i < (preS s n).length + s.2.length := by
        have : (preS s (n + 1)).length = (preS s n).length + s.2.length := List.length_append
        omega
      have e := preS_len (s := s) n
      rw [List.getD_eq_getElem?_getD, List.getElem?_append_right (by omega), item_ge (by omega)]
      unfold lp
      rw [show (i - s.1.length) % s.2.length = i - (preS s n).length by
        have e3 : i - s.1.length = (i - (preS s n).length) + s.2.length * n := by rw [Nat.mul_comm]; omega
        rw [e3, Nat.add_mul_mod_self_left, Nat.mod_eq_of_lt (by omega)], List.getD_eq_getElem?_getD]
def itW (s : Stm) (sh : Nat) : List Int := (List.range 14).map fun i => item s (sh + i)
theorem itW_len {s : Stm} {sh : Nat} : (itW s sh).length = 14 := by unfold itW; rw [List.length_map, List.length_range]
theorem itW_at {s : Stm} {sh i : Nat} (h : i < 14) : (itW s sh).getD i 0 = item s (sh + i) := by
  unfold itW
  exact getD_range h
theorem pre_cut {s : Stm} (ne : s.2 ≠ []) {n sh : Nat} (h : sh + 14 ≤ (preS s n).length) : cutA ((preS s n).map Val.int) (some (sh : Int)) (some ((sh : Int) + 14)) = (itW s sh).map .int := by
  unfold cutA
  rw [show (sh : Int) + 14 = ((sh + 14 : Nat) : Int) by omega, HT.sIx_nat, HT.sIx_nat, List.length_map, Nat.min_eq_left h, Nat.min_eq_left (show sh ≤ (preS s n).length by omega), show sh + 14 - sh = 14 by omega]
  apply List.ext_getElem?
  intro i
  rw [List.getElem?_take]
  by_cases z : i < 14
  · have e := preS_at ne n (sh + i) (by omega)
    rw [List.getD_eq_getElem?_getD, List.getElem?_eq_getElem (by omega)] at e
    rw [if_pos z, List.getElem?_drop, List.getElem?_map, List.getElem?_map, List.getElem?_eq_getElem (by omega)]
    unfold itW
    rw [List.getElem?_map, List.getElem?_range z]
    exact congrArg (fun z => some (Val.int z)) e
  · rw [if_neg z, List.getElem?_eq_none (by rw [List.length_map, itW_len]; omega)]
def aItm : ASp := fun ds M R => ∃ (s : Stm) (sh : Nat) (lo : Int), ds = [stV s, .int (sh : Int)] ∧ SrL lo s ∧ sh ≤ 60 ∧ R (.lst ((itW s sh).map .int)) M
theorem b__law_items (B : Bt mg) : BodyOk P w K mg base 1 f n__law_items "_law_items" (defScope s__law_items) (defBody s__law_items) aItm := by
  rintro cdv A outer s0 H E hr ds M R ⟨s, sh, lo, rfl, hs, hsh, hp⟩
  have l1 := hs.l1
  have l2 := hs.l2
  have l0 : 0 < s.2.length := List.length_pos_iff.mpr hs.ne
  refine as_cons (as_asg ((v_ 0).val (ag_tup (ds := [iT s.1, iT s.2]) rfl (ags_cons (ag_name 2 q__law_items.nd (ags_cons (ag_name 3 q__law_items.nd (ags_nil ?_))))))))
  refine as_cons (as_set 4 q__law_items.nd (ae_list B.list ((v_ 2).val ⟨_, .t, fun q => ?_⟩)))
  have ln : ∀ n : Nat, n ≤ (preS s n).length := fun n => by
    rw [preS_len]
    have := Nat.le_mul_of_pos_right n l0
    omega
  refine as_cons (as_whileL (fun m Γ M' => ∃ n, m = 80 - n ∧ n ≤ 80 ∧ M' = (q, .lst ((preS s n).map .int)) :: M ∧ Γ = [some (stV s), some (.int (sh : Int)), some (iT s.1), some (iT s.2), some (.ptr q)]) 80 PassesOwn.never ⟨_, ⟨0, rfl, by omega, rfl, rfl⟩, (by repeat' first | exact le_nil | refine le_skip ?_ | refine le_keep rfl ?_)⟩ ?_)
  rintro m Γ M' ⟨n, rfl, hn, rfl, rfl⟩
  have hln := ln n
  refine ⟨_, tp_cmp (av_lenSv B.len (v_ 4) (.c 0 rfl)) (av_add (v_ 1) i_) cp_lt, fun hc => ?_, fun hc => ?_⟩
  · have e := preS_len (s := s) n
    refine as_one (as_expr (ae_extendT (n0 := 0) (v_ 4) rfl ((v_ 3).val ⟨0, _, s.2.map .int, rfl, rfl, ?_, ⟨_, ⟨80 - (n + 1), by omega, n + 1, rfl, by omega, ?_, rfl⟩, (by repeat' first | exact le_nil | refine le_skip ?_ | refine le_keep rfl ?_)⟩⟩)))
    · rw [List.length_map, List.length_map]
      exact Nat.le_of_lt (szl (by omega))
    · show (q, Cell.lst ((preS s n).map .int ++ s.2.map .int)) :: M = _
      rw [← List.map_append]
      rfl
  · refine as_one (as_ret (ae_frz (ae_sliceL (v_ 4) (ao_some (v_ 1)) (ao_some (av_add (v_ 1) i_)) (.lst 0 rfl) fun z => ⟨z, _, _, rfl, rfl, .drop (.ok ?_)⟩)))
    rw [pre_cut hs.ne (by omega)]
    exact hp
abbrev GItm (P : Program) (w : World) (K : PySem.W.Frag) (mg : Str → Option Value) (base : Heap) : Prop := Gd P w K mg base 2 "_law_items" [] fun ds _ => aItm ds
end
end K39
namespace K39
open PySem L2 Ab GenW Sm LamX
section
variable {P : Program} {w : World} {K : PySem.W.Frag} {mg : Str → Option Value} {base : Heap} {k : Nat} {f c C CM CY CN CR CV CD Pt : Addr}
/-! ### labels that are not on leaves -/
def aPrn : ASp := fun ds M R => ∃ (k : Nat) (xs ys : List Int) (s l : Nat → Int) (BB m : Nat), ds = [.lst (xs.map .int), .lst (ys.map .int), .lst ((plL k s l (BB + 1)).map .int), .int (m : Int)] ∧ LvS k s l ∧ 0 < xs.length ∧ 0 < ys.length ∧ xs.getD 0 0 = s 0 ∧ ys.getD 0 0 = l 0 ∧ s 0 ≤ (m : Int) ∧ Vv (pl k s l 0) (m : Int) ≤ BB ∧
  R (.int ((m : Int) - lcv k s l 0 (m : Int) ((Vv (pl k s l 0) (m : Int) : Nat) : Int))) M
theorem b__law_pruned (B : Bt mg) : BodyOk P w K mg base 1 f n__law_pruned "_law_pruned" (defScope s__law_pruned) (defBody s__law_pruned) aPrn := by
  rintro cdv A outer0 s0 H E hr ds M R ⟨k, xs, ys, s, l, BB, m, rfl, h, hx0, hy0, ex, ey, hm, hv, hp⟩
  have eS : at0 xs 0 = s 0 := ex
  have eL : at0 ys 0 = l 0 := ey
  refine as_cons (as_setv (d := .int ((m : Int) - min (m : Int) (at0 xs 0))) 4 q__law_pruned.nd (av_sub (v_ 3) (av_min2 B.min rfl (v_ 3) (av_ixSv (v_ 0) i_ .l (by decide) (by omega)))) ?_)
  rw [eS, Int.min_eq_right hm]
  refine as_cons (as_forL PassesOwn.never rfl (aj_lst ((av_sliceL (v_ 2) (ao_some i_) ao_none (.self _)).val ⟨_, rfl, ?_⟩)))
  have ec : cutA ((plL k s l (BB + 1)).map Val.int) (some 1) none = (List.range BB).map fun b => Val.int (pl k s l 0 (b + 1)) := by
    unfold cutA plL
    rw [show (some (1 : Int)) = some ((1 : Nat) : Int) from rfl, HT.sIx_nat, HT.sIx_none, List.length_map, List.length_map, List.length_range, Nat.min_eq_left (by omega), List.map_map, List.range_succ_eq_map, List.map_cons, List.map_map]
    show (List.map _ (List.range BB)).take (BB + 1 - 1) = _
    rw [List.take_of_length_le (by rw [List.length_map, List.length_range]; omega)]
    rfl
  rw [ec, List.length_map, List.length_range]
  refine ⟨fun t Γ M' => M' = M ∧ Γ = [some (.lst (xs.map .int)), some (.lst (ys.map .int)), some (.lst ((plL k s l (BB + 1)).map .int)), some (.int (m : Int)), some (.int ((m : Int) - s 0 - smN (fun b => max 0 (min (l 0) ((m : Int) - pl k s l 0 (b + 1) + l 0))) t)), none], ⟨_, ⟨rfl, rfl⟩, ?_⟩, ?_, ?_⟩
  · repeat' first | exact le_nil | refine le_skip ?_ | refine le_keep rfl ?_ | refine le_keep ?_ ?_
    exact congrArg Val.int (show (m : Int) - s 0 = (m : Int) - s 0 - 0 by omega)
  · rintro t Γ M' ht ⟨rfl, rfl⟩
    show aG _ _ (((List.range BB).map fun b => Val.int (pl k s l 0 (b + 1))).getD t .non) _ _ _
    rw [getD_range ht]
    refine ag_name 5 q__law_pruned.nd ?_
    refine as_one (as_setv (d := .int ((m : Int) - s 0 - smN (fun b => max 0 (min (l 0) ((m : Int) - pl k s l 0 (b + 1) + l 0))) t - max 0 (min (at0 ys 0) ((m : Int) - pl k s l 0 (t + 1) + at0 ys 0)))) 4 q__law_pruned.nd (av_sub (v_ 4) (av_max2 B.max rfl i_ (av_min2 B.min rfl (av_ixSv (v_ 1) i_ .l (by decide) (by omega)) (av_add (av_sub (v_ 3) (v_ 5)) (av_ixSv (v_ 1) i_ .l (by decide) (by omega)))))) ?_)
    rw [eL]
    refine ⟨_, ⟨rfl, rfl⟩, ?_⟩
    repeat' first | exact le_nil | refine le_skip ?_ | refine le_keep rfl ?_ | refine le_keep ?_ ?_
    refine congrArg Val.int ?_
    show _ = (m : Int) - s 0 - (smN _ t + max 0 (min (l 0) ((m : Int) - pl k s l 0 (t + 1) + l 0)))
    omega
  · rintro Γ M' ⟨rfl, rfl⟩
    refine as_one (as_retv (v_ 4) (.ok ?_))
    rw [h.onLeaves hm (by omega) BB hv]
    have e : (m : Int) - s 0 - (lcv k s l 0 (m : Int) ((Vv (pl k s l 0) (m : Int) : Nat) : Int) - s 0) = (m : Int) - lcv k s l 0 (m : Int) ((Vv (pl k s l 0) (m : Int) : Nat) : Int) := by omega
    rw [e]
    exact hp
abbrev GPrn (P : Program) (w : World) (K : PySem.W.Frag) (mg : Str → Option Value) (base : Heap) : Prop := Gd P w K mg base 2 "_law_pruned" [] fun ds _ => aPrn ds
/-! ### places_read, as the law asks it -/
abbrev aPlrX (K : PySem.W.Frag) (C CM CY CN : Addr) : ASp := fun ds M R => aPlr K C CM CY CN ds M R fun _ _ _ => False
structure PlrS (P : Program) (w : World) (K : PySem.W.Frag) (mg : Str → Option Value) (base : Heap) (C CM CY CN : Addr) : Prop where
  ex : ∃ f, Meth K CY "places_read" f ∧ FnE P w K mg base 5 f [] (spE K fun ds _ => aPlr K C CM CY CN ds) ∧ FnX P w K mg base 5 f ["n", "index"] (spX K fun ds es M R => ds.length = 1 ∧ aPlrX K C CM CY CN (ds ++ swp es) M R)
theorem PlrS.x (h : PlrS P w K mg base C CM CY CN) : ∃ f, Meth K CY "places_read" f ∧ FX P w K mg base 5 f fun ds _ => aPlrX K C CM CY CN ds := by
  obtain ⟨f, m, F, _⟩ := h.ex
  exact ⟨f, m, F.toX⟩
theorem item_nfs {s : Stm} (h : s.2 ≠ []) (i : Nat) : item (nf s) i = item s i := (nf_spec h).it i
/-- the schedule of the law -/
structure LwS (S : Sc) (k : Nat) (s l : Stm) : Prop where
  k2 : 2 ≤ k
  k9 : k ≤ 9
  e : S = ⟨(k : Int), nf s, nf l⟩
  s : SrL 0 s
  l : SrL 1 l
theorem LwS.lim {lo : Int} {s : Stm} (h : SrL lo s) (h0 : 0 ≤ lo) (h1 : lo ≤ 1) : Lim s := ⟨by have := h.l1; omega, by have := h.l2; omega, h.ne, fun v hv => by have := h.a v (List.mem_append_left _ hv); exact ⟨by omega, by omega⟩, fun v hv => by have := h.a v (List.mem_append_right _ hv); exact ⟨by omega, by omega⟩⟩
theorem LwS.sm {S : Sc} {k : Nat} {s l : Stm} (h : LwS S k s l) : SmG S := by
  obtain ⟨k2, k9, rfl, hs, hl⟩ := h
  have a := LwS.lim hs (by decide) (by decide)
  have b := LwS.lim hl (by decide) (by decide)
  refine ⟨⟨good_nf (by omega) (by omega) hs.ne hl.ne (lim_nf hs.ne a.l1 a.l2 a.a1 a.a2) (lim_nf hl.ne b.l1 b.l2 b.a1 b.a2) (by have := (hl.item 0).1; omega), fun j => ?_⟩, fun j => ?_, fun j => ?_⟩
  · show 1 ≤ item (nf l) j
    rw [item_nfs hl.ne]
    exact (hl.item j).1
  · show item (nf s) j ≤ 40
    rw [item_nfs hs.ne]
    have := (hs.item j).2
    omega
  · show item (nf l) j ≤ 40
    rw [item_nfs hl.ne]
    have := (hl.item j).2
    omega
theorem LwS.it {S : Sc} {k : Nat} {s l : Stm} (h : LwS S k s l) {cs : List Sc} (c : IsCh S cs) {i : Nat} (hi : i < cs.length) (j : Nat) : item s (i + j) = item (cs.getD i S).sp j ∧ item l (i + j) = item (cs.getD i S).lv j := by
  obtain ⟨_, _, d⟩ := c i hi
  obtain ⟨k2, k9, rfl, hs, hl⟩ := h
  rw [(d j).1, (d j).2]
  show _ = item (nf s) _ ∧ _ = item (nf l) _
  rw [item_nfs hs.ne, item_nfs hl.ne]
  exact ⟨rfl, rfl⟩
def aPrt (C CM CY : Addr) : ASp := fun ds M R => ∃ (S : Sc) (cs : List Sc) (b : Nat) (pc ps : Nat → Addr) (i k at_ n : Nat) (s l : Stm), ds = [sysV C CM CY S cs b pc ps, .int (k : Int), stV s, stV l, .int (at_ : Int), .int (n : Int)] ∧ M[i]? = some (ps 0, sysC S cs pc ps) ∧ SyG S cs b ∧ LwS S k s l ∧ at_ < cs.length ∧
  bdS (cs.getD at_ S) ≤ (n : Int) ∧ n ≤ 2000 ∧ R (.bl true) M
theorem b__law_places_right (B : Bt mg) (Y : SyX K mg CY) (PL : PlrS P w K mg base C CM CY CN) (GI : GItm P w K mg base) (GP : GPlc P w K mg base) (GC : GCts P w K mg base) (GR : GPrn P w K mg base) : BodyOk P w K mg base 6 f n__law_places_right "_law_places_right" (defScope s__law_places_right) (defBody s__law_places_right) (aPrt C CM CY) := by
  rintro cdv A outer0 s0 H E hr ds M R ⟨S, cs, b, pc, ps, i, k, a, n, s, l, rfl, hi, G, L, ha, hb, hn, hp⟩
  have hu := hr.u64
  obtain ⟨hch, h1, h42, hbb, hrep, hpw⟩ := G.c
  have hG := G.m ha
  obtain ⟨T, hT⟩ : ∃ T, T = cs.getD a S := ⟨_, rfl⟩
  have ka : S.a = (k : Int) := by rw [L.e]
  have kT : T.a = (k : Int) := by rw [hT, (hch a ha).2.1, ka]
  have kn : T.a.toNat = k := by omega
  have hs := L.s
  have hl := L.l
  have k2 := L.k2
  have k9 := L.k9
  rw [← hT] at hG hb
  have ls := hG.g.ls
  rw [kn] at ls
  have l0 := (hG.g.li 0).1
  have l40 := hG.l 0
  have eit : ∀ j, item s (a + j) = item T.sp j ∧ item l (a + j) = item T.lv j := fun j => by rw [hT]; exact L.it hch ha j
  have po : PlOk k (itW s a) (itW l a) (item T.sp) (item T.lv) (n : Int) := ⟨k2, k9, by rw [itW_len]; exact Nat.le_refl _, by rw [itW_len]; exact Nat.le_refl _, fun i hi => by rw [itW_at hi]; exact (eit i).1, fun i hi => by rw [itW_at hi]; exact (eit i).2, ls.s0, ls.l0, ls.lp, by omega, by omega⟩
  have po2 : PlOk k (itW s (a + 1)) (itW l (a + 1)) (Sm.shf (item T.sp)) (Sm.shf (item T.lv)) (n : Int) := ⟨k2, k9, by rw [itW_len]; exact Nat.le_refl _, by rw [itW_len]; exact Nat.le_refl _, fun i hi => by rw [itW_at hi, show a + 1 + i = a + (i + 1) by omega]; exact (eit (i + 1)).1, fun i hi => by rw [itW_at hi, show a + 1 + i = a + (i + 1) by omega]; exact (eit (i + 1)).2, ls.shf.s0, ls.shf.l0, ls.shf.lp, by omega, by omega⟩
  refine as_cons (as_asg (ae_tup (aa_cons (ae_g GI hr (by decide) (aa_cons ((v_ 2).val (aa_cons ((v_ 4).val (aa_nil (ak_nil ⟨rfl, s, a, 0, rfl, hs, by omega, aa_cons (ae_g GI hr (by decide) (aa_cons ((v_ 3).val (aa_cons ((v_ 4).val (aa_nil (ak_nil ⟨rfl, l, a, 1, rfl, hl, by omega, aa_nil ⟨szb, ag_tup rfl (ags_cons (ag_name 6 q__law_places_right.nd (ags_cons (ag_name 7 q__law_places_right.nd (ags_nil ?_)))))⟩⟩)))))))⟩))))))))))
  refine as_cons (as_set 8 q__law_places_right.nd (ae_g GP hr (by decide) (aa_cons ((v_ 1).val (aa_cons ((v_ 6).val (aa_cons ((v_ 7).val (aa_cons ((v_ 5).val (aa_nil (ak_nil ⟨rfl, k, itW s a, itW l a, item T.sp, item T.lv, (n : Int), rfl, po, fun BB hb1 hb2 => ?_⟩))))))))))))
  have eBB : Vv (pl k (item T.sp) (item T.lv) 0) (n : Int) = BB := Vv_of ls.inc (by omega) hb1 hb2
  have eL0 : at0 (itW l a) 0 = item T.lv 0 := by
    have : (itW l a).getD 0 0 = item l (a + 0) := itW_at (by decide)
    exact this.trans (eit 0).2
  refine as_lcP 9 [("_law_k", 10)] (fun i => .int (plcS T n i)) rfl q__law_places_right.nd (blkOk_by (N := n__law_places_right) (sc := defScope s__law_places_right) (by decide +kernel)) (ai_range2 (lo := 1) (n := k) B.range (aa_cons (i_.val (aa_cons ((av_add (v_ 1) i_).val (aa_nil ⟨_, rfl, by omega, by omega, rfl⟩))))) ) ?_ (by omega) ?_
  · intro j acc D hj s1 H1 C1 cl fp
    obtain ⟨g1, g2⟩ := hG.g.lab hb (i := j) (by omega)
    have s1' := (hG.g.si 1).1
    have s0' := (hG.g.si 0).1
    obtain ⟨m, hm⟩ : ∃ m : Nat, (m : Int) = (n : Int) - ((j : Int) + 1) * item T.lv 0 := ⟨((n : Int) - ((j : Int) + 1) * item T.lv 0).toNat, by omega⟩
    have mulb : (1 + (j : Int)) * item T.lv 0 = ((j : Int) + 1) * item T.lv 0 := by rw [Int.add_comm]
    refine agw_name 10 q__law_places_right.nd fun s1 H1 C1 cl fp => ?_
    refine ae_g GR hr (by decide) (aa_cons ((v_ 6).val (aa_cons ((v_ 7).val (aa_cons ((v_ 8).val (aa_cons ((av_sub (v_ 5) (av_mul (v_ 10) (av_ixSv (v_ 7) i_ .l (by decide) (by rw [itW_len]; decide)) (.inl ⟨by omega, by omega⟩))).val (aa_nil (ak_nil ⟨rfl, k, itW s a, itW l a, item T.sp, item T.lv, BB, m, ?_, ls, by rw [itW_len]; decide, by rw [itW_len]; decide, ?_, ?_, by omega, ?_, ?_⟩))))))))))
    · rw [eL0, mulb, hm]
    · rw [itW_at (by decide)]
      exact (eit 0).1
    · rw [itW_at (by decide)]
      exact (eit 0).2
    · rcases Nat.lt_or_ge BB (Vv (pl k (item T.sp) (item T.lv) 0) (m : Int)) with z | z
      · have := (Vv_spec ls.inc (show -1 ≤ (m : Int) by omega)).1 BB z
        omega
      · exact z
    · refine ⟨?_, rfl⟩
      rw [hm]
      show _ = Val.int (ppS T ((n : Int) - ((j : Int) + 1) * item T.lv 0))
      unfold ppS
      rw [kn]
  have edue : (List.range k).map (fun i => Val.int (plcS T n i)) = (plcL T n).map .int := by
    unfold plcL
    rw [List.map_map, kn]
    rfl
  rw [edue]
  have plen : (plcL T n).length = k := by unfold plcL; rw [List.length_map, List.length_range, kn]
  have hdp : dpV (.tup ((plcL T n).map .int)) ≤ 60 := by
    unfold dpV
    rw [dp_ints]
    decide
  have hplr : ∀ {M' : Mem} (R' : Val → Mem → Prop), M'[i]? = some (ps 0, sysC S cs pc ps) → R' (.tup ((plcL T n).map .int)) M' → aPlrX K C CM CY CN [sysV C CM CY S cs b pc ps, .int (a : Int), .int (n : Int)] M' R' := fun R' hi' h => ⟨S, cs, b, pc, ps, i, _, _, rfl, hi', G, .inr ⟨a, ha, rfl, .inr ⟨n, rfl, by rw [← hT]; exact hb, hn, by rw [← hT]; exact h⟩⟩⟩
  obtain ⟨fp, mt, FP, FK⟩ := PL.ex
  refine as_cons (as_if (at_w (aw_or (at_cmpM (ae_m2 Y.cl PL.x hr (by decide) ((v_ 0).val ⟨(Ob.im _).obM rfl, (v_ 4).val ((v_ 5).val (hplr _ hi ((av_tupSv B.tuple (v_ 9) .l).val ⟨false, cmp_neV (.self _) (.self _) rfl (dt_ints _) hdp hu, nft, fun _ => ?_⟩)))⟩))))))
  refine aw_or1 (at_cmpM (ae_meth0 Y.cl mt FK (hr.mono (by decide)) (v_ 0) (.im _) rfl (ak_cons ((v_ 5).val (ak_cons ((v_ 4).val (ak_nil ⟨rfl, rfl, hplr _ hi ((av_tupSv B.tuple (v_ 9) .l).val ⟨false, cmp_neV (.self _) (.self _) rfl (dt_ints _) hdp hu, nft, fun _ => as_nil ?_⟩)⟩)))))))
  refine as_cons (as_set 11 q__law_places_right.nd (ae_g GC hr (by decide) (aa_cons ((v_ 1).val (aa_cons (ae_g GI hr (by decide) (aa_cons ((v_ 2).val (aa_cons ((av_add (v_ 4) i_).val (aa_nil (ak_nil ⟨rfl, s, a + 1, 0, rfl, hs, by omega, aa_cons (ae_g GI hr (by decide) (aa_cons ((v_ 3).val (aa_cons ((av_add (v_ 4) i_).val (aa_nil (ak_nil ⟨rfl, l, a + 1, 1, rfl, hl, by omega, aa_cons ((v_ 5).val (aa_nil (ak_nil ⟨rfl, k, itW s (a + 1), itW l (a + 1), Sm.shf (item T.sp), Sm.shf (item T.lv), (n : Int), fun t => ((Vv (pl k (Sm.shf (item T.sp)) (Sm.shf (item T.lv)) 0) (t : Int) : Nat) : Int), rfl, po2, fun t => ls.shf.cnt (by omega), ?_⟩)))⟩)))))))⟩))))))))))))
  refine as_cons (as_if (at_cmpM (ae_maxL B.max rfl ((v_ 9).val ⟨plcL T n, .self _, by omega, fun mx hm1 hm2 => (v_ 5).val ⟨_, cmp_ge, fun h => absurd (of_decide_eq_true h) ?_, fun _ => as_nil ?_⟩⟩))))
  · obtain ⟨j, hj, rfl⟩ := List.mem_map.mp hm1
    have hj := List.mem_range.mp hj
    have := (hG.g.plb hb hj).2
    omega
  have elen : (((List.range ((plL k (item T.sp) (item T.lv) (BB + 1)).map Val.int).length).filter fun b => decide (pl k (item T.sp) (item T.lv) 0 b ≤ (n : Int))).map fun b => Val.int (pl k (item T.sp) (item T.lv) 0 b)).length = BB := by
    rw [List.length_map, List.length_map, plL_len, List.filter_congr (q := fun b => decide (b < BB)) fun c hc => decide_eq_decide.mpr ⟨fun h => ?_, fun h => hb1 c h⟩, filt_len]
    · omega
    · have hc := List.mem_range.mp hc
      rcases Nat.lt_or_ge c BB with z | z
      · exact z
      · obtain rfl : c = BB := by omega
        omega
  refine as_one (as_ret (ae_cmp (av_sumI (ns := (List.range k).map fun i => vN k (Sm.shf (item T.sp)) (Sm.shf (item T.lv)) (plcS T n i).toNat) B.sum rfl (ae_lcP [("_law_place", 12)] (fun i => .int (vN k (Sm.shf (item T.sp)) (Sm.shf (item T.lv)) (plcS T n i).toNat)) rfl q__law_places_right.nd (blkOk_by (N := n__law_places_right) (sc := defScope s__law_places_right) (by decide +kernel)) (ai_lst (xs := (plcL T n).map .int) ((v_ 9).val ⟨rfl, rfl⟩)) ?_ (by rw [List.length_map]; omega) ⟨rfl, rfl⟩) (by rw [List.length_map, plen]; exact vw_range)) (av_len (xs := ((List.range ((plL k (item T.sp) (item T.lv) (BB + 1)).map Val.int).length).filter fun b => decide (pl k (item T.sp) (item T.lv) 0 b ≤ (n : Int))).map fun b => Val.int (pl k (item T.sp) (item T.lv) 0 b)) B.len (ae_lcF [("_law_place", 12)] (fun b => .int (pl k (item T.sp) (item T.lv) 0 b)) (fun b => decide (pl k (item T.sp) (item T.lv) 0 b ≤ (n : Int))) rfl q__law_places_right.nd (blkOk_by (N := n__law_places_right) (sc := defScope s__law_places_right) (by decide +kernel)) (ai_lst (xs := (plL k (item T.sp) (item T.lv) (BB + 1)).map .int) ((v_ 8).val ⟨rfl, rfl⟩)) ?_ ?_ ⟨rfl, rfl⟩) (.l (.self _))) cmp_eqI (.ok ?_)))
  · intro j acc D hj s1 H1 C1 cl fp
    rw [List.length_map, plen] at hj
    have ej : ((plcL T n).map Val.int).getD j .non = .int (plcS T n j) := by
      unfold plcL
      rw [List.map_map, kn]
      exact getD_range hj
    rw [ej]
    obtain ⟨p1, p2⟩ := hG.g.plb hb (i := j) (by omega)
    have e1 : at0 (ctL (fun t => ((Vv (pl k (Sm.shf (item T.sp)) (Sm.shf (item T.lv)) 0) (t : Int) : Nat) : Int)) ((n : Int).toNat + 1)) (plcS T n j) = vN k (Sm.shf (item T.sp)) (Sm.shf (item T.lv)) (plcS T n j).toNat := by
      unfold at0 ctL
      exact getD_range (by omega)
    refine agw_name 12 q__law_places_right.nd fun s1 H1 C1 cl fp => ?_
    rw [← e1]
    exact (av_ixSv (v_ 11) (v_ 12) .l p1 (by rw [ctL_len]; omega)).val ⟨rfl, rfl⟩
  · intro j acc D hj s1 H1 C1 cl fp
    rw [List.length_map, plL_len] at hj
    have ej : ((plL k (item T.sp) (item T.lv) (BB + 1)).map Val.int).getD j .non = .int (pl k (item T.sp) (item T.lv) 0 j) := by
      unfold plL
      rw [List.map_map]
      exact getD_range hj
    rw [ej]
    refine agw_name 12 q__law_places_right.nd fun s1 H1 C1 cl fp => ?_
    exact ⟨at_cmp (v_ 12) (v_ 5) cmp_le ⟨rfl, rfl⟩, fun _ => (v_ 12).val ⟨rfl, rfl⟩⟩
  · rw [List.length_map, plL_len]
    have := ls.inc.ge BB
    rcases Nat.eq_zero_or_pos BB with z | z
    · omega
    · have h1 := hb1 (BB - 1) (by omega)
      have h2 := pl_ge ls.k2 ls.s0 ls.l0 ls.lp 0 (BB - 1)
      omega
  · have hsum := ls.eqn (n := n) (by have := hb; unfold bdS at this; rw [kT] at this; exact this) (pp := fun i => (plcS T n i).toNat) fun i hi => by
      rw [Int.toNat_of_nonneg (hG.g.plb hb (by omega)).1]
      show ppS T _ = _
      unfold ppS
      rw [kn]
    rw [elen, sum_range, hsum]
    have e2 : vN k (item T.sp) (item T.lv) n = (BB : Int) := by
      unfold vN
      rw [eBB]
    rw [e2, decide_eq_true rfl]
    exact hp
abbrev GPrt (P : Program) (w : World) (K : PySem.W.Frag) (mg : Str → Option Value) (base : Heap) (C CM CY : Addr) : Prop := Gd P w K mg base 7 "_law_places_right" [] fun ds _ => aPrt C CM CY ds
end
end K39
/-! Ab117: a def that may raise, by two keywords in the other order -/
namespace Ab
open PySem PySem.Spec PyProof.Rows L2
section
variable {P : Program} {w : World} {K : PySem.W.Frag} {mg : Str → Option Value} {base : Heap} {x qual : Str} {f : Addr} {fd : FuncData}
theorem fne_kwS {params : Arguments} {body : List Stmt} {sc : Scope} {kws : List (Str × V)} {N ps ks : List Str} {k n : Nat} {s0 : ASe} (F : FunD K x qual params body sc [] kws f fd) (S : FnScope N ps sc)
    (h : ∀ (kV doc pm : Value) (an : Option Addr) (cdv ct : Value) (us ws : List Value), us.length = n → ws.length = ks.length → bindArgs (PySem.W.fnOf x qual params body sc .none kV doc pm an cdv ct) ⟨us, ks.zip ws⟩ = pure (ps.zip (us ++ swp ws)))
    (len : ∀ ds M R PE, s0 ds M R PE → ds.length = ps.length) (hb : BodyE P w K mg base k f N qual sc body s0) : FnE P w K mg base (k + 1) f ks (spE K fun ds es M R PE => ds.length = n ∧ s0 (ds ++ swp es) M R PE) := by
  refine fne_kbn (n := n) (g := fun us ws => us ++ swp ws) (gV := fun us ws => us ++ swp ws) (fun ds es => ds ++ swp es) F S ?_ (fun H ds vs es zs r1 r2 _ _ => r1.append (repa_swp r2)) len hb
  obtain ⟨oc, od, dV, kV, doc, pm, an, cdv, ct, osl, rfl, lk, hcd, hD, _⟩ := F.ex
  obtain ⟨_, rfl⟩ : ([] : List V) = [] ∧ dV = .none := by
    rcases hD with h | ⟨e, _⟩
    · exact h
    · exact absurd rfl e
  exact ⟨fun s us ws _ h1 h2 => .of_eq (h kV doc pm an cdv ct us ws h1 h2), fun r1 r2 => r1.append (vals_swp r2)⟩
end
end Ab
namespace K39
open PySem L2 Ab GenW Sm LamX
/-! ### what is refused -/
theorem sh_str {x : Str} (h : x.cps.toList.all (fun c => decide (c < 16 ^ 8)) = true) : shV (.str x) := h
theorem roZ {d : Val} (h1 : shV d) (h2 : wdV d ≤ 4000) (h3 : dpV d ≤ 5) : RO (.tup [.str "number", d]) ∧ RO (.lst [.tup [.str "number", d], .tup [.str "number", d]]) := by
  have s1 : shV (.str "number") := sh_str (by decide +kernel)
  have e6 : ("number" : Str).length = 6 := by decide +kernel
  have w1 : wdV (.tup [.str "number", d]) = 62 + 2 + (wdV d + 2 + 0) + 3 := by
    show 10 * ("number" : Str).length + 2 + 2 + (wdV d + 2 + 0) + 3 = _
    rw [e6]
  have p1 : dpV (.tup [.str "number", d]) = max 0 (max (dpV d) 0) + 1 := rfl
  refine ⟨⟨trivial, ⟨s1, h1, trivial⟩, sz (by rw [w1]; omega), by rw [p1]; omega⟩, ⟨trivial, ⟨⟨s1, h1, trivial⟩, ⟨s1, h1, trivial⟩, trivial⟩, sz ?_, ?_⟩⟩
  · show wdV (.tup [.str "number", d]) + 2 + (wdV (.tup [.str "number", d]) + 2 + 0) + 3 ≤ 100000
    rw [w1]
    omega
  · show max (dpV (.tup [.str "number", d])) (max (dpV (.tup [.str "number", d])) 0) + 1 ≤ 60
    rw [p1]
    omega
section
variable {P : Program} {w : World} {K : PySem.W.Frag} {mg : Str → Option Value} {base : Heap} {k : Nat} {f c C CM CY CN CR CV CD Pt : Addr}
theorem NInt.lst {M : Mem} {xs : List Val} : NInt K M (.lst xs) := .inl ⟨_, .lst (.self _), kit_ty (by decide +kernel)⟩
theorem shI {v : Int} (h : v.natAbs < 2 ^ 1920) : showI v := log_lt h
structure Thg (K : PySem.W.Frag) (lo hi : Int) (d : Val) : Prop where
  bad : ∀ M : Mem, Bad K M d lo (some hi)
  sh : shV d
  wd : wdV d ≤ 4000
  dp : dpV d ≤ 5
theorem Thg.int {lo hi v : Int} (h : v < lo ∨ hi < v) (h2 : v.natAbs < 2 ^ 1920) : Thg K lo hi (.int v) := ⟨fun M => .inr ⟨v, rfl, by simp [within]; omega⟩, shI h2, by show 1921 ≤ 4000; decide, by show 0 ≤ 5; decide⟩
theorem Thg.bl {lo hi : Int} {v : Bool} : Thg K lo hi (.bl v) := ⟨fun M => .inl .bl, trivial, by show 5 ≤ 4000; decide, by show 0 ≤ 5; decide⟩
theorem Thg.non {lo hi : Int} : Thg K lo hi .non := ⟨fun M => .inl .non, trivial, by show 5 ≤ 4000; decide, by show 0 ≤ 5; decide⟩
def aRfs (C CM CY Pt : Addr) : ASp := fun ds M R => ∃ (S : Sc) (cs : List Sc) (b : Nat) (pc ps : Nat → Addr) (i j at_ : Nat), ds = [sysV C CM CY S cs b pc ps, .int (at_ : Int)] ∧ M[i]? = some (ps 0, sysC S cs pc ps) ∧ M[j]? = some (Pt, .b (.tb "_law_refused.<locals>.<lambda>")) ∧ SyG S cs b ∧ at_ < cs.length ∧ R (.bl true) M
theorem b__law_refused (B : Bt mg) (mr : mg "repr" = none) (Y : SyX K mg CY) (PZ : PrZ P w K mg base C CM CY) (PT : PrT P w K mg base C CM CY) (PL : PlrS P w K mg base C CM CY CN) (LR : LErr P w K mg base CN CR CV CD) (TB : TabB base mg c Pt) : BodyT P w K mg base 9 f c n__law_refused "_law_refused" (defScope s__law_refused) (defBody s__law_refused) (aRfs C CM CY Pt) := by
  rintro A outer0 s0 H E hr ds M R ⟨S, cs, b, pc, ps, i, j, a, rfl, hi, hj, G, ha, hp⟩
  obtain ⟨hch, h1, h42, hbb, hrep, hpw⟩ := G.c
  have hG := G.m ha
  have b0 := hG.bd
  obtain ⟨fp, mt, FP, _⟩ := PL.ex
  obtain ⟨B0, hB0⟩ : ∃ B0, B0 = bdS (cs.getD a S) := ⟨_, rfl⟩
  rw [← hB0] at b0
  have thr : atI ((thrL S cs).map Val.int) (a : Int) = some (.int B0) := by
    refine atI_nat ?_
    unfold thrL
    rw [List.map_map, List.getElem?_map, List.getElem?_range ha, hB0]
    rfl
  have avT : ∀ {X : Cx} {Γ : Gam} {M : Mem} {o : Expr} {pos : Pos} {m : Nat}, SyX X.K X.mg CY → PrT X.prog X.w X.K X.mg X.base C CM CY → Rm m X.A → 3 ≤ m → aV X o Γ M (sysV C CM CY S cs b pc ps) → attributeBase o "thresholds" X.env (eval o X.env) = eval o X.env → aV X (.Attribute o "thresholds" pos) Γ M (.tup ((thrL S cs).map .int)) := fun Y PT hr hm ho hb => by
    obtain ⟨p, g, hp, F⟩ := PT.th
    exact ae_prop Y.cl hp F (hr.mono hm) ho (.im _) ⟨S, cs, b, pc, ps, rfl, h42, rfl, rfl⟩ hb
  have avZ : ∀ {X : Cx} {Γ : Gam} {M : Mem} {o : Expr} {pos : Pos} {m : Nat}, SyX X.K X.mg CY → PrZ X.prog X.w X.K X.mg X.base C CM CY → Rm m X.A → 3 ≤ m → aV X o Γ M (sysV C CM CY S cs b pc ps) → attributeBase o "size" X.env (eval o X.env) = eval o X.env → aV X (.Attribute o "size" pos) Γ M (.int (cs.length : Nat)) := fun Y PZ hr hm ho hb => by
    obtain ⟨p, g, hp, F⟩ := PZ.sz
    exact ae_prop Y.cl hp F (hr.mono hm) ho (.im _) ⟨S, cs, b, pc, ps, rfl, rfl, rfl⟩ hb
  refine as_cons (as_asg ((av_ixT (avT Y PT hr (by decide) (v_ 0) rfl) (v_ 1) thr).val (ag_name 2 q__law_refused.nd ?_)))
  refine as_cons (as_forL PassesOwn.never rfl (aj_tup ((av_tup (avs_cons (av_sub i_ i_) (avs_cons (avZ Y PZ hr (by decide) (v_ 0) rfl) (avs_cons av_bl (avs_cons n_ (avs_cons s_ (avs_cons (av_tup (avs_cons i_ avs_nil) szb) (avs_cons (av_pow i_ i_ ⟨by decide, by decide, by decide⟩) avs_nil))))))) szb).val ⟨_, rfl, ?_⟩)))
  refine ⟨fun _ Γ M' => M' = M ∧ Γ = [some (sysV C CM CY S cs b pc ps), some (.int (a : Int)), some (.int B0), none, none], ⟨_, ⟨rfl, rfl⟩, (by repeat' first | exact le_nil | refine le_skip ?_ | refine le_keep rfl ?_)⟩, ?_, ?_⟩
  · rintro t Γ M' ht ⟨rfl, rfl⟩
    obtain ⟨d, hd, hT⟩ : ∃ d, ([.int (0 - 1), .int (cs.length : Nat), .bl true, .non, .str "0", .tup [.int 0], .int ((10 : Int) ^ (30 : Int).toNat)] : List Val).getD t .non = d ∧ Thg K 0 ((cs.length : Int) - 1) d := by
      have : t = 0 ∨ t = 1 ∨ t = 2 ∨ t = 3 ∨ t = 4 ∨ t = 5 ∨ t = 6 := by
        have : t < 7 := ht
        omega
      rcases this with rfl | rfl | rfl | rfl | rfl | rfl | rfl
      · exact ⟨_, rfl, .int (by omega) (by decide +kernel)⟩
      · exact ⟨_, rfl, .int (by omega) (Nat.lt_of_le_of_lt (show _ ≤ 42 by omega) (by decide +kernel))⟩
      · exact ⟨_, rfl, .bl⟩
      · exact ⟨_, rfl, .non⟩
      · exact ⟨_, rfl, ⟨fun M => .inl .str, sh_str (by decide +kernel), by show 10 * ("0" : Str).length + 2 ≤ 4000; decide +kernel, by show 0 ≤ 5; decide⟩⟩
      · exact ⟨_, rfl, ⟨fun M => .inl .tup, ⟨shI (by decide +kernel), trivial⟩, by show 1921 + 2 + 0 + 3 ≤ 4000; decide, by show max 0 0 + 1 ≤ 5; decide⟩⟩
      · refine ⟨_, rfl, .int (.inr ?_) (by decide +kernel)⟩
        have : (42 : Int) < (10 : Int) ^ (30 : Int).toNat := by decide +kernel
        omega
    obtain ⟨r1, r2⟩ := roZ hT.sh hT.wd hT.dp
    show aG _ _ (([.int (0 - 1), .int (cs.length : Nat), .bl true, .non, .str "0", .tup [.int 0], .int ((10 : Int) ^ (30 : Int).toNat)] : List Val).getD t .non) _ _ _
    rw [hd]
    refine ag_name 3 q__law_refused.nd ?_
    refine as_cons (as_set 4 q__law_refused.nd (ae_lstC (aa_cons (ae_lam (LR.mono (show 2 ≤ 8 by decide)) hr (by decide) ⟨c, TB, rfl⟩ hj 7 (fun M2 R' PE => M2 = M' ∧ PE CN [("number", d)] M') (fun A outer s H E f c' hr' po M2 R' PE ⟨eM, hpe⟩ => ?_) (by decide) ⟨rfl, .inl ⟨rfl, _, rfl, aa_nil ⟨szb, fun q => ?_⟩⟩⟩ (L := by show lamSB (defScope s__law_refused) _ = true; decide +kernel)))))
    · subst eM
      exact ye_m Y.cl ⟨fp, mt, FP⟩ hr' (by decide) ((v_ 0).val ⟨(Ob.im _).obM rfl, aa_cons ((v_ 3).val (aa_cons ((v_ 2).val (aa_nil (ak_nil ⟨rfl, S, cs, b, pc, ps, i, d, _, rfl, hi, G, .inl ⟨hT.bad _, hpe⟩⟩)))))⟩)
    refine as_cons (as_expr (ae_append (n0 := 0) (v_ 4) rfl (ae_lam (i := j + 1) (LR.mono (show 2 ≤ 8 by decide)) hr (by decide) ⟨c, TB, rfl⟩ hj 7 (fun M2 R' PE => M2 = (q, Cell.lst [.tup [.str "number", d]]) :: M' ∧ PE CN [("number", d)] ((q, Cell.lst [.tup [.str "number", d]]) :: M')) (fun A outer s H E f c' hr' po M2 R' PE ⟨eM, hpe⟩ => ?_) (by decide) ⟨rfl, .inl ⟨rfl, _, rfl, 0, _, rfl, szl (Nat.le_of_ble_eq_true rfl), ?_⟩⟩ (L := by show lamSB (defScope s__law_refused) _ = true; decide +kernel))))
    · subst eM
      exact ye_m Y.cl ⟨fp, mt, FP⟩ hr' (by decide) ((v_ 0).val ⟨(Ob.im _).obM rfl, aa_cons ((v_ 3).val (aa_cons (n_.val (aa_nil (ak_nil ⟨rfl, S, cs, b, pc, ps, i + 1, d, _, rfl, hi, G, .inl ⟨hT.bad _, hpe⟩⟩)))))⟩)
    refine as_one (as_if (at_rneV hr mr ((v_ 4).val ⟨.lst [.tup [.str "number", d], .tup [.str "number", d]], .lst 0 rfl, r2, (av_repL (j := 2) (avs_cons (av_tup (avs_cons s_ (avs_cons (v_ 3) avs_nil)) szb) avs_nil) szb (fun _ => i_) (by decide) (by decide) (Nat.le_of_ble_eq_true rfl)).val ⟨_, .self _, rfl, nft, fun _ => as_drop (as_nil ⟨_, ⟨rfl, rfl⟩, (by repeat' first | exact le_nil | refine le_skip ?_ | refine le_keep rfl ?_)⟩)⟩⟩)))
  rintro Γ M' ⟨rfl, rfl⟩
  refine as_cons (as_forL PassesOwn.never rfl (aj_tup ((av_tup (avs_cons (av_sub (v_ 2) i_) (avs_cons (av_sub i_ i_) (avs_cons i_ (avs_cons av_bl (avs_cons n_ (avs_cons s_ (avs_cons (av_lst (avs_cons i_ avs_nil) szb) avs_nil))))))) szb).val ⟨_, rfl, ?_⟩)))
  refine ⟨fun _ Γ M'' => M'' = M' ∧ Γ = [some (sysV C CM CY S cs b pc ps), some (.int (a : Int)), some (.int B0), none, none], ⟨_, ⟨rfl, rfl⟩, (by repeat' first | exact le_nil | refine le_skip ?_ | refine le_keep rfl ?_)⟩, ?_, ?_⟩
  · rintro t Γ M'' ht ⟨rfl, rfl⟩
    obtain ⟨d, hd, hT⟩ : ∃ d, ([.int (B0 - 1), .int (0 - 1), .int 2001, .bl true, .non, .str "9", .lst [.int 9]] : List Val).getD t .non = d ∧ Thg K B0 2000 d := by
      have : t = 0 ∨ t = 1 ∨ t = 2 ∨ t = 3 ∨ t = 4 ∨ t = 5 ∨ t = 6 := by
        have : t < 7 := ht
        omega
      rcases this with rfl | rfl | rfl | rfl | rfl | rfl | rfl
      · exact ⟨_, rfl, .int (by omega) (Nat.lt_of_le_of_lt (show _ ≤ 442 by omega) (by decide +kernel))⟩
      · exact ⟨_, rfl, .int (by omega) (by decide +kernel)⟩
      · exact ⟨_, rfl, .int (by omega) (by decide +kernel)⟩
      · exact ⟨_, rfl, .bl⟩
      · exact ⟨_, rfl, .non⟩
      · exact ⟨_, rfl, ⟨fun M => .inl .str, sh_str (by decide +kernel), by show 10 * ("9" : Str).length + 2 ≤ 4000; decide +kernel, by show 0 ≤ 5; decide⟩⟩
      · exact ⟨_, rfl, ⟨fun M => .inl .lst, ⟨shI (by decide +kernel), trivial⟩, by show 1921 + 2 + 0 + 3 ≤ 4000; decide, by show max 0 0 + 1 ≤ 5; decide⟩⟩
    obtain ⟨r1, r2⟩ := roZ hT.sh hT.wd hT.dp
    show aG _ _ (([.int (B0 - 1), .int (0 - 1), .int 2001, .bl true, .non, .str "9", .lst [.int 9]] : List Val).getD t .non) _ _ _
    rw [hd]
    refine ag_name 3 q__law_refused.nd ?_
    refine as_one (as_if (at_rneV hr mr (ae_lam (LR.mono (show 2 ≤ 8 by decide)) hr (by decide) ⟨c, TB, rfl⟩ hj 7 (fun M2 R' PE => M2 = M'' ∧ PE CN [("number", d)] M'') (fun A outer s H E f c' hr' po M2 R' PE ⟨eM, hpe⟩ => ?_) (by decide) ⟨rfl, .inl ⟨rfl, _, rfl, _, .self _, r1, (av_tup (avs_cons s_ (avs_cons (v_ 3) avs_nil)) szb).val ⟨_, .self _, rfl, nft, fun _ => as_nil ⟨_, ⟨rfl, rfl⟩, (by repeat' first | exact le_nil | refine le_skip ?_ | refine le_keep rfl ?_)⟩⟩⟩⟩ (L := by show lamSB (defScope s__law_refused) _ = true; decide +kernel))))
    subst eM
    exact ye_m Y.cl ⟨fp, mt, FP⟩ hr' (by decide) ((v_ 0).val ⟨(Ob.im _).obM rfl, aa_cons ((v_ 1).val (aa_cons ((v_ 3).val (aa_nil (ak_nil ⟨rfl, S, cs, b, pc, ps, i, _, d, rfl, hi, G, .inr ⟨a, ha, rfl, .inl ⟨by rw [← hB0]; exact hT.bad _, hpe⟩⟩⟩)))))⟩)
  · rintro Γ M'' ⟨rfl, rfl⟩
    exact as_one (as_retv av_bl (.ok hp))
end
end K39
/-! Ab98: range(a, b, c) with a step of at least 1, walked and listed -/
namespace Ab
open PySem PySem.Spec PyProof.Rows L2
end Ab
namespace K39
open PySem L2 Ab GenW Sm LamX
/-! ### the law -/
def s2S : Sc := ⟨2, nf dSp, nf dLv⟩
theorem plc_s2 : plcL s2S 3 = [0, 0] := by decide +kernel
theorem ae_ifBoth {X : Cx} {Γ : Gam} {M : Mem} {P : Val → Mem → Prop} {c a b : Expr} {pos : Pos} {i j : Int} (hc : aT X c Γ M fun _ M' => M' = M) (ha : aV X a Γ M (.int i)) (hb : aV X b Γ M (.int j)) (h : ∀ n, (n = i ∨ n = j) → P (.int n) M) : aE X (.IfExp c a b pos) Γ M P :=
  ae_if (hc.mono fun _ _ e => e ▸ ⟨fun _ => ha.val (h _ (.inl rfl)), fun _ => hb.val (h _ (.inr rfl))⟩)
section
variable {P : Program} {w : World} {K : PySem.W.Frag} {mg : Str → Option Value} {base : Heap} {k : Nat} {f c C CM CY CN CR CV CD Pt : Addr}
theorem s2_lw : LwS s2S 2 dSp dLv := ⟨by decide, by decide, rfl, ⟨by decide, by decide, by decide, by decide⟩, ⟨by decide, by decide, by decide, by decide⟩⟩
theorem IsCh.zero {S : Sc} {cs : List Sc} (hS : GoodS S) (h : IsCh S cs) (h1 : 1 ≤ cs.length) : cs.getD 0 S = S := by
  obtain ⟨a1, a2, a3⟩ := h 0 h1
  exact a1.ext hS a2 (fun n => by rw [(a3 n).1, Nat.zero_add]) fun n => by rw [(a3 n).2, Nat.zero_add]
def aLawO (Pt : Addr) : ASp := fun ds M R => ∃ ns : List Int, ds = [.lst (ns.map .int)] ∧ ns.length ≤ 63 ∧ M = tbM [(Pt, "_law_refused.<locals>.<lambda>")] ∧ ∀ M', R (.bl true) M'
theorem b_law (B : Bt mg) (T : Rs K mg C) (MK : Mks P w K mg base C) (MD : MkD P w K mg base C) (Y : SyX K mg CY) (MY : MkY P w K mg base C CM CY) (PZ : PrZ P w K mg base C CM CY) (PT : PrT P w K mg base C CM CY) (PL : PlrS P w K mg base C CM CY CN) (BB : GBg5 P w K mg base) (DD : GDr5 P w K mg base) (GS : GStr P w K mg base)
    (GPR : GPrt P w K mg base C CM CY) (GRf : Gd P w K mg base 10 "_law_refused" [] fun ds _ => aRfs C CM CY Pt ds) : BodyOk P w K mg base 12 f n_law "law" (defScope s_law) (defBody s_law) (aLawO Pt) := by
  rintro cdv A outer0 s0 H E hr ds M R ⟨ns, rfl, hl, rfl, hp⟩
  have hu := hr.u64
  have avT : ∀ {X : Cx} {Γ : Gam} {M : Mem} {o : Expr} {pos : Pos} {m : Nat} {S : Sc} {cs : List Sc} {b : Nat} {pc ps : Nat → Addr}, SyX X.K X.mg CY → PrT X.prog X.w X.K X.mg X.base C CM CY → cs.length ≤ 42 → Rm m X.A → 3 ≤ m → aV X o Γ M (sysV C CM CY S cs b pc ps) → attributeBase o "thresholds" X.env (eval o X.env) = eval o X.env → aV X (.Attribute o "thresholds" pos) Γ M (.tup ((thrL S cs).map .int)) := fun Y PT h42 hr hm ho hb => by
    obtain ⟨p, g, hp, F⟩ := PT.th
    exact ae_prop Y.cl hp F (hr.mono hm) ho (.im _) ⟨_, _, _, _, _, rfl, h42, rfl, rfl⟩ hb
  have avZ : ∀ {X : Cx} {Γ : Gam} {M : Mem} {o : Expr} {pos : Pos} {m : Nat} {S : Sc} {cs : List Sc} {b : Nat} {pc ps : Nat → Addr}, SyX X.K X.mg CY → PrZ X.prog X.w X.K X.mg X.base C CM CY → Rm m X.A → 3 ≤ m → aV X o Γ M (sysV C CM CY S cs b pc ps) → attributeBase o "size" X.env (eval o X.env) = eval o X.env → aV X (.Attribute o "size" pos) Γ M (.int (cs.length : Nat)) := fun Y PZ hr hm ho hb => by
    obtain ⟨p, g, hp, F⟩ := PZ.sz
    exact ae_prop Y.cl hp F (hr.mono hm) ho (.im _) ⟨_, _, _, _, _, rfl, rfl, rfl⟩ hb
  refine as_cons (as_forW PassesOwn.never rfl (aj_range1 B.range (aE.val (av_add i_ (av_min2 B.min rfl i_ (av_len B.len (v_ 0) (.l (.self _))))) ⟨_, rfl, by omega, by omega, ?_⟩)))
  refine ⟨fun t Γ M' => M' = tbM [(Pt, "_law_refused.<locals>.<lambda>")] ∧ Γ = [some (.lst (ns.map .int)), none, none, none, none, none, none, none, none, none], ⟨_, _, ⟨rfl, rfl⟩, (by repeat' first | exact le_nil | refine le_skip ?_ | refine le_keep rfl ?_), (by repeat' first | exact List.Sublist.refl _ | exact List.sublist_append_right _ _ | apply List.Sublist.cons₂ | apply List.Sublist.cons)⟩, ?_, ?_⟩
  · rintro t Γ M' ht ⟨rfl, rfl⟩
    have ht5 : t < 1000 := by
      rw [List.length_map] at ht
      omega
    refine ag_name 1 q_law.nd ?_
    refine as_cons (as_set 2 q_law.nd (ae_g BB hr (by decide) (aa_cons ((v_ 0).val (aa_cons ((v_ 1).val (aa_nil (ak_nil ⟨rfl, ns, 0 + (t : Int), rfl, by omega, by omega, fun p => ?_⟩))))))))
    have hi : ((p, st5 p) :: tbM [(Pt, "_law_refused.<locals>.<lambda>")])[0]? = some (p, st5 p) := rfl
    refine as_cons (as_par3 3 4 5 q_law.nd rfl (aa_cons (ae_bin (i_.val (ae_dr5 DD hr (by decide) (v_ 2) i_ hi (by decide) (by decide) fun x x0 x1 => bv_add (aa_cons (ae_g GS hr (by decide) (aa_cons ((v_ 2).val (aa_cons (i_.val (aa_nil (ak_nil ⟨rfl, p, 0, 0, rfl, hi, fun s hs => aa_cons (ae_g GS hr (by decide) (aa_cons ((v_ 2).val (aa_cons (i_.val (aa_nil (ak_nil ⟨rfl, p, 0, 1, rfl, hi, fun l hl1 => aa_nil ⟨_, _, _, rfl, ?_⟩⟩)))))))⟩)))))))))))))
    obtain ⟨k, hk, k2, k9⟩ : ∃ k : Nat, 2 + x = (k : Int) ∧ 2 ≤ k ∧ k ≤ 9 := ⟨(2 + x).toNat, by omega, by omega, by omega⟩
    rw [hk]
    have L : LwS ⟨(k : Int), nf s, nf l⟩ k s l := ⟨k2, k9, rfl, hs, hl1⟩
    have l0 := (hl1.item 0).1
    refine as_cons (as_set 6 q_law.nd (ae_system Y MY hr (by decide) (ae_sch T MK hr (by decide) ((v_ 3).val ((v_ 4).val ((v_ 5).val ⟨(k : Int), s, l, rfl, rfl, rfl, by omega, by omega, LwS.lim hs (by decide) (by decide), LwS.lim hl1 (by decide) (by decide), by omega, ⟨(k : Int), nf s, nf l⟩, rfl, L.sm, fun cs b pc ps hc => ?_⟩))))))
    generalize hS : (⟨(k : Int), nf s, nf l⟩ : Sc) = S at *
    have G : SyG S cs b := ⟨L.sm, hc⟩
    obtain ⟨hch, h1, h42, hbb, hrep, hpw⟩ := hc
    have hi1 : ((ps 0, sysC S cs pc ps) :: (p, st5 p) :: tbM [(Pt, "_law_refused.<locals>.<lambda>")])[1]? = some (p, st5 p) := rfl
    have hb1 : ((ps 0, sysC S cs pc ps) :: (p, st5 p) :: tbM [(Pt, "_law_refused.<locals>.<lambda>")])[0]? = some (ps 0, sysC S cs pc ps) := rfl
    have hj1 : ((ps 0, sysC S cs pc ps) :: (p, st5 p) :: tbM [(Pt, "_law_refused.<locals>.<lambda>")])[2]? = some (Pt, .b (.tb "_law_refused.<locals>.<lambda>")) := rfl
    generalize hMx : ((ps 0, sysC S cs pc ps) :: (p, st5 p) :: tbM [(Pt, "_law_refused.<locals>.<lambda>")] : Mem) = Mx at hi1 hb1 hj1
    refine as_cons (as_forL PassesOwn.never rfl (aj_range1 B.range (i_.val ⟨_, rfl, by decide, by decide, ?_⟩)))
    refine ⟨fun _ Γ M' => M' = Mx ∧ Γ = [some (.lst (ns.map .int)), some (.int (0 + (t : Int))), some (.ptr p), some (.int (k : Int)), some (stV s), some (stV l), some (sysV C CM CY S cs b pc ps), none, none, none], ⟨_, ⟨rfl, rfl⟩, (by repeat' first | exact le_nil | refine le_skip ?_ | refine le_keep rfl ?_)⟩, ?_, ?_⟩
    · rintro t2 Γ M' ht2 ⟨rfl, rfl⟩
      refine ag_name 7 q_law.nd ?_
      refine as_cons (as_set 8 q_law.nd (ae_dr5 DD hr (by decide) (v_ 2) (avZ Y PZ hr (by decide) (v_ 6) rfl) hi1 (by omega) (by omega) fun a a0 a1 => ?_))
      obtain ⟨an, rfl⟩ : ∃ an : Nat, a = (an : Int) := ⟨a.toNat, by omega⟩
      have han : an < cs.length := by omega
      have hG := G.m han
      have b0 := hG.bd
      have thr : atI ((thrL S cs).map Val.int) (an : Int) = some (.int (bdS (cs.getD an S))) := by
        refine atI_nat ?_
        unfold thrL
        rw [List.map_map, List.getElem?_map, List.getElem?_range han]
        rfl
      refine as_cons (as_set 9 q_law.nd (ae_bin ((av_ixT (avT Y PT h42 hr (by decide) (v_ 6) rfl) (v_ 8) thr).val (ae_bin (ae_dr5 DD hr (by decide) (v_ 2) i_ hi1 (by decide) (by decide) fun y y0 y1 => ae_dr5 DD hr (by decide) (v_ 2) i_ hi1 (by decide) (by decide) fun z z0 z1 => bv_mulI (.inl ⟨by omega, by omega⟩) (bv_add ?_))))))
      have mz := Int.mul_le_mul (show y ≤ 3 by omega) (show z ≤ 19 by omega) z0 (by decide)
      have mz0 := Int.mul_nonneg y0 z0
      obtain ⟨n, hn⟩ : ∃ n : Nat, bdS (cs.getD an S) + y * z = (n : Int) := ⟨(bdS (cs.getD an S) + y * z).toNat, by omega⟩
      rw [hn]
      refine as_one (as_if (at_not (at_val (ae_g GPR hr (by decide) (aa_cons ((v_ 6).val (aa_cons ((v_ 3).val (aa_cons ((v_ 4).val (aa_cons ((v_ 5).val (aa_cons ((v_ 8).val (aa_cons ((v_ 9).val (aa_nil (ak_nil ⟨rfl, S, cs, b, pc, ps, 0, k, an, n, s, l, rfl, hb1, G, L, han, by omega, by omega, true, rfl, nft, fun _ => as_nil ⟨_, ⟨rfl, rfl⟩, (by repeat' first | exact le_nil | refine le_skip ?_ | refine le_keep rfl ?_)⟩⟩))))))))))))))))))
    · rintro Γ M' ⟨rfl, rfl⟩
      refine as_one (as_if (at_not (at_val (ae_g GRf hr (by decide) (aa_cons ((v_ 6).val (aa_cons (ae_dr5 DD hr (by decide) (v_ 2) (avZ Y PZ hr (by decide) (v_ 6) rfl) hi1 (by omega) (by omega) fun a a0 a1 => aa_nil (ak_nil ⟨rfl, S, cs, b, pc, ps, 0, 2, a.toNat, by rw [show ((a.toNat : Nat) : Int) = a by omega], hb1, hj1, G, by omega, true, rfl, nft, fun _ => as_nil ⟨_, tbM [(Pt, "_law_refused.<locals>.<lambda>")], ⟨rfl, rfl⟩, (by repeat' first | exact le_nil | refine le_skip ?_ | refine le_keep rfl ?_), ?_⟩⟩)))))))))
      rw [← hMx]
      exact .cons _ (.cons _ (.refl _))
  rintro Γ M' ⟨rfl, rfl⟩
  refine as_cons (as_set 6 q_law.nd (ae_system Y MY hr (by decide) (ae_schD T MD hr (by decide) (i_.val ⟨2, rfl, by decide, by decide, s2S, rfl, s2_lw.sm, fun cs b pc ps hc => ?_⟩))))
  have G : SyG s2S cs b := ⟨s2_lw.sm, hc⟩
  obtain ⟨hch, h1, h42, hbb, hrep, hpw⟩ := hc
  have e0 : cs.getD 0 s2S = s2S := IsCh.zero s2_lw.sm.g.g hch h1
  have eb : bdS s2S = 3 := by decide +kernel
  refine as_cons (as_if (at_not (at_val (ae_g GPR hr (by decide) (aa_cons ((v_ 6).val (aa_cons (i_.val (aa_cons ((av_tup (avs_cons (av_tup (avs_cons i_ avs_nil) szb) (avs_cons (av_tup (avs_cons i_ avs_nil) szb) avs_nil)) szb).val (aa_cons ((av_tup (avs_cons (av_tup avs_nil szb) (avs_cons (av_tup (avs_cons i_ avs_nil) szb) avs_nil)) szb).val (aa_cons (i_.val (aa_cons (ae_ifBoth (at_cmp (v_ 0) (av_lst avs_nil szb) (cmp_eqLI (ns := ns) (ms := []) (.self _) (.self _) hu) rfl) i_ i_ fun n hn => aa_nil (ak_nil ⟨rfl, s2S, cs, b, pc, ps, 0, 2, 0, n.toNat, dSp, dLv, ?_, rfl, G, s2_lw, h1, ?_, ?_, true, rfl, nft, fun _ => as_nil ?_⟩)))))))))))))))))
  · rw [show ((n.toNat : Nat) : Int) = n by omega]
    rfl
  · rw [e0, eb]
    omega
  · omega
  refine as_one (as_ret (ae_cmpM (ae_m2 Y.cl PL.x hr (by decide) ((v_ 6).val ⟨(Ob.im _).obM rfl, i_.val (i_.val ⟨s2S, cs, b, pc, ps, 0, .int 0, .int 3, rfl, rfl, G, .inr ⟨0, h1, rfl, .inr ⟨3, rfl, by rw [e0, eb]; decide, by decide, ?_⟩⟩⟩)⟩))))
  rw [e0, plc_s2]
  exact (av_tup (avs_cons i_ (avs_cons i_ avs_nil)) szb).val ⟨_, cmp_eqTI (ns := [0, 0]) (ms := [0, 0]) hu, by rw [decide_eq_true rfl]; exact .ok (hp _)⟩
end
end K39
namespace K39
open PySem L2 Ab LamX
theorem gd_pos {P : Program} {w : World} {K : PySem.W.Frag} {mg : Str → Option Value} {base : Heap} {x x' qual : Str} {params : Arguments} {body : List Stmt} {sc : Scope} {kws : List (Str × V)} {N ps : List Str} {k : Nat} {s0 : ASp} {f : Addr} {fd : FuncData} (F : FunD K x qual params body sc [] kws f fd) (S : FnScope N ps sc)
    (h : ∀ (kV doc pm : Value) (an : Option Addr) (cdv ct : Value) (us : List Value), us.length = ps.length → bindArgs (PySem.W.fnOf x qual params body sc .none kV doc pm an cdv ct) ⟨us, []⟩ = pure (ps.zip us))
    (len : ∀ ds M R, s0 ds M R → ds.length = ps.length) (hb : BodyOk P w K mg base k f N qual sc body s0) (hm : mg x' = some (.ref f)) : Gd P w K mg base (k + 1) x' [] (fun ds _ => s0 ds) := ⟨⟨f, fnx_pos' F S h len hb, hm, F.kp⟩⟩
theorem allX {l : PySem.W.OpenLaw} {w : World} {K : PySem.W.Frag} {h : Heap} {mg : Str → Option Value} {fa : Addr} (X : K.In h) (G : h.Ns mainGlobals mg) (hfa : mg "law" = some (.ref fa)) (own : ∀ x ∈ (["_law_refused"] : List Str), ∀ f, mg x = some (.ref f) → OwnTab K f h)
    {tt0 : Tok}
    {tt1 : Tok}
    {tt2 : Tok}
    {tt3 : Tok}
    {C : Addr}
    {D0 : Addr} {w1 w2 : Value}
    {fx1 : Addr} {odx1 anx1 : Option Addr} {slx1 : Array (Option Value)} {ocx1 dcx1 pmx1 cdx1 ctx1 : Value}
    {T2 : Addr} {tc2 : Value} {td2 : Option Addr} {tsl2 : Array (Option Value)} {k02 : Nat}
    {fx2 : Addr} {odx2 anx2 : Option Addr} {slx2 : Array (Option Value)} {ocx2 kVx2 dcx2 pmx2 cdx2 ctx2 : Value}
    {fx3 : Addr} {odx3 anx3 : Option Addr} {slx3 : Array (Option Value)} {ocx3 kVx3 dcx3 pmx3 cdx3 ctx3 : Value}
    {fx4 : Addr} {odx4 anx4 : Option Addr} {slx4 : Array (Option Value)} {ocx4 kVx4 dcx4 pmx4 cdx4 ctx4 : Value}
    {fx5 : Addr} {odx5 anx5 : Option Addr} {slx5 : Array (Option Value)} {ocx5 kVx5 dcx5 pmx5 cdx5 ctx5 : Value}
    {fx6 : Addr} {odx6 anx6 : Option Addr} {slx6 : Array (Option Value)} {ocx6 kVx6 dcx6 pmx6 cdx6 ctx6 : Value}
    {fx7 : Addr} {odx7 anx7 : Option Addr} {slx7 : Array (Option Value)} {ocx7 kVx7 dcx7 pmx7 cdx7 ctx7 : Value}
    {fx8 : Addr} {odx8 anx8 : Option Addr} {slx8 : Array (Option Value)} {ocx8 kVx8 dcx8 pmx8 cdx8 ctx8 : Value}
    {fx9 : Addr} {odx9 anx9 : Option Addr} {slx9 : Array (Option Value)} {ocx9 kVx9 dcx9 pmx9 cdx9 ctx9 : Value}
    {pSx9 : Addr} {rSx9 : List Value}
    {Dsi : Addr}
    {fx10 : Addr} {odx10 anx10 : Option Addr} {slx10 : Array (Option Value)} {ocx10 dcx10 pmx10 cdx10 ctx10 : Value}
    {wT1 : Addr} {wo1 : Option Addr} {wn1 : Nat} {ws1 : Array (Option Value)}
    {wk5 : Tok}
    {wT3 : Addr} {wo3 : Option Addr} {wn3 : Nat} {ws3 : Array (Option Value)}
    {wk6 : Tok}
    {wT4 : Addr} {wo4 : Option Addr} {wn4 : Nat} {ws4 : Array (Option Value)}
    {wT2 : Addr} {wo2 : Option Addr} {wn2 : Nat} {ws2 : Array (Option Value)}
    {wT7 : Addr} {wo7 : Option Addr} {wn7 : Nat} {ws7 : Array (Option Value)}
    {wk9 : Tok}
    {wT8 : Addr} {wo8 : Option Addr} {wn8 : Nat} {ws8 : Array (Option Value)}
    {fx11 : Addr} {odx11 anx11 : Option Addr} {slx11 : Array (Option Value)} {ocx11 kVx11 dcx11 pmx11 cdx11 ctx11 : Value}
    {fx12 : Addr} {odx12 anx12 : Option Addr} {slx12 : Array (Option Value)} {ocx12 kVx12 dcx12 pmx12 cdx12 ctx12 : Value}
    {fx13 : Addr} {odx13 anx13 : Option Addr} {slx13 : Array (Option Value)} {ocx13 kVx13 dcx13 pmx13 cdx13 ctx13 : Value}
    {fx14 : Addr} {odx14 anx14 : Option Addr} {slx14 : Array (Option Value)} {ocx14 kVx14 dcx14 pmx14 cdx14 ctx14 : Value}
    {fx15 : Addr} {odx15 anx15 : Option Addr} {slx15 : Array (Option Value)} {ocx15 kVx15 dcx15 pmx15 cdx15 ctx15 : Value}
    {pNx15 : Addr} {rNx15 : List Value}
    {fx16 : Addr} {odx16 anx16 : Option Addr} {slx16 : Array (Option Value)} {ocx16 kVx16 dcx16 pmx16 cdx16 ctx16 : Value}
    {pNx16 : Addr} {rNx16 : List Value}
    {fx17 : Addr} {odx17 anx17 : Option Addr} {slx17 : Array (Option Value)} {ocx17 kVx17 dcx17 pmx17 cdx17 ctx17 : Value}
    {pNx17 : Addr} {rNx17 : List Value}
    {T18 : Addr} {tc18 : Value} {td18 : Option Addr} {tsl18 : Array (Option Value)} {k018 : Nat} {tk18 : Tok}
    {fx18 : Addr} {odx18 anx18 : Option Addr} {slx18 : Array (Option Value)} {ocx18 kVx18 dcx18 pmx18 cdx18 ctx18 : Value}
    {BScheduleError : Addr}
    {EInvalidNumber : Addr}
    {fx19 : Addr} {odx19 anx19 : Option Addr} {slx19 : Array (Option Value)} {ocx19 kVx19 dcx19 pmx19 cdx19 ctx19 : Value}
    {EInvalidRecurrence : Addr}
    {fx20 : Addr} {odx20 anx20 : Option Addr} {slx20 : Array (Option Value)} {ocx20 kVx20 dcx20 pmx20 cdx20 ctx20 : Value}
    {EInvalidValues : Addr}
    {fx21 : Addr} {odx21 anx21 : Option Addr} {slx21 : Array (Option Value)} {ocx21 kVx21 dcx21 pmx21 cdx21 ctx21 : Value}
    {BStateError : Addr}
    {EDead : Addr}
    {fx22 : Addr} {odx22 anx22 : Option Addr} {slx22 : Array (Option Value)} {ocx22 kVx22 dcx22 pmx22 cdx22 ctx22 : Value}
    {fx23 : Addr} {odx23 anx23 : Option Addr} {slx23 : Array (Option Value)} {ocx23 kVx23 dcx23 pmx23 cdx23 ctx23 : Value}
    {Dw : Addr} {ww1 ww2 : Value}
    {fx24 : Addr} {odx24 anx24 : Option Addr} {slx24 : Array (Option Value)} {ocx24 dcx24 pmx24 cdx24 ctx24 : Value}
    {fx25 : Addr} {odx25 anx25 : Option Addr} {slx25 : Array (Option Value)} {ocx25 kVx25 dcx25 pmx25 cdx25 ctx25 : Value}
    {fx26 : Addr} {odx26 anx26 : Option Addr} {slx26 : Array (Option Value)} {ocx26 kVx26 dcx26 pmx26 cdx26 ctx26 : Value}
    {CM : Addr}
    {fx27 : Addr} {odx27 anx27 : Option Addr} {slx27 : Array (Option Value)} {ocx27 kVx27 dcx27 pmx27 cdx27 ctx27 : Value}
    {fx28 : Addr} {odx28 anx28 : Option Addr} {slx28 : Array (Option Value)} {ocx28 kVx28 dcx28 pmx28 cdx28 ctx28 : Value}
    {fx29 : Addr} {odx29 anx29 : Option Addr} {slx29 : Array (Option Value)} {ocx29 kVx29 dcx29 pmx29 cdx29 ctx29 : Value}
    {fx30 : Addr} {odx30 anx30 : Option Addr} {slx30 : Array (Option Value)} {ocx30 kVx30 dcx30 pmx30 cdx30 ctx30 : Value}
    {fx31 : Addr} {odx31 anx31 : Option Addr} {slx31 : Array (Option Value)} {ocx31 kVx31 dcx31 pmx31 cdx31 ctx31 : Value}
    {CY : Addr}
    {tyS tyT : Tok}
    {fx32 : Addr} {odx32 anx32 : Option Addr} {slx32 : Array (Option Value)} {ocx32 kVx32 dcx32 pmx32 cdx32 ctx32 : Value}
    {fx33 : Addr} {odx33 anx33 : Option Addr} {slx33 : Array (Option Value)} {ocx33 kVx33 dcx33 pmx33 cdx33 ctx33 : Value}
    {pNx33 : Addr} {rNx33 : List Value}
    {fx34 : Addr} {odx34 anx34 : Option Addr} {slx34 : Array (Option Value)} {ocx34 kVx34 dcx34 pmx34 cdx34 ctx34 : Value}
    {pNx34 : Addr} {rNx34 : List Value}
    {fx35 : Addr} {odx35 anx35 : Option Addr} {slx35 : Array (Option Value)} {ocx35 kVx35 dcx35 pmx35 cdx35 ctx35 : Value}
    {fx36 : Addr} {odx36 anx36 : Option Addr} {slx36 : Array (Option Value)} {ocx36 kVx36 dcx36 pmx36 cdx36 ctx36 : Value}
    {fx37 : Addr} {odx37 anx37 : Option Addr} {slx37 : Array (Option Value)} {ocx37 kVx37 dcx37 pmx37 cdx37 ctx37 : Value}
    {fx38 : Addr} {odx38 anx38 : Option Addr} {slx38 : Array (Option Value)} {ocx38 kVx38 dcx38 pmx38 cdx38 ctx38 : Value}
    {fx39 : Addr} {odx39 anx39 : Option Addr} {slx39 : Array (Option Value)} {ocx39 kVx39 dcx39 pmx39 cdx39 ctx39 : Value}
    {fx40 : Addr} {odx40 anx40 : Option Addr} {slx40 : Array (Option Value)} {ocx40 kVx40 dcx40 pmx40 cdx40 ctx40 : Value}
    {fx41 : Addr} {odx41 anx41 : Option Addr} {slx41 : Array (Option Value)} {ocx41 kVx41 dcx41 pmx41 cdx41 ctx41 : Value}
    {fx42 : Addr} {odx42 anx42 : Option Addr} {slx42 : Array (Option Value)} {ocx42 kVx42 dcx42 pmx42 cdx42 ctx42 : Value}
    {fx43 : Addr} {odx43 anx43 : Option Addr} {slx43 : Array (Option Value)} {ocx43 kVx43 dcx43 pmx43 cdx43 ctx43 : Value}
    {fx44 : Addr} {odx44 anx44 : Option Addr} {slx44 : Array (Option Value)} {ocx44 kVx44 dcx44 pmx44 cdx44 ctx44 : Value}
    {fx45 : Addr} {odx45 anx45 : Option Addr} {slx45 : Array (Option Value)} {ocx45 kVx45 dcx45 pmx45 cdx45 ctx45 : Value}
    {fx46 cdax46 Ptx46 : Addr} {odx46 anx46 cddx46 : Option Addr} {slx46 ccsx46 : Array (Option Value)} {ocx46 kVx46 dcx46 pmx46 ctx46 cclx46 : Value} {vsx46 : Array Value}
    {fx47 : Addr} {odx47 anx47 : Option Addr} {slx47 : Array (Option Value)} {ocx47 kVx47 dcx47 pmx47 cdx47 ctx47 : Value}
    (u0 : PySem.W.nsIn K mainGlobals "FRONT_LIMIT" = some (some (.int 12 tt0)))
    (u1 : PySem.W.nsIn K mainGlobals "LOOP_LIMIT" = some (some (.int 6 tt1)))
    (u2 : PySem.W.nsIn K mainGlobals "LABEL_LIMIT" = some (some (.int 1000000 tt2)))
    (u3 : PySem.W.nsIn K mainGlobals "ARITY_LIMIT" = some (some (.int 9 tt3)))
    (aC : PySem.W.nsIn K mainGlobals "Schedule" = some (some (.ref C)))
    (pgC : PySem.W.plainGet K C Str.empty = true)
    (hdC : PySem.W.hasDictIn K C = true)
    (poC : PySem.W.plainOver K C = true)
    (saC : PySem.W.findIn K (.ref C) "__setattr__" = some (some (.builtin "object.__setattr__")))
    (mkC : PySem.W.makesIn K C = true)
    (kcC : PySem.W.keepIn K (.ref C) = true)
    (nC0 : PySem.W.findIn K (.ref C) "own_arity" = some none)
    (nC1 : PySem.W.findIn K (.ref C) "own_spine" = some none)
    (nC2 : PySem.W.findIn K (.ref C) "own_levels" = some none)
    (e1C : PySem.W.findIn K (.ref C) "__class__" = some (some (.builtin "object.__class__")))
    (e2C : PySem.W.specialIn K (.builtin "object.__class__") "__get__" = some (some (.builtin "getset_descriptor.__get__")))
    (e3C : PySem.W.takesIn K (.builtin "object.__class__") = some true)
    (e4C : PySem.W.mroIn K C (.type "object") = some true)
    (e6C : PySem.W.findIn K (.ref C) "__ne__" = some (some (.builtin "object.__ne__")))
    (e7C : PySem.W.subIn K (.ref C) (.type "object") = some true)
    (ax1 : PySem.W.nsIn K mainGlobals "is_integer" = some (some (.ref fx1)))
    (lx1 : K.lookup fx1 = some ⟨ocx1, odx1, .func (PySem.W.fnOf "is_integer" "is_integer" (defArgs s_is_integer) (defBody s_is_integer) (defScope s_is_integer) .none (.ref D0) dcx1 pmx1 anx1 cdx1 ctx1), slx1⟩)
    (cx1 : PySem.W.codeIn K cdx1 "is_integer" = true)
    (kx1 : PySem.W.keepIn K (.ref fx1) = true)
    (d1 : PySem.W.nsIn K D0 "low" = some (some w1))
    (d2 : PySem.W.nsIn K D0 "high" = some (some w2))
    (ax2 : PySem.W.nsIn K mainGlobals "check_integer" = some (some (.ref fx2)))
    (lx2 : K.lookup fx2 = some ⟨ocx2, odx2, .func (PySem.W.fnOf "check_integer" "check_integer" (defArgs s_check_integer) (defBody s_check_integer) (defScope s_check_integer) (.ref T2) kVx2 dcx2 pmx2 anx2 cdx2 ctx2), slx2⟩)
    (cx2 : PySem.W.codeIn K cdx2 "check_integer" = true)
    (kx2 : PySem.W.keepIn K (.ref fx2) = true)
    (dx2 : K.lookup T2 = some ⟨tc2, td2, .seq #[.none] k02, tsl2⟩)
    (ax3 : PySem.W.nsIn K mainGlobals "are_items" = some (some (.ref fx3)))
    (lx3 : K.lookup fx3 = some ⟨ocx3, odx3, .func (PySem.W.fnOf "are_items" "are_items" (defArgs s_are_items) (defBody s_are_items) (defScope s_are_items) .none kVx3 dcx3 pmx3 anx3 cdx3 ctx3), slx3⟩)
    (cx3 : PySem.W.codeIn K cdx3 "are_items" = true)
    (kx3 : PySem.W.keepIn K (.ref fx3) = true)
    (ax4 : PySem.W.nsIn K mainGlobals "shortest_loop" = some (some (.ref fx4)))
    (lx4 : K.lookup fx4 = some ⟨ocx4, odx4, .func (PySem.W.fnOf "shortest_loop" "shortest_loop" (defArgs s_shortest_loop) (defBody s_shortest_loop) (defScope s_shortest_loop) .none kVx4 dcx4 pmx4 anx4 cdx4 ctx4), slx4⟩)
    (cx4 : PySem.W.codeIn K cdx4 "shortest_loop" = true)
    (kx4 : PySem.W.keepIn K (.ref fx4) = true)
    (ax5 : PySem.W.nsIn K mainGlobals "normal_form" = some (some (.ref fx5)))
    (lx5 : K.lookup fx5 = some ⟨ocx5, odx5, .func (PySem.W.fnOf "normal_form" "normal_form" (defArgs s_normal_form) (defBody s_normal_form) (defScope s_normal_form) .none kVx5 dcx5 pmx5 anx5 cdx5 ctx5), slx5⟩)
    (cx5 : PySem.W.codeIn K cdx5 "normal_form" = true)
    (kx5 : PySem.W.keepIn K (.ref fx5) = true)
    (ax6 : PySem.W.nsIn K mainGlobals "stream_item" = some (some (.ref fx6)))
    (lx6 : K.lookup fx6 = some ⟨ocx6, odx6, .func (PySem.W.fnOf "stream_item" "stream_item" (defArgs s_stream_item) (defBody s_stream_item) (defScope s_stream_item) .none kVx6 dcx6 pmx6 anx6 cdx6 ctx6), slx6⟩)
    (cx6 : PySem.W.codeIn K cdx6 "stream_item" = true)
    (kx6 : PySem.W.keepIn K (.ref fx6) = true)
    (ax7 : PySem.W.nsIn K mainGlobals "stream_without" = some (some (.ref fx7)))
    (lx7 : K.lookup fx7 = some ⟨ocx7, odx7, .func (PySem.W.fnOf "stream_without" "stream_without" (defArgs s_stream_without) (defBody s_stream_without) (defScope s_stream_without) .none kVx7 dcx7 pmx7 anx7 cdx7 ctx7), slx7⟩)
    (cx7 : PySem.W.codeIn K cdx7 "stream_without" = true)
    (kx7 : PySem.W.keepIn K (.ref fx7) = true)
    (ax8 : PySem.W.nsIn K mainGlobals "checked_stream" = some (some (.ref fx8)))
    (lx8 : K.lookup fx8 = some ⟨ocx8, odx8, .func (PySem.W.fnOf "checked_stream" "checked_stream" (defArgs s_checked_stream) (defBody s_checked_stream) (defScope s_checked_stream) .none kVx8 dcx8 pmx8 anx8 cdx8 ctx8), slx8⟩)
    (cx8 : PySem.W.codeIn K cdx8 "checked_stream" = true)
    (kx8 : PySem.W.keepIn K (.ref fx8) = true)
    (rd : PySem.W.readsIn K C (.type "type") = true)
    (ga : PySem.W.specialIn K (.ref C) "__getattribute__" = some (some (.builtin "type.__getattribute__")))
    (ax9 : PySem.W.findCls K (.ref C) (.type "type") "is_stream" = some (.get (.builtin "staticmethod.__get__") (.ref pSx9) .none (.ref C)))
    (bx9 : PySem.W.recIn K pSx9 "staticmethod" = some (.ref fx9 :: rSx9))
    (lx9 : K.lookup fx9 = some ⟨ocx9, odx9, .func (PySem.W.fnOf "is_stream" "Schedule.is_stream" (defArgs c_Schedule_is_stream) (defBody c_Schedule_is_stream) (defScope c_Schedule_is_stream) .none kVx9 dcx9 pmx9 anx9 cdx9 ctx9), slx9⟩)
    (cx9 : PySem.W.codeIn K cdx9 "Schedule.is_stream" = true)
    (kx9 : PySem.W.keepIn K (.ref fx9) = true)
    (ax10 : PySem.W.findIn K (.ref C) "__init__" = some (some (.ref fx10)))
    (ix10 : PySem.W.isFn K (.ref fx10) = true)
    (lx10 : K.lookup fx10 = some ⟨ocx10, odx10, .func (PySem.W.fnOf "__init__" "Schedule.__init__" (defArgs c_Schedule___init__) (defBody c_Schedule___init__) (defScope c_Schedule___init__) .none (.ref Dsi) dcx10 pmx10 anx10 cdx10 ctx10), slx10⟩)
    (cx10 : PySem.W.codeIn K cdx10 "Schedule.__init__" = true)
    (kx10 : PySem.W.keepIn K (.ref fx10) = true)
    (dsi1 : PySem.W.nsIn K Dsi "spine" = some (some (.ref wT1)))
    (dsi2 : PySem.W.nsIn K Dsi "levels" = some (some (.ref wT2)))
    (wl1 : K.lookup wT1 = some ⟨.type "tuple", wo1, .seq (List.toArray [(.ref wT3), (.ref wT4)]) wn1, ws1⟩)
    (wl3 : K.lookup wT3 = some ⟨.type "tuple", wo3, .seq (List.toArray [(.int 1 wk5)]) wn3, ws3⟩)
    (wl4 : K.lookup wT4 = some ⟨.type "tuple", wo4, .seq (List.toArray [(.int 0 wk6)]) wn4, ws4⟩)
    (wl2 : K.lookup wT2 = some ⟨.type "tuple", wo2, .seq (List.toArray [(.ref wT7), (.ref wT8)]) wn2, ws2⟩)
    (wl7 : K.lookup wT7 = some ⟨.type "tuple", wo7, .seq (List.toArray []) wn7, ws7⟩)
    (wl8 : K.lookup wT8 = some ⟨.type "tuple", wo8, .seq (List.toArray [(.int 1 wk9)]) wn8, ws8⟩)
    (ax11 : PySem.W.nsIn K mainGlobals "made_schedule" = some (some (.ref fx11)))
    (lx11 : K.lookup fx11 = some ⟨ocx11, odx11, .func (PySem.W.fnOf "made_schedule" "made_schedule" (defArgs s_made_schedule) (defBody s_made_schedule) (defScope s_made_schedule) .none kVx11 dcx11 pmx11 anx11 cdx11 ctx11), slx11⟩)
    (cx11 : PySem.W.codeIn K cdx11 "made_schedule" = true)
    (kx11 : PySem.W.keepIn K (.ref fx11) = true)
    (ax12 : PySem.W.findIn K (.ref C) "spine_at" = some (some (.ref fx12)))
    (ix12 : PySem.W.isFn K (.ref fx12) = true)
    (lx12 : K.lookup fx12 = some ⟨ocx12, odx12, .func (PySem.W.fnOf "spine_at" "Schedule.spine_at" (defArgs c_Schedule_spine_at) (defBody c_Schedule_spine_at) (defScope c_Schedule_spine_at) .none kVx12 dcx12 pmx12 anx12 cdx12 ctx12), slx12⟩)
    (cx12 : PySem.W.codeIn K cdx12 "Schedule.spine_at" = true)
    (kx12 : PySem.W.keepIn K (.ref fx12) = true)
    (ax13 : PySem.W.findIn K (.ref C) "level_at" = some (some (.ref fx13)))
    (ix13 : PySem.W.isFn K (.ref fx13) = true)
    (lx13 : K.lookup fx13 = some ⟨ocx13, odx13, .func (PySem.W.fnOf "level_at" "Schedule.level_at" (defArgs c_Schedule_level_at) (defBody c_Schedule_level_at) (defScope c_Schedule_level_at) .none kVx13 dcx13 pmx13 anx13 cdx13 ctx13), slx13⟩)
    (cx13 : PySem.W.codeIn K cdx13 "Schedule.level_at" = true)
    (kx13 : PySem.W.keepIn K (.ref fx13) = true)
    (ax14 : PySem.W.findIn K (.ref C) "__eq__" = some (some (.ref fx14)))
    (ix14 : PySem.W.isFn K (.ref fx14) = true)
    (lx14 : K.lookup fx14 = some ⟨ocx14, odx14, .func (PySem.W.fnOf "__eq__" "Schedule.__eq__" (defArgs c_Schedule___eq__) (defBody c_Schedule___eq__) (defScope c_Schedule___eq__) .none kVx14 dcx14 pmx14 anx14 cdx14 ctx14), slx14⟩)
    (cx14 : PySem.W.codeIn K cdx14 "Schedule.__eq__" = true)
    (kx14 : PySem.W.keepIn K (.ref fx14) = true)
    (ax15 : PySem.W.findIn K (.ref C) "arity" = some (some (.ref pNx15)))
    (gx15 : PySem.W.specialIn K (.ref pNx15) "__get__" = some (some (.builtin "property.__get__")))
    (tx15 : PySem.W.takesIn K (.ref pNx15) = some true)
    (bx15 : PySem.W.recIn K pNx15 "property" = some (.ref fx15 :: rNx15))
    (lx15 : K.lookup fx15 = some ⟨ocx15, odx15, .func (PySem.W.fnOf "arity" "Schedule.arity" (defArgs c_Schedule_arity) (defBody c_Schedule_arity) (defScope c_Schedule_arity) .none kVx15 dcx15 pmx15 anx15 cdx15 ctx15), slx15⟩)
    (cx15 : PySem.W.codeIn K cdx15 "Schedule.arity" = true)
    (kx15 : PySem.W.keepIn K (.ref fx15) = true)
    (ax16 : PySem.W.findIn K (.ref C) "spine" = some (some (.ref pNx16)))
    (gx16 : PySem.W.specialIn K (.ref pNx16) "__get__" = some (some (.builtin "property.__get__")))
    (tx16 : PySem.W.takesIn K (.ref pNx16) = some true)
    (bx16 : PySem.W.recIn K pNx16 "property" = some (.ref fx16 :: rNx16))
    (lx16 : K.lookup fx16 = some ⟨ocx16, odx16, .func (PySem.W.fnOf "spine" "Schedule.spine" (defArgs c_Schedule_spine) (defBody c_Schedule_spine) (defScope c_Schedule_spine) .none kVx16 dcx16 pmx16 anx16 cdx16 ctx16), slx16⟩)
    (cx16 : PySem.W.codeIn K cdx16 "Schedule.spine" = true)
    (kx16 : PySem.W.keepIn K (.ref fx16) = true)
    (ax17 : PySem.W.findIn K (.ref C) "levels" = some (some (.ref pNx17)))
    (gx17 : PySem.W.specialIn K (.ref pNx17) "__get__" = some (some (.builtin "property.__get__")))
    (tx17 : PySem.W.takesIn K (.ref pNx17) = some true)
    (bx17 : PySem.W.recIn K pNx17 "property" = some (.ref fx17 :: rNx17))
    (lx17 : K.lookup fx17 = some ⟨ocx17, odx17, .func (PySem.W.fnOf "levels" "Schedule.levels" (defArgs c_Schedule_levels) (defBody c_Schedule_levels) (defScope c_Schedule_levels) .none kVx17 dcx17 pmx17 anx17 cdx17 ctx17), slx17⟩)
    (cx17 : PySem.W.codeIn K cdx17 "Schedule.levels" = true)
    (kx17 : PySem.W.keepIn K (.ref fx17) = true)
    (ax18 : PySem.W.findIn K (.ref C) "pruned" = some (some (.ref fx18)))
    (ix18 : PySem.W.isFn K (.ref fx18) = true)
    (lx18 : K.lookup fx18 = some ⟨ocx18, odx18, .func (PySem.W.fnOf "pruned" "Schedule.pruned" (defArgs c_Schedule_pruned) (defBody c_Schedule_pruned) (defScope c_Schedule_pruned) (.ref T18) kVx18 dcx18 pmx18 anx18 cdx18 ctx18), slx18⟩)
    (cx18 : PySem.W.codeIn K cdx18 "Schedule.pruned" = true)
    (kx18 : PySem.W.keepIn K (.ref fx18) = true)
    (dx18 : K.lookup T18 = some ⟨tc18, td18, .seq #[.int 1 tk18] k018, tsl18⟩)
    (aBScheduleError : PySem.W.nsIn K mainGlobals "ScheduleError" = some (some (.ref BScheduleError)))
    (rBScheduleError : PySem.W.readsIn K BScheduleError (.type "type") = true)
    (gBScheduleError : PySem.W.specialIn K (.ref BScheduleError) "__getattribute__" = some (some (.builtin "type.__getattribute__")))
    (vBScheduleError : PySem.W.findCls K (.ref BScheduleError) (.type "type") "__init__" = some (.val (.builtin "ValueError.__init__")))
    (sBScheduleError : PySem.W.subIn K (.ref BScheduleError) (.type "BaseException") = some true)
    (hBScheduleError : PySem.W.hasDictIn K BScheduleError = true)
    (tBScheduleError : PySem.W.typeIn K (.ref BScheduleError) = some (.type "type"))
    (xo1 : PySem.W.specialIn K (.builtin "object.__class__") "__get__" = some (some (.builtin "getset_descriptor.__get__")))
    (xo2 : PySem.W.takesIn K (.builtin "object.__class__") = some true)
    (aEInvalidNumber : PySem.W.nsIn K mainGlobals "InvalidNumber" = some (some (.ref EInvalidNumber)))
    (iEInvalidNumber : PySem.W.excInitIn K EInvalidNumber [.type "ValueError", .type "Exception", .type "BaseException", .type "object"] "ValueError.__new__" = true)
    (oEInvalidNumber : PySem.W.excOver K EInvalidNumber [.type "ValueError", .type "Exception", .type "BaseException", .type "object"] = true)
    (hEInvalidNumber : PySem.W.hasDictIn K EInvalidNumber = true)
    (sEInvalidNumber : PySem.W.findIn K (.ref EInvalidNumber) "__setattr__" = some (some (.builtin "object.__setattr__")))
    (xEInvalidNumber : PySem.W.subIn K (.ref EInvalidNumber) (.type "BaseException") = some true)
    (tEInvalidNumber : PySem.W.typeIn K (.ref EInvalidNumber) = some (.type "type"))
    (kEInvalidNumber : PySem.W.keepIn K (.ref EInvalidNumber) = true)
    (nEInvalidNumber : PySem.W.findIn K (.ref EInvalidNumber) "number" = some none)
    (gEInvalidNumber : PySem.W.findIn K (.ref EInvalidNumber) "__getattribute__" = some (some (.builtin "BaseException.__getattribute__")))
    (qEInvalidNumber : PySem.W.findIn K (.ref EInvalidNumber) "__getattr__" = some none)
    (cEInvalidNumber : PySem.W.findIn K (.ref EInvalidNumber) "__class__" = some (some (.builtin "object.__class__")))
    (mEInvalidNumber : PySem.W.mroIn K EInvalidNumber (.type "object") = some true)
    (ax19 : PySem.W.findIn K (.ref EInvalidNumber) "__init__" = some (some (.ref fx19)))
    (ix19 : PySem.W.isFn K (.ref fx19) = true)
    (lx19 : K.lookup fx19 = some ⟨ocx19, odx19, .func (PySem.W.fnOf "__init__" "InvalidNumber.__init__" (defArgs c_InvalidNumber___init__) (defBody c_InvalidNumber___init__) (defScope c_InvalidNumber___init__) .none kVx19 dcx19 pmx19 anx19 cdx19 ctx19), slx19⟩)
    (cx19 : PySem.W.codeIn K cdx19 "InvalidNumber.__init__" = true)
    (kx19 : PySem.W.keepIn K (.ref fx19) = true)
    (tyEInvalidNumber : PySem.W.typeIn K (.ref fx19) = some (.type "function"))
    (aEInvalidRecurrence : PySem.W.nsIn K mainGlobals "InvalidRecurrence" = some (some (.ref EInvalidRecurrence)))
    (iEInvalidRecurrence : PySem.W.excInitIn K EInvalidRecurrence [.type "ValueError", .type "Exception", .type "BaseException", .type "object"] "ValueError.__new__" = true)
    (oEInvalidRecurrence : PySem.W.excOver K EInvalidRecurrence [.type "ValueError", .type "Exception", .type "BaseException", .type "object"] = true)
    (hEInvalidRecurrence : PySem.W.hasDictIn K EInvalidRecurrence = true)
    (sEInvalidRecurrence : PySem.W.findIn K (.ref EInvalidRecurrence) "__setattr__" = some (some (.builtin "object.__setattr__")))
    (xEInvalidRecurrence : PySem.W.subIn K (.ref EInvalidRecurrence) (.type "BaseException") = some true)
    (tEInvalidRecurrence : PySem.W.typeIn K (.ref EInvalidRecurrence) = some (.type "type"))
    (kEInvalidRecurrence : PySem.W.keepIn K (.ref EInvalidRecurrence) = true)
    (nEInvalidRecurrence : PySem.W.findIn K (.ref EInvalidRecurrence) "part" = some none)
    (gEInvalidRecurrence : PySem.W.findIn K (.ref EInvalidRecurrence) "__getattribute__" = some (some (.builtin "BaseException.__getattribute__")))
    (qEInvalidRecurrence : PySem.W.findIn K (.ref EInvalidRecurrence) "__getattr__" = some none)
    (cEInvalidRecurrence : PySem.W.findIn K (.ref EInvalidRecurrence) "__class__" = some (some (.builtin "object.__class__")))
    (mEInvalidRecurrence : PySem.W.mroIn K EInvalidRecurrence (.type "object") = some true)
    (ax20 : PySem.W.findIn K (.ref EInvalidRecurrence) "__init__" = some (some (.ref fx20)))
    (ix20 : PySem.W.isFn K (.ref fx20) = true)
    (lx20 : K.lookup fx20 = some ⟨ocx20, odx20, .func (PySem.W.fnOf "__init__" "InvalidRecurrence.__init__" (defArgs c_InvalidRecurrence___init__) (defBody c_InvalidRecurrence___init__) (defScope c_InvalidRecurrence___init__) .none kVx20 dcx20 pmx20 anx20 cdx20 ctx20), slx20⟩)
    (cx20 : PySem.W.codeIn K cdx20 "InvalidRecurrence.__init__" = true)
    (kx20 : PySem.W.keepIn K (.ref fx20) = true)
    (tyEInvalidRecurrence : PySem.W.typeIn K (.ref fx20) = some (.type "function"))
    (aEInvalidValues : PySem.W.nsIn K mainGlobals "InvalidValues" = some (some (.ref EInvalidValues)))
    (iEInvalidValues : PySem.W.excInitIn K EInvalidValues [.type "ValueError", .type "Exception", .type "BaseException", .type "object"] "ValueError.__new__" = true)
    (oEInvalidValues : PySem.W.excOver K EInvalidValues [.type "ValueError", .type "Exception", .type "BaseException", .type "object"] = true)
    (hEInvalidValues : PySem.W.hasDictIn K EInvalidValues = true)
    (sEInvalidValues : PySem.W.findIn K (.ref EInvalidValues) "__setattr__" = some (some (.builtin "object.__setattr__")))
    (xEInvalidValues : PySem.W.subIn K (.ref EInvalidValues) (.type "BaseException") = some true)
    (tEInvalidValues : PySem.W.typeIn K (.ref EInvalidValues) = some (.type "type"))
    (kEInvalidValues : PySem.W.keepIn K (.ref EInvalidValues) = true)
    (nEInvalidValues : PySem.W.findIn K (.ref EInvalidValues) "index" = some none)
    (gEInvalidValues : PySem.W.findIn K (.ref EInvalidValues) "__getattribute__" = some (some (.builtin "BaseException.__getattribute__")))
    (qEInvalidValues : PySem.W.findIn K (.ref EInvalidValues) "__getattr__" = some none)
    (cEInvalidValues : PySem.W.findIn K (.ref EInvalidValues) "__class__" = some (some (.builtin "object.__class__")))
    (mEInvalidValues : PySem.W.mroIn K EInvalidValues (.type "object") = some true)
    (ax21 : PySem.W.findIn K (.ref EInvalidValues) "__init__" = some (some (.ref fx21)))
    (ix21 : PySem.W.isFn K (.ref fx21) = true)
    (lx21 : K.lookup fx21 = some ⟨ocx21, odx21, .func (PySem.W.fnOf "__init__" "InvalidValues.__init__" (defArgs c_InvalidValues___init__) (defBody c_InvalidValues___init__) (defScope c_InvalidValues___init__) .none kVx21 dcx21 pmx21 anx21 cdx21 ctx21), slx21⟩)
    (cx21 : PySem.W.codeIn K cdx21 "InvalidValues.__init__" = true)
    (kx21 : PySem.W.keepIn K (.ref fx21) = true)
    (tyEInvalidValues : PySem.W.typeIn K (.ref fx21) = some (.type "function"))
    (aBStateError : PySem.W.nsIn K mainGlobals "StateError" = some (some (.ref BStateError)))
    (rBStateError : PySem.W.readsIn K BStateError (.type "type") = true)
    (gBStateError : PySem.W.specialIn K (.ref BStateError) "__getattribute__" = some (some (.builtin "type.__getattribute__")))
    (vBStateError : PySem.W.findCls K (.ref BStateError) (.type "type") "__init__" = some (.val (.builtin "RuntimeError.__init__")))
    (sBStateError : PySem.W.subIn K (.ref BStateError) (.type "BaseException") = some true)
    (hBStateError : PySem.W.hasDictIn K BStateError = true)
    (tBStateError : PySem.W.typeIn K (.ref BStateError) = some (.type "type"))
    (aEDead : PySem.W.nsIn K mainGlobals "Dead" = some (some (.ref EDead)))
    (iEDead : PySem.W.excInitIn K EDead [.type "RuntimeError", .type "Exception", .type "BaseException", .type "object"] "RuntimeError.__new__" = true)
    (oEDead : PySem.W.excOver K EDead [.type "RuntimeError", .type "Exception", .type "BaseException", .type "object"] = true)
    (hEDead : PySem.W.hasDictIn K EDead = true)
    (sEDead : PySem.W.findIn K (.ref EDead) "__setattr__" = some (some (.builtin "object.__setattr__")))
    (xEDead : PySem.W.subIn K (.ref EDead) (.type "BaseException") = some true)
    (tEDead : PySem.W.typeIn K (.ref EDead) = some (.type "type"))
    (kEDead : PySem.W.keepIn K (.ref EDead) = true)
    (nEDead : PySem.W.findIn K (.ref EDead) "index" = some none)
    (gEDead : PySem.W.findIn K (.ref EDead) "__getattribute__" = some (some (.builtin "BaseException.__getattribute__")))
    (qEDead : PySem.W.findIn K (.ref EDead) "__getattr__" = some none)
    (cEDead : PySem.W.findIn K (.ref EDead) "__class__" = some (some (.builtin "object.__class__")))
    (mEDead : PySem.W.mroIn K EDead (.type "object") = some true)
    (ax22 : PySem.W.findIn K (.ref EDead) "__init__" = some (some (.ref fx22)))
    (ix22 : PySem.W.isFn K (.ref fx22) = true)
    (lx22 : K.lookup fx22 = some ⟨ocx22, odx22, .func (PySem.W.fnOf "__init__" "Dead.__init__" (defArgs c_Dead___init__) (defBody c_Dead___init__) (defScope c_Dead___init__) .none kVx22 dcx22 pmx22 anx22 cdx22 ctx22), slx22⟩)
    (cx22 : PySem.W.codeIn K cdx22 "Dead.__init__" = true)
    (kx22 : PySem.W.keepIn K (.ref fx22) = true)
    (tyEDead : PySem.W.typeIn K (.ref fx22) = some (.type "function"))
    (zzEInvalidNumberEInvalidNumber : PySem.W.subIn K (.ref EInvalidNumber) (.ref EInvalidNumber) = some true)
    (zzEInvalidRecurrenceEInvalidRecurrence : PySem.W.subIn K (.ref EInvalidRecurrence) (.ref EInvalidRecurrence) = some true)
    (zzEInvalidValuesEInvalidValues : PySem.W.subIn K (.ref EInvalidValues) (.ref EInvalidValues) = some true)
    (zzEDeadEDead : PySem.W.subIn K (.ref EDead) (.ref EDead) = some true)
    (zzEInvalidRecurrenceEInvalidNumber : PySem.W.subIn K (.ref EInvalidRecurrence) (.ref EInvalidNumber) = some false)
    (zzEInvalidValuesEInvalidNumber : PySem.W.subIn K (.ref EInvalidValues) (.ref EInvalidNumber) = some false)
    (zzEInvalidValuesEInvalidRecurrence : PySem.W.subIn K (.ref EInvalidValues) (.ref EInvalidRecurrence) = some false)
    (zzEDeadEInvalidNumber : PySem.W.subIn K (.ref EDead) (.ref EInvalidNumber) = some false)
    (zzEDeadEInvalidRecurrence : PySem.W.subIn K (.ref EDead) (.ref EInvalidRecurrence) = some false)
    (zzEDeadEInvalidValues : PySem.W.subIn K (.ref EDead) (.ref EInvalidValues) = some false)
    (ax23 : PySem.W.nsIn K mainGlobals "_law_error" = some (some (.ref fx23)))
    (lx23 : K.lookup fx23 = some ⟨ocx23, odx23, .func (PySem.W.fnOf "_law_error" "_law_error" (defArgs s__law_error) (defBody s__law_error) (defScope s__law_error) .none kVx23 dcx23 pmx23 anx23 cdx23 ctx23), slx23⟩)
    (cx23 : PySem.W.codeIn K cdx23 "_law_error" = true)
    (kx23 : PySem.W.keepIn K (.ref fx23) = true)
    (ax24 : PySem.W.nsIn K mainGlobals "is_whole" = some (some (.ref fx24)))
    (lx24 : K.lookup fx24 = some ⟨ocx24, odx24, .func (PySem.W.fnOf "is_whole" "is_whole" (defArgs s_is_whole) (defBody s_is_whole) (defScope s_is_whole) .none (.ref Dw) dcx24 pmx24 anx24 cdx24 ctx24), slx24⟩)
    (cx24 : PySem.W.codeIn K cdx24 "is_whole" = true)
    (kx24 : PySem.W.keepIn K (.ref fx24) = true)
    (dw1 : PySem.W.nsIn K Dw "least" = some (some ww1))
    (dw2 : PySem.W.nsIn K Dw "most" = some (some ww2))
    (ax25 : PySem.W.nsIn K mainGlobals "check_levels" = some (some (.ref fx25)))
    (lx25 : K.lookup fx25 = some ⟨ocx25, odx25, .func (PySem.W.fnOf "check_levels" "check_levels" (defArgs s_check_levels) (defBody s_check_levels) (defScope s_check_levels) .none kVx25 dcx25 pmx25 anx25 cdx25 ctx25), slx25⟩)
    (cx25 : PySem.W.codeIn K cdx25 "check_levels" = true)
    (kx25 : PySem.W.keepIn K (.ref fx25) = true)
    (ax26 : PySem.W.nsIn K mainGlobals "pruned_chain" = some (some (.ref fx26)))
    (lx26 : K.lookup fx26 = some ⟨ocx26, odx26, .func (PySem.W.fnOf "pruned_chain" "pruned_chain" (defArgs s_pruned_chain) (defBody s_pruned_chain) (defScope s_pruned_chain) .none kVx26 dcx26 pmx26 anx26 cdx26 ctx26), slx26⟩)
    (cx26 : PySem.W.codeIn K cdx26 "pruned_chain" = true)
    (kx26 : PySem.W.keepIn K (.ref fx26) = true)
    (aCM : PySem.W.nsIn K mainGlobals "Member" = some (some (.ref CM)))
    (pgCM : PySem.W.plainGet K CM Str.empty = true)
    (hdCM : PySem.W.hasDictIn K CM = true)
    (poCM : PySem.W.plainOver K CM = true)
    (saCM : PySem.W.findIn K (.ref CM) "__setattr__" = some (some (.builtin "object.__setattr__")))
    (mkCM : PySem.W.makesIn K CM = true)
    (kcCM : PySem.W.keepIn K (.ref CM) = true)
    (nCM0 : PySem.W.findIn K (.ref CM) "first_leaf" = some none)
    (nCM1 : PySem.W.findIn K (.ref CM) "leaf" = some none)
    (nCM2 : PySem.W.findIn K (.ref CM) "bound" = some none)
    (nCM3 : PySem.W.findIn K (.ref CM) "counts" = some none)
    (nCM4 : PySem.W.findIn K (.ref CM) "sums" = some none)
    (nCM5 : PySem.W.findIn K (.ref CM) "leaf_ends" = some none)
    (e1CM : PySem.W.findIn K (.ref CM) "__class__" = some (some (.builtin "object.__class__")))
    (e2CM : PySem.W.specialIn K (.builtin "object.__class__") "__get__" = some (some (.builtin "getset_descriptor.__get__")))
    (e3CM : PySem.W.takesIn K (.builtin "object.__class__") = some true)
    (e4CM : PySem.W.mroIn K CM (.type "object") = some true)
    (ax27 : PySem.W.findIn K (.ref CM) "add" = some (some (.ref fx27)))
    (ix27 : PySem.W.isFn K (.ref fx27) = true)
    (lx27 : K.lookup fx27 = some ⟨ocx27, odx27, .func (PySem.W.fnOf "add" "Member.add" (defArgs c_Member_add) (defBody c_Member_add) (defScope c_Member_add) .none kVx27 dcx27 pmx27 anx27 cdx27 ctx27), slx27⟩)
    (cx27 : PySem.W.codeIn K cdx27 "Member.add" = true)
    (kx27 : PySem.W.keepIn K (.ref fx27) = true)
    (ax28 : PySem.W.findIn K (.ref CM) "begin" = some (some (.ref fx28)))
    (ix28 : PySem.W.isFn K (.ref fx28) = true)
    (lx28 : K.lookup fx28 = some ⟨ocx28, odx28, .func (PySem.W.fnOf "begin" "Member.begin" (defArgs c_Member_begin) (defBody c_Member_begin) (defScope c_Member_begin) .none kVx28 dcx28 pmx28 anx28 cdx28 ctx28), slx28⟩)
    (cx28 : PySem.W.codeIn K cdx28 "Member.begin" = true)
    (kx28 : PySem.W.keepIn K (.ref fx28) = true)
    (ax29 : PySem.W.findIn K (.ref CM) "pruned_place" = some (some (.ref fx29)))
    (ix29 : PySem.W.isFn K (.ref fx29) = true)
    (lx29 : K.lookup fx29 = some ⟨ocx29, odx29, .func (PySem.W.fnOf "pruned_place" "Member.pruned_place" (defArgs c_Member_pruned_place) (defBody c_Member_pruned_place) (defScope c_Member_pruned_place) .none kVx29 dcx29 pmx29 anx29 cdx29 ctx29), slx29⟩)
    (cx29 : PySem.W.codeIn K cdx29 "Member.pruned_place" = true)
    (kx29 : PySem.W.keepIn K (.ref fx29) = true)
    (ax30 : PySem.W.findIn K (.ref CM) "places_at" = some (some (.ref fx30)))
    (ix30 : PySem.W.isFn K (.ref fx30) = true)
    (lx30 : K.lookup fx30 = some ⟨ocx30, odx30, .func (PySem.W.fnOf "places_at" "Member.places_at" (defArgs c_Member_places_at) (defBody c_Member_places_at) (defScope c_Member_places_at) .none kVx30 dcx30 pmx30 anx30 cdx30 ctx30), slx30⟩)
    (cx30 : PySem.W.codeIn K cdx30 "Member.places_at" = true)
    (kx30 : PySem.W.keepIn K (.ref fx30) = true)
    (ax31 : PySem.W.findIn K (.ref CM) "__init__" = some (some (.ref fx31)))
    (ix31 : PySem.W.isFn K (.ref fx31) = true)
    (lx31 : K.lookup fx31 = some ⟨ocx31, odx31, .func (PySem.W.fnOf "__init__" "Member.__init__" (defArgs c_Member___init__) (defBody c_Member___init__) (defScope c_Member___init__) .none kVx31 dcx31 pmx31 anx31 cdx31 ctx31), slx31⟩)
    (cx31 : PySem.W.codeIn K cdx31 "Member.__init__" = true)
    (kx31 : PySem.W.keepIn K (.ref fx31) = true)
    (aCY : PySem.W.nsIn K mainGlobals "System" = some (some (.ref CY)))
    (pgCY : PySem.W.plainGet K CY Str.empty = true)
    (hdCY : PySem.W.hasDictIn K CY = true)
    (poCY : PySem.W.plainOver K CY = true)
    (saCY : PySem.W.findIn K (.ref CY) "__setattr__" = some (some (.builtin "object.__setattr__")))
    (mkCY : PySem.W.makesIn K CY = true)
    (kcCY : PySem.W.keepIn K (.ref CY) = true)
    (nCY0 : PySem.W.findIn K (.ref CY) "chain" = some none)
    (nCY1 : PySem.W.findIn K (.ref CY) "back_index" = some none)
    (nCY2 : PySem.W.findIn K (.ref CY) "arity_used" = some none)
    (nCY3 : PySem.W.findIn K (.ref CY) "members" = some none)
    (e1CY : PySem.W.findIn K (.ref CY) "__class__" = some (some (.builtin "object.__class__")))
    (e2CY : PySem.W.specialIn K (.builtin "object.__class__") "__get__" = some (some (.builtin "getset_descriptor.__get__")))
    (e3CY : PySem.W.takesIn K (.builtin "object.__class__") = some true)
    (e4CY : PySem.W.mroIn K CY (.type "object") = some true)
    (rCY : PySem.W.readsIn K CY (.type "type") = true)
    (gCY : PySem.W.specialIn K (.ref CY) "__getattribute__" = some (some (.builtin "type.__getattribute__")))
    (vsCY : PySem.W.findCls K (.ref CY) (.type "type") "MAX_START" = some (.val (.int 20000 tyS)))
    (vtCY : PySem.W.findCls K (.ref CY) (.type "type") "MAX_STEPS" = some (.val (.int 2000 tyT)))
    (ax32 : PySem.W.findIn K (.ref CY) "__init__" = some (some (.ref fx32)))
    (ix32 : PySem.W.isFn K (.ref fx32) = true)
    (lx32 : K.lookup fx32 = some ⟨ocx32, odx32, .func (PySem.W.fnOf "__init__" "System.__init__" (defArgs c_System___init__) (defBody c_System___init__) (defScope c_System___init__) .none kVx32 dcx32 pmx32 anx32 cdx32 ctx32), slx32⟩)
    (cx32 : PySem.W.codeIn K cdx32 "System.__init__" = true)
    (kx32 : PySem.W.keepIn K (.ref fx32) = true)
    (ax33 : PySem.W.findIn K (.ref CY) "size" = some (some (.ref pNx33)))
    (gx33 : PySem.W.specialIn K (.ref pNx33) "__get__" = some (some (.builtin "property.__get__")))
    (tx33 : PySem.W.takesIn K (.ref pNx33) = some true)
    (bx33 : PySem.W.recIn K pNx33 "property" = some (.ref fx33 :: rNx33))
    (lx33 : K.lookup fx33 = some ⟨ocx33, odx33, .func (PySem.W.fnOf "size" "System.size" (defArgs c_System_size) (defBody c_System_size) (defScope c_System_size) .none kVx33 dcx33 pmx33 anx33 cdx33 ctx33), slx33⟩)
    (cx33 : PySem.W.codeIn K cdx33 "System.size" = true)
    (kx33 : PySem.W.keepIn K (.ref fx33) = true)
    (ax34 : PySem.W.findIn K (.ref CY) "thresholds" = some (some (.ref pNx34)))
    (gx34 : PySem.W.specialIn K (.ref pNx34) "__get__" = some (some (.builtin "property.__get__")))
    (tx34 : PySem.W.takesIn K (.ref pNx34) = some true)
    (bx34 : PySem.W.recIn K pNx34 "property" = some (.ref fx34 :: rNx34))
    (lx34 : K.lookup fx34 = some ⟨ocx34, odx34, .func (PySem.W.fnOf "thresholds" "System.thresholds" (defArgs c_System_thresholds) (defBody c_System_thresholds) (defScope c_System_thresholds) .none kVx34 dcx34 pmx34 anx34 cdx34 ctx34), slx34⟩)
    (cx34 : PySem.W.codeIn K cdx34 "System.thresholds" = true)
    (kx34 : PySem.W.keepIn K (.ref fx34) = true)
    (ax35 : PySem.W.findIn K (.ref CY) "read_by" = some (some (.ref fx35)))
    (ix35 : PySem.W.isFn K (.ref fx35) = true)
    (lx35 : K.lookup fx35 = some ⟨ocx35, odx35, .func (PySem.W.fnOf "read_by" "System.read_by" (defArgs c_System_read_by) (defBody c_System_read_by) (defScope c_System_read_by) .none kVx35 dcx35 pmx35 anx35 cdx35 ctx35), slx35⟩)
    (cx35 : PySem.W.codeIn K cdx35 "System.read_by" = true)
    (kx35 : PySem.W.keepIn K (.ref fx35) = true)
    (ax36 : PySem.W.findIn K (.ref CY) "extend" = some (some (.ref fx36)))
    (ix36 : PySem.W.isFn K (.ref fx36) = true)
    (lx36 : K.lookup fx36 = some ⟨ocx36, odx36, .func (PySem.W.fnOf "extend" "System.extend" (defArgs c_System_extend) (defBody c_System_extend) (defScope c_System_extend) .none kVx36 dcx36 pmx36 anx36 cdx36 ctx36), slx36⟩)
    (cx36 : PySem.W.codeIn K cdx36 "System.extend" = true)
    (kx36 : PySem.W.keepIn K (.ref fx36) = true)
    (ax37 : PySem.W.findIn K (.ref CY) "places_read" = some (some (.ref fx37)))
    (ix37 : PySem.W.isFn K (.ref fx37) = true)
    (lx37 : K.lookup fx37 = some ⟨ocx37, odx37, .func (PySem.W.fnOf "places_read" "System.places_read" (defArgs c_System_places_read) (defBody c_System_places_read) (defScope c_System_places_read) .none kVx37 dcx37 pmx37 anx37 cdx37 ctx37), slx37⟩)
    (cx37 : PySem.W.codeIn K cdx37 "System.places_read" = true)
    (kx37 : PySem.W.keepIn K (.ref fx37) = true)
    (ax38 : PySem.W.nsIn K mainGlobals "_law_draw" = some (some (.ref fx38)))
    (lx38 : K.lookup fx38 = some ⟨ocx38, odx38, .func (PySem.W.fnOf "_law_draw" "_law_draw" (defArgs s__law_draw) (defBody s__law_draw) (defScope s__law_draw) .none kVx38 dcx38 pmx38 anx38 cdx38 ctx38), slx38⟩)
    (cx38 : PySem.W.codeIn K cdx38 "_law_draw" = true)
    (kx38 : PySem.W.keepIn K (.ref fx38) = true)
    (ax39 : PySem.W.nsIn K mainGlobals "_law_begin" = some (some (.ref fx39)))
    (lx39 : K.lookup fx39 = some ⟨ocx39, odx39, .func (PySem.W.fnOf "_law_begin" "_law_begin" (defArgs s__law_begin) (defBody s__law_begin) (defScope s__law_begin) .none kVx39 dcx39 pmx39 anx39 cdx39 ctx39), slx39⟩)
    (cx39 : PySem.W.codeIn K cdx39 "_law_begin" = true)
    (kx39 : PySem.W.keepIn K (.ref fx39) = true)
    (ax40 : PySem.W.nsIn K mainGlobals "_law_places" = some (some (.ref fx40)))
    (lx40 : K.lookup fx40 = some ⟨ocx40, odx40, .func (PySem.W.fnOf "_law_places" "_law_places" (defArgs s__law_places) (defBody s__law_places) (defScope s__law_places) .none kVx40 dcx40 pmx40 anx40 cdx40 ctx40), slx40⟩)
    (cx40 : PySem.W.codeIn K cdx40 "_law_places" = true)
    (kx40 : PySem.W.keepIn K (.ref fx40) = true)
    (ax41 : PySem.W.nsIn K mainGlobals "_law_counts" = some (some (.ref fx41)))
    (lx41 : K.lookup fx41 = some ⟨ocx41, odx41, .func (PySem.W.fnOf "_law_counts" "_law_counts" (defArgs s__law_counts) (defBody s__law_counts) (defScope s__law_counts) .none kVx41 dcx41 pmx41 anx41 cdx41 ctx41), slx41⟩)
    (cx41 : PySem.W.codeIn K cdx41 "_law_counts" = true)
    (kx41 : PySem.W.keepIn K (.ref fx41) = true)
    (ax42 : PySem.W.nsIn K mainGlobals "_law_stream" = some (some (.ref fx42)))
    (lx42 : K.lookup fx42 = some ⟨ocx42, odx42, .func (PySem.W.fnOf "_law_stream" "_law_stream" (defArgs s__law_stream) (defBody s__law_stream) (defScope s__law_stream) .none kVx42 dcx42 pmx42 anx42 cdx42 ctx42), slx42⟩)
    (cx42 : PySem.W.codeIn K cdx42 "_law_stream" = true)
    (kx42 : PySem.W.keepIn K (.ref fx42) = true)
    (ax43 : PySem.W.nsIn K mainGlobals "_law_items" = some (some (.ref fx43)))
    (lx43 : K.lookup fx43 = some ⟨ocx43, odx43, .func (PySem.W.fnOf "_law_items" "_law_items" (defArgs s__law_items) (defBody s__law_items) (defScope s__law_items) .none kVx43 dcx43 pmx43 anx43 cdx43 ctx43), slx43⟩)
    (cx43 : PySem.W.codeIn K cdx43 "_law_items" = true)
    (kx43 : PySem.W.keepIn K (.ref fx43) = true)
    (ax44 : PySem.W.nsIn K mainGlobals "_law_pruned" = some (some (.ref fx44)))
    (lx44 : K.lookup fx44 = some ⟨ocx44, odx44, .func (PySem.W.fnOf "_law_pruned" "_law_pruned" (defArgs s__law_pruned) (defBody s__law_pruned) (defScope s__law_pruned) .none kVx44 dcx44 pmx44 anx44 cdx44 ctx44), slx44⟩)
    (cx44 : PySem.W.codeIn K cdx44 "_law_pruned" = true)
    (kx44 : PySem.W.keepIn K (.ref fx44) = true)
    (ax45 : PySem.W.nsIn K mainGlobals "_law_places_right" = some (some (.ref fx45)))
    (lx45 : K.lookup fx45 = some ⟨ocx45, odx45, .func (PySem.W.fnOf "_law_places_right" "_law_places_right" (defArgs s__law_places_right) (defBody s__law_places_right) (defScope s__law_places_right) .none kVx45 dcx45 pmx45 anx45 cdx45 ctx45), slx45⟩)
    (cx45 : PySem.W.codeIn K cdx45 "_law_places_right" = true)
    (kx45 : PySem.W.keepIn K (.ref fx45) = true)
    (ax46 : PySem.W.nsIn K mainGlobals "_law_refused" = some (some (.ref fx46)))
    (lx46 : K.lookup fx46 = some ⟨ocx46, odx46, .func (PySem.W.fnOf "_law_refused" "_law_refused" (defArgs s__law_refused) (defBody s__law_refused) (defScope s__law_refused) .none kVx46 dcx46 pmx46 anx46 (.ref cdax46) ctx46), slx46⟩)
    (cx46 : PySem.W.codeIn K (.ref cdax46) "_law_refused" = true)
    (kx46 : PySem.W.keepIn K (.ref fx46) = true)
    (dx46 : K.lookup cdax46 = some ⟨cclx46, cddx46, .fields vsx46, ccsx46⟩)
    (vx46 : vsx46[11]? = some (.ref Ptx46))
    (npx46 : K.lookup Ptx46 = none)
    (chx46 : PySem.W.codeHdIn K cdax46 Ptx46 = true)
    (ax47 : PySem.W.nsIn K mainGlobals "law" = some (some (.ref fx47)))
    (lx47 : K.lookup fx47 = some ⟨ocx47, odx47, .func (PySem.W.fnOf "law" "law" (defArgs s_law) (defBody s_law) (defScope s_law) .none kVx47 dcx47 pmx47 anx47 cdx47 ctx47), slx47⟩)
    (cx47 : PySem.W.codeIn K cdx47 "law" = true)
    (kx47 : PySem.W.keepIn K (.ref fx47) = true)
    (z0 : PySem.W.nsIn K mainGlobals "isinstance" = some none)
    (z1 : PySem.W.nsIn K mainGlobals "int" = some none)
    (z2 : PySem.W.nsIn K mainGlobals "bool" = some none)
    (z3 : PySem.W.nsIn K mainGlobals "tuple" = some none)
    (z4 : PySem.W.nsIn K mainGlobals "len" = some none)
    (z5 : PySem.W.nsIn K mainGlobals "enumerate" = some none)
    (z6 : PySem.W.nsIn K mainGlobals "range" = some none)
    (z7 : PySem.W.nsIn K mainGlobals "all" = some none)
    (z8 : PySem.W.nsIn K mainGlobals "list" = some none)
    (z9 : PySem.W.nsIn K mainGlobals "min" = some none)
    (z10 : PySem.W.nsIn K mainGlobals "max" = some none)
    (z11 : PySem.W.nsIn K mainGlobals "sum" = some none)
    (z12 : PySem.W.nsIn K mainGlobals "repr" = some none)
    (y1 : RelV .non w1)
    (y2 : RelV .non w2)
    (yw1 : RelV .non ww1)
    (yw2 : RelV .non ww2)
    : ∃ cs : List (Addr × Addr × Str), (∀ p ∈ cs, h.get? p.2.1 = some { cls := .none, data := .fields #[] }) ∧ (∀ p ∈ cs, K.lookup p.2.1 = none) ∧ (∀ p ∈ cs, PySem.W.codeHdIn K p.1 p.2.1 = true) ∧ (cs.map (·.2.1)).Nodup ∧
        ∀ base : Heap, K.In base → base.Ns mainGlobals mg → (∀ p ∈ cs, TabB base mg p.1 p.2.1) → FnX l.prog w K mg base 13 fa [] (spX K (aLawT (cs.map (·.2)))) := by
  refine ⟨[(cdax46, Ptx46, ("_law_refused.<locals>.<lambda>" : Str))], List.forall_mem_cons.mpr ⟨own "_law_refused" List.mem_cons_self fx46 (PySem.W.mg_of X G ax46) _ _ _ _ _ _ _ _ lx46 rfl rfl dx46 vx46, List.forall_mem_nil _⟩, List.forall_mem_cons.mpr ⟨npx46, List.forall_mem_nil _⟩, List.forall_mem_cons.mpr ⟨chx46, List.forall_mem_nil _⟩, List.nodup_cons.mpr ⟨List.not_mem_nil, List.nodup_nil⟩, ?_⟩
  intro base _ _ tbs
  have TBx46 : TabB base mg cdax46 Ptx46 := tbs (cdax46, Ptx46, ("_law_refused.<locals>.<lambda>" : Str)) List.mem_cons_self
  have B : Bt mg := ⟨(PySem.W.mg_none_of X G z0), (PySem.W.mg_none_of X G z1), (PySem.W.mg_none_of X G z2), (PySem.W.mg_none_of X G z3), (PySem.W.mg_none_of X G z4), (PySem.W.mg_none_of X G z5), (PySem.W.mg_none_of X G z6), (PySem.W.mg_none_of X G z7), (PySem.W.mg_none_of X G z8), (PySem.W.mg_none_of X G z9), (PySem.W.mg_none_of X G z10), (PySem.W.mg_none_of X G z11)⟩
  have T : Rs K mg C := ⟨⟨pgC, hdC, poC, saC⟩, nC0, nC1, nC2, PySem.W.mg_of X G aC⟩
  have L : Lm mg tt0 tt1 tt2 tt3 := ⟨PySem.W.mg_of X G u0, PySem.W.mg_of X G u1, PySem.W.mg_of X G u2, PySem.W.mg_of X G u3⟩
  have LE_ : LmE mg := ⟨⟨_, PySem.W.mg_of X G u0⟩, ⟨_, PySem.W.mg_of X G u1⟩, ⟨_, PySem.W.mg_of X G u2⟩, ⟨_, PySem.W.mg_of X G u3⟩⟩
  have e5 : PySem.W.kitOne K (.ref C) (.ref C) = some true := if_pos (by simp)
  have IS : Isi K C := ⟨e1C, e2C, e3C, e4C, e5⟩
  have Fx1 := fd_kw2 (st := s_is_integer) lx1 cx1 kx1 d1 d2 y1 y2
  have GA : GInt l.prog w K mg base := by
    obtain ⟨mv, kb⟩ := FunD.kbinds0 (ps := ["value", "low", "high"]) Fx1 1 ["low", "high"] [] (fun us _ ws => us ++ ws) (by simp) (fun _ h => nomatch h) (fun r1 _ r2 => r1.append r2)
      (fun D doc pm an cdv ct us mv ws h1 h2 h3 => match us, mv, ws, h1, h2, h3 with | [_], [], [_, _], _, _, _ => rfl)
    exact ⟨⟨fx1, fnx_kbn (k := 0) (fun ds es => ds ++ es) Fx1 q_is_integer kb (fun H ds vs es zs r1 r2 _ _ => r1.append r2) (fun ds M R ⟨n, lo, hi, e, _⟩ => by rw [e]; rfl) (b_is_integer (PySem.W.mg_none_of X G z0) (PySem.W.mg_none_of X G z1) (PySem.W.mg_none_of X G z2)), (PySem.W.mg_of X G ax1), kx1⟩⟩
  have Fx2 : FunD K "check_integer" "check_integer" (defArgs s_check_integer) (defBody s_check_integer) (defScope s_check_integer) [.non] [] fx2 _ := ⟨⟨ocx2, odx2, .ref T2, kVx2, dcx2, pmx2, anx2, cdx2, ctx2, slx2, rfl, lx2, cx2, .inr ⟨List.cons_ne_nil _ _, T2, _, [.none], k02, rfl, dx2, rfl, .cons rfl .nil⟩, .inl rfl⟩, kx2⟩
  have GB : GChk l.prog w K mg base := ⟨⟨fx2, fnx_dfl (n := 2) (dd := [.non]) Fx2 q_check_integer (List.cons_ne_nil _ _) (fun H => .cons .non .nil) (fun T' kV doc pm an cdv ct us its h1 h2 => match us, its, h1, h2 with | [_, _], [_], _, _ => ⟨_, rfl, rfl⟩) (fun ds M R h => by obtain ⟨n, lo, rfl, _⟩ := h; rfl) (b_check_integer GA), (PySem.W.mg_of X G ax2), kx2⟩⟩
  have Fx3 := fd_mk (st := s_are_items) lx3 cx3 kx3
  have GC : GItems l.prog w K mg base := gd_pos Fx3 q_are_items (fun _ _ _ _ _ _ us hl => match us, hl with | [_, _, _], _ => rfl) (fun ds M R h => by obtain ⟨x, a, b, rfl, _⟩ := h <;> rfl) (b_are_items GA L.b (PySem.W.mg_none_of X G z0) (PySem.W.mg_none_of X G z3) (PySem.W.mg_none_of X G z4) (PySem.W.mg_none_of X G z7)) (PySem.W.mg_of X G ax3)
  have Fx4 := fd_mk (st := s_shortest_loop) lx4 cx4 kx4
  have GD : GSl l.prog w K mg base := gd_pos Fx4 q_shortest_loop (fun _ _ _ _ _ _ us hl => match us, hl with | [_], _ => rfl) (fun ds M R h => by obtain ⟨x, rfl, _⟩ := h <;> rfl) (b_shortest_loop (PySem.W.mg_none_of X G z6) (PySem.W.mg_none_of X G z4)) (PySem.W.mg_of X G ax4)
  have Fx5 := fd_mk (st := s_normal_form) lx5 cx5 kx5
  have GE : GNf l.prog w K mg base := gd_pos Fx5 q_normal_form (fun _ _ _ _ _ _ us hl => match us, hl with | [_, _], _ => rfl) (fun ds M R h => by obtain ⟨x, rfl, _⟩ := h <;> rfl) (b_normal_form GD) (PySem.W.mg_of X G ax5)
  have Fx6 := fd_mk (st := s_stream_item) lx6 cx6 kx6
  have GF : GItem l.prog w K mg base := gd_pos Fx6 q_stream_item (fun _ _ _ _ _ _ us hl => match us, hl with | [_, _], _ => rfl) (fun ds M R h => by obtain ⟨x, i, rfl, _⟩ := h <;> rfl) (b_stream_item (PySem.W.mg_none_of X G z4)) (PySem.W.mg_of X G ax6)
  have Fx7 := fd_mk (st := s_stream_without) lx7 cx7 kx7
  have GG : GSwo l.prog w K mg base := gd_pos Fx7 q_stream_without (fun _ _ _ _ _ _ us hl => match us, hl with | [_, _], _ => rfl) (fun ds M R h => by obtain ⟨x, i, rfl, _⟩ := h <;> rfl) (b_stream_without (PySem.W.mg_none_of X G z4)) (PySem.W.mg_of X G ax7)
  have Fx8 := fd_mk (st := s_checked_stream) lx8 cx8 kx8
  have GL : GCs l.prog w K mg base := gd_pos Fx8 q_checked_stream (fun _ _ _ _ _ _ us hl => match us, hl with | [_], _ => rfl) (fun ds M R h => by obtain ⟨x, rfl, _⟩ := h <;> rfl) (b_checked_stream L GE (PySem.W.mg_none_of X G z4) (PySem.W.mg_none_of X G z10)) (PySem.W.mg_of X G ax8)
  have Fx9 := fd_mk (st := c_Schedule_is_stream) lx9 cx9 kx9
  have XJ : FX l.prog w K mg base 3 fx9 fun ds _ => aIss ds := fnx_pos' Fx9 q_Schedule_is_stream (fun _ _ _ _ _ _ us hl => match us, hl with | [_], _ => rfl) (fun ds M R h => by obtain ⟨x, rfl, _⟩ := h; rfl) (b_is_stream L GC (PySem.W.mg_none_of X G z0) (PySem.W.mg_none_of X G z3) (PySem.W.mg_none_of X G z4))
  have CS : Cs l.prog w K mg base C pSx9 fx9 := ⟨⟨rd, ga⟩, ⟨ax9, ⟨_, bx9⟩, kx9⟩, XJ⟩
  have Fx10 := fd_kw2 (v1 := .ref wT1) (v2 := .ref wT2) (st := c_Schedule___init__) lx10 cx10 kx10 dsi1 dsi2 rfl rfl
  have rS : ∀ H, Rep K H (stV dSp) (.ref wT1) := fun H => (rep_wt (vs := [.ref wT3, .ref wT4]) wl1 rfl (Nat.le_of_ble_eq_true rfl) (.cons rfl (.cons rfl .nil)) (.cons (rep_wt (vs := [.int 1]) wl3 rfl (Nat.le_of_ble_eq_true rfl) (.cons ⟨_, rfl⟩ .nil) (.cons (.int 1) .nil)) (.cons (rep_wt (vs := [.int 0]) wl4 rfl (Nat.le_of_ble_eq_true rfl) (.cons ⟨_, rfl⟩ .nil) (.cons (.int 0) .nil)) .nil)))
  have rL : ∀ H, Rep K H (stV dLv) (.ref wT2) := fun H => (rep_wt (vs := [.ref wT7, .ref wT8]) wl2 rfl (Nat.le_of_ble_eq_true rfl) (.cons rfl (.cons rfl .nil)) (.cons (rep_wt (vs := []) wl7 rfl (Nat.le_of_ble_eq_true rfl) .nil .nil) (.cons (rep_wt (vs := [.int 1]) wl8 rfl (Nat.le_of_ble_eq_true rfl) (.cons ⟨_, rfl⟩ .nil) (.cons (.int 1) .nil)) .nil)))
  have IB0 := b_init (f := fx10) T L GA CS GF GE
  have ILn : ∀ ds M R, aInitS C ds M R → ds.length = 4 := fun ds M R h => by obtain ⟨p, a, sp, lv, M0, rfl, _⟩ := h; rfl
  have MD : MkD l.prog w K mg base C := by
    refine ⟨fx10, ⟨mkC, ax10, ix10, kcC⟩, ?_, ?_, ?_⟩
    · obtain ⟨mv, kb⟩ := FunD.kbinds0 (ps := ["self", "arity", "spine", "levels"]) Fx10 2 [] [("spine", .ref wT1), ("levels", .ref wT2)] (fun us mv _ => us ++ mv) (by simp) (fun q hq => hq) (fun r1 r2 _ => r1.append r2)
        (fun D doc pm an cdv ct us mv ws h1 h2 h3 => match us, mv, ws, h1, h2, h3 with | [_, _], [_, _], [], _, _, _ => ⟨_, _, _, _, _, _, rfl, rfl, _, _, _, _, _, _, rfl, rfl, rfl⟩)
      exact fnx_kbn (k := 3) (fun ds _ => ds ++ [stV dSp, stV dLv]) Fx10 q_Schedule___init__ kb (fun H ds vs es zs r1 r2 _ _ => r1.append (.cons (rS H) (.cons (rL H) .nil))) ILn IB0
    · obtain ⟨mv, kb⟩ := FunD.kbinds0 (ps := ["self", "arity", "spine", "levels"]) Fx10 2 ["levels"] [("spine", .ref wT1)] (fun us mv ws => us ++ mv ++ ws) (by simp) (fun q hq => by simp at hq ⊢; exact .inl hq) (fun r1 r2 r3 => (r1.append r2).append r3)
        (fun D doc pm an cdv ct us mv ws h1 h2 h3 => match us, mv, ws, h1, h2, h3 with | [_, _], [_], [_], _, _, _ => ⟨_, _, _, _, _, _, rfl, rfl, rfl⟩)
      exact fnx_kbn (k := 3) (fun ds es => ds ++ [stV dSp] ++ es) Fx10 q_Schedule___init__ kb (fun H ds vs es zs r1 r2 _ _ => (r1.append (.cons (rS H) .nil)).append r2) ILn IB0
    · obtain ⟨mv, kb⟩ := FunD.kbinds0 (ps := ["self", "arity", "spine", "levels"]) Fx10 2 ["spine"] [("levels", .ref wT2)] (fun us mv ws => us ++ ws ++ mv) (by simp) (fun q hq => by simp at hq ⊢; exact .inr hq) (fun r1 r2 r3 => (r1.append r3).append r2)
        (fun D doc pm an cdv ct us mv ws h1 h2 h3 => match us, mv, ws, h1, h2, h3 with | [_, _], [_], [_], _, _, _ => ⟨_, _, _, _, _, _, rfl, rfl, rfl⟩)
      exact fnx_kbn (k := 3) (fun ds es => ds ++ es ++ [stV dLv]) Fx10 q_Schedule___init__ kb (fun H ds vs es zs r1 r2 _ _ => (r1.append r2).append (.cons (rL H) .nil)) ILn IB0
  have MK : Mks l.prog w K mg base C := ⟨⟨fx10, ⟨mkC, ax10, ix10, kcC⟩, fnx_kw Fx10 q_Schedule___init__ (fun _ _ _ _ _ _ us ws h1 h2 => match us, ws, h1, h2 with | [_, _], [_, _], _, _ => rfl) (fun ds M R h => by obtain ⟨p, a, sp, lv, M0, rfl, _⟩ := h; rfl) (b_init T L GA CS GF GE)⟩⟩
  have Fx11 := fd_mk (st := s_made_schedule) lx11 cx11 kx11
  have GM : GMd l.prog w K mg base C := gd_pos Fx11 q_made_schedule (fun _ _ _ _ _ _ us hl => match us, hl with | [_, _, _], _ => rfl) (fun ds M R h => by obtain ⟨a, s, x, rfl, _⟩ := h <;> rfl) (b_made_schedule T MK GL) (PySem.W.mg_of X G ax11)
  have Fx12 := fd_mk (st := c_Schedule_spine_at) lx12 cx12 kx12
  have XE : FX l.prog w K mg base 3 fx12 fun ds _ => aSat C ds := fnx_pos' Fx12 q_Schedule_spine_at (fun _ _ _ _ _ _ us hl => match us, hl with | [_, _], _ => rfl) (fun ds M R h => by obtain ⟨x, i, rfl, _⟩ := h; rfl) (b_spine_at T GB GF)
  have Fx13 := fd_mk (st := c_Schedule_level_at) lx13 cx13 kx13
  have XF : FX l.prog w K mg base 3 fx13 fun ds _ => aLat C ds := fnx_pos' Fx13 q_Schedule_level_at (fun _ _ _ _ _ _ us hl => match us, hl with | [_, _], _ => rfl) (fun ds M R h => by obtain ⟨x, i, rfl, _⟩ := h; rfl) (b_level_at T GB GF)
  have SM : Sm2 l.prog w K mg base C := ⟨⟨fx12, ⟨ax12, ix12, kx12⟩, XE⟩, ⟨fx13, ⟨ax13, ix13, kx13⟩, XF⟩⟩
  have Fx14 := fd_mk (st := c_Schedule___eq__) lx14 cx14 kx14
  have XI : FX l.prog w K mg base 1 fx14 fun ds _ => aEqS C ds := fnx_pos' Fx14 q_Schedule___eq__ (fun _ _ _ _ _ _ us hl => match us, hl with | [_, _], _ => rfl) (fun ds M R h => by obtain ⟨x, i, rfl, _⟩ := h; rfl) (b_eq T IS (PySem.W.mg_none_of X G z0))
  have OS : OwnS l.prog w K mg base C fx14 := ⟨XI, ax14, ix14, e6C, e7C⟩
  have Fx15 := fd_mk (st := c_Schedule_arity) lx15 cx15 kx15
  have YPA : FX l.prog w K mg base 1 fx15 fun ds _ => aAri C ds := fnx_pos' Fx15 q_Schedule_arity (fun _ _ _ _ _ _ us hl => match us, hl with | [_], _ => rfl) (fun ds M R h => by obtain ⟨x, rfl, _⟩ := h; rfl) (b_arity T)
  have PA : PrA l.prog w K mg base C := ⟨⟨pNx15, fx15, ⟨ax15, gx15, tx15, _, bx15⟩, YPA⟩⟩
  have Fx16 := fd_mk (st := c_Schedule_spine) lx16 cx16 kx16
  have YPS_ : FX l.prog w K mg base 1 fx16 fun ds _ => aSpi C ds := fnx_pos' Fx16 q_Schedule_spine (fun _ _ _ _ _ _ us hl => match us, hl with | [_], _ => rfl) (fun ds M R h => by obtain ⟨x, rfl, _⟩ := h; rfl) (b_spine T)
  have PS_ : PrS l.prog w K mg base C := ⟨⟨pNx16, fx16, ⟨ax16, gx16, tx16, _, bx16⟩, YPS_⟩⟩
  have Fx17 := fd_mk (st := c_Schedule_levels) lx17 cx17 kx17
  have YPL_ : FX l.prog w K mg base 1 fx17 fun ds _ => aLev C ds := fnx_pos' Fx17 q_Schedule_levels (fun _ _ _ _ _ _ us hl => match us, hl with | [_], _ => rfl) (fun ds M R h => by obtain ⟨x, rfl, _⟩ := h; rfl) (b_levels T)
  have PL_ : PrL l.prog w K mg base C := ⟨⟨pNx17, fx17, ⟨ax17, gx17, tx17, _, bx17⟩, YPL_⟩⟩
  have Fx18 : FunD K "pruned" "Schedule.pruned" (defArgs c_Schedule_pruned) (defBody c_Schedule_pruned) (defScope c_Schedule_pruned) [.int 1] [] fx18 _ := ⟨⟨ocx18, odx18, .ref T18, kVx18, dcx18, pmx18, anx18, cdx18, ctx18, slx18, rfl, lx18, cx18, .inr ⟨List.cons_ne_nil _ _, T18, _, [.int 1 tk18], k018, rfl, dx18, rfl, .cons ⟨_, rfl⟩ .nil⟩, .inl rfl⟩, kx18⟩
  have XPR0 : Mt l.prog w K mg base C 7 "pruned" (aPr0 C) := ⟨fx18, ⟨ax18, ix18, kx18⟩, (fnx_dfl (n := 1) (dd := [.int 1]) Fx18 q_Schedule_pruned (List.cons_ne_nil _ _) (fun H => .cons (.int 1) .nil) (fun T' kV doc pm an cdv ct us its h1 h2 => match us, its, h1, h2 with | [_], [_], _, _ => ⟨_, rfl, rfl⟩) (fun ds M R h => by obtain ⟨n, lo, rfl, _⟩ := h; rfl) (b_pruned T B LE_ GB GF GG GM)).imp (fun ds es M R ⟨S, e, hS, h1, hp⟩ => ⟨by subst e; rfl, S, 1, by subst e; rfl, hS, fun j a b => by (have : j = 1 := by omega); subst this; exact h1, hp⟩)⟩
  have XPR1 : Mt l.prog w K mg base C 7 "pruned" (aPru C) := ⟨fx18, ⟨ax18, ix18, kx18⟩, (fnx_dflG (n := 2) (ks := []) (fun us _ _ => us) Fx18 q_Schedule_pruned (List.cons_ne_nil _ _) [.int 1] (fun H => .cons (.int 1) .nil) (fun T' kV doc pm an cdv ct us ws its h1 h2 h3 => match us, ws, its, h1, h2, h3 with | [_, _], [], [_], _, _, _ => ⟨_, rfl, rfl⟩) (fun r1 _ _ => r1) (fun r1 _ _ => r1) (fun ds M R h => by obtain ⟨n, lo, rfl, _⟩ := h; rfl) (b_pruned T B LE_ GB GF GG GM)).imp (fun ds es M R h => ⟨by obtain ⟨n, lo, rfl, _⟩ := h; rfl, h⟩)⟩
  have XBScheduleError : XBase K mg "ScheduleError" "ValueError.__init__" := ⟨⟨BScheduleError, ⟨rBScheduleError, gBScheduleError⟩, vBScheduleError, PySem.W.mg_of X G aBScheduleError⟩, by decide +kernel⟩
  have Fx19 := fd_mk (st := c_InvalidNumber___init__) lx19 cx19 kx19
  have TEInvalidNumber : XCl K EInvalidNumber "ValueError" "ValueError.__new__" "ValueError.__init__" [.type "ValueError", .type "Exception", .type "BaseException", .type "object"] := ⟨PySem.F.excBase_ValueError, PySem.F.store_ValueError, iEInvalidNumber, oEInvalidNumber, hEInvalidNumber, sEInvalidNumber, xEInvalidNumber, tEInvalidNumber, kEInvalidNumber⟩
  have XKInvalidNumber : XMk l.prog w K mg base "InvalidNumber" EInvalidNumber 1 (g1 "number") := ⟨⟨_, _, _, _, _, g1V "number", TEInvalidNumber, ax19, tyEInvalidNumber, xi_InvalidNumber Fx19 TEInvalidNumber XBScheduleError nEInvalidNumber, PySem.W.mg_of X G aEInvalidNumber, g1_rel⟩, by decide⟩
  have ECInvalidNumber : L2.ExcC K EInvalidNumber := ⟨gEInvalidNumber, qEInvalidNumber, xEInvalidNumber, hEInvalidNumber, cEInvalidNumber, xo1, xo2, mEInvalidNumber⟩
  have XFInvalidNumber : XfC K EInvalidNumber := ⟨gEInvalidNumber, qEInvalidNumber, xEInvalidNumber, hEInvalidNumber⟩
  have ITInvalidNumber : PySem.W.kitOne K (.ref EInvalidNumber) (.ref EInvalidNumber) = some true := if_pos (by simp)
  have Fx20 := fd_mk (st := c_InvalidRecurrence___init__) lx20 cx20 kx20
  have TEInvalidRecurrence : XCl K EInvalidRecurrence "ValueError" "ValueError.__new__" "ValueError.__init__" [.type "ValueError", .type "Exception", .type "BaseException", .type "object"] := ⟨PySem.F.excBase_ValueError, PySem.F.store_ValueError, iEInvalidRecurrence, oEInvalidRecurrence, hEInvalidRecurrence, sEInvalidRecurrence, xEInvalidRecurrence, tEInvalidRecurrence, kEInvalidRecurrence⟩
  have XKInvalidRecurrence : XMk l.prog w K mg base "InvalidRecurrence" EInvalidRecurrence 1 (g1 "part") := ⟨⟨_, _, _, _, _, g1V "part", TEInvalidRecurrence, ax20, tyEInvalidRecurrence, xi_InvalidRecurrence Fx20 TEInvalidRecurrence XBScheduleError nEInvalidRecurrence, PySem.W.mg_of X G aEInvalidRecurrence, g1_rel⟩, by decide⟩
  have ECInvalidRecurrence : L2.ExcC K EInvalidRecurrence := ⟨gEInvalidRecurrence, qEInvalidRecurrence, xEInvalidRecurrence, hEInvalidRecurrence, cEInvalidRecurrence, xo1, xo2, mEInvalidRecurrence⟩
  have XFInvalidRecurrence : XfC K EInvalidRecurrence := ⟨gEInvalidRecurrence, qEInvalidRecurrence, xEInvalidRecurrence, hEInvalidRecurrence⟩
  have ITInvalidRecurrence : PySem.W.kitOne K (.ref EInvalidRecurrence) (.ref EInvalidRecurrence) = some true := if_pos (by simp)
  have Fx21 := fd_mk (st := c_InvalidValues___init__) lx21 cx21 kx21
  have TEInvalidValues : XCl K EInvalidValues "ValueError" "ValueError.__new__" "ValueError.__init__" [.type "ValueError", .type "Exception", .type "BaseException", .type "object"] := ⟨PySem.F.excBase_ValueError, PySem.F.store_ValueError, iEInvalidValues, oEInvalidValues, hEInvalidValues, sEInvalidValues, xEInvalidValues, tEInvalidValues, kEInvalidValues⟩
  have XKInvalidValues : XMk l.prog w K mg base "InvalidValues" EInvalidValues 1 (g1 "index") := ⟨⟨_, _, _, _, _, g1V "index", TEInvalidValues, ax21, tyEInvalidValues, xi_InvalidValues Fx21 TEInvalidValues XBScheduleError nEInvalidValues, PySem.W.mg_of X G aEInvalidValues, g1_rel⟩, by decide⟩
  have ECInvalidValues : L2.ExcC K EInvalidValues := ⟨gEInvalidValues, qEInvalidValues, xEInvalidValues, hEInvalidValues, cEInvalidValues, xo1, xo2, mEInvalidValues⟩
  have XFInvalidValues : XfC K EInvalidValues := ⟨gEInvalidValues, qEInvalidValues, xEInvalidValues, hEInvalidValues⟩
  have ITInvalidValues : PySem.W.kitOne K (.ref EInvalidValues) (.ref EInvalidValues) = some true := if_pos (by simp)
  have XBStateError : XBase K mg "StateError" "RuntimeError.__init__" := ⟨⟨BStateError, ⟨rBStateError, gBStateError⟩, vBStateError, PySem.W.mg_of X G aBStateError⟩, by decide +kernel⟩
  have Fx22 := fd_mk (st := c_Dead___init__) lx22 cx22 kx22
  have TEDead : XCl K EDead "RuntimeError" "RuntimeError.__new__" "RuntimeError.__init__" [.type "RuntimeError", .type "Exception", .type "BaseException", .type "object"] := ⟨PySem.F.excBase_RuntimeError, PySem.F.store_RuntimeError, iEDead, oEDead, hEDead, sEDead, xEDead, tEDead, kEDead⟩
  have XKDead : XMk l.prog w K mg base "Dead" EDead 1 (g1 "index") := ⟨⟨_, _, _, _, _, g1V "index", TEDead, ax22, tyEDead, xi_Dead Fx22 TEDead XBStateError nEDead, PySem.W.mg_of X G aEDead, g1_rel⟩, by decide⟩
  have ECDead : L2.ExcC K EDead := ⟨gEDead, qEDead, xEDead, hEDead, cEDead, xo1, xo2, mEDead⟩
  have XFDead : XfC K EDead := ⟨gEDead, qEDead, xEDead, hEDead⟩
  have ITDead : PySem.W.kitOne K (.ref EDead) (.ref EDead) = some true := if_pos (by simp)
  have XE : XErr K mg EInvalidNumber EInvalidRecurrence EInvalidValues EDead := ⟨⟨PySem.W.mg_of X G aEInvalidNumber, XFInvalidNumber, nEInvalidNumber, (PySem.W.exm_ref xEInvalidNumber hEInvalidNumber tEInvalidNumber zzEInvalidNumberEInvalidNumber)⟩, ⟨PySem.W.mg_of X G aEInvalidRecurrence, XFInvalidRecurrence, nEInvalidRecurrence, (PySem.W.exm_ref xEInvalidRecurrence hEInvalidRecurrence tEInvalidRecurrence zzEInvalidRecurrenceEInvalidRecurrence)⟩, ⟨PySem.W.mg_of X G aEInvalidValues, XFInvalidValues, nEInvalidValues, (PySem.W.exm_ref xEInvalidValues hEInvalidValues tEInvalidValues zzEInvalidValuesEInvalidValues)⟩, ⟨PySem.W.mg_of X G aEDead, XFDead, nEDead, (PySem.W.exm_ref xEDead hEDead tEDead zzEDeadEDead)⟩, (PySem.W.exm_ref xEInvalidNumber hEInvalidNumber tEInvalidNumber zzEInvalidRecurrenceEInvalidNumber), (PySem.W.exm_ref xEInvalidNumber hEInvalidNumber tEInvalidNumber zzEInvalidValuesEInvalidNumber), (PySem.W.exm_ref xEInvalidRecurrence hEInvalidRecurrence tEInvalidRecurrence zzEInvalidValuesEInvalidRecurrence), (PySem.W.exm_ref xEInvalidNumber hEInvalidNumber tEInvalidNumber zzEDeadEInvalidNumber), (PySem.W.exm_ref xEInvalidRecurrence hEInvalidRecurrence tEInvalidRecurrence zzEDeadEInvalidRecurrence), (PySem.W.exm_ref xEInvalidValues hEInvalidValues tEInvalidValues zzEDeadEInvalidValues)⟩
  have Fx23 := fd_mk (st := s__law_error) lx23 cx23 kx23
  have LR : LErr l.prog w K mg base EInvalidNumber EInvalidRecurrence EInvalidValues EDead := LGd.mono (k := 1) ⟨⟨fx23, "_law_error", _, _, _, n__law_error, "_law_call", _, Fx23, q__law_error, .inl rfl, rfl, fun kV doc pm an cdv ct u => rfl, rfl, rfl, (PySem.W.mg_of X G ax23), kx23, b__law_error XE⟩⟩ (by decide)
  have Fx24 := fd_kw2 (st := s_is_whole) lx24 cx24 kx24 dw1 dw2 yw1 yw2
  have LNw : ∀ ds M R, aWhole ds M R → ds.length = 3 := fun ds M R h => by obtain ⟨n, lo, hi, rfl, _⟩ := h; rfl
  have LNw2 : ∀ ds M R, aWhN K ds M R → ds.length = 3 := fun ds M R h => by obtain ⟨d, lo, hi, rfl, _⟩ := h; rfl
  have W : GWh l.prog w K mg base := by
    refine ⟨?_, ?_⟩
    · obtain ⟨mv, kb⟩ := FunD.kbinds0 (ps := ["value", "least", "most"]) Fx24 1 [] [("least", .non), ("most", .non)] (fun us mv _ => us ++ mv) (by simp) (fun _ h => h) (fun r1 r2 _ => r1.append r2)
        (fun D doc pm an cdv ct us mv ws h1 h2 h3 => match us, mv, ws, h1, h2, h3 with | [_], [_, _], [], _, _, _ => ⟨_, _, _, _, _, _, rfl, rfl, _, _, _, _, _, _, rfl, rfl, rfl⟩)
      exact ⟨⟨fx24, fnx_kbn (k := 0) (fun ds _ => ds ++ [.non, .non]) Fx24 q_is_whole kb (fun H ds vs es zs r1 _ _ _ => r1.append (.cons .non (.cons .non .nil))) LNw (b_is_whole B), (PySem.W.mg_of X G ax24), kx24⟩⟩
    · obtain ⟨mv, kb⟩ := FunD.kbinds0 (ps := ["value", "least", "most"]) Fx24 1 ["least", "most"] [] (fun us _ ws => us ++ ws) (by simp) (fun _ h => nomatch h) (fun r1 _ r2 => r1.append r2)
        (fun D doc pm an cdv ct us mv ws h1 h2 h3 => match us, mv, ws, h1, h2, h3 with | [_], [], [_, _], _, _, _ => rfl)
      exact ⟨⟨fx24, fnx_kbn (k := 0) (fun ds es => ds ++ es) Fx24 q_is_whole kb (fun H ds vs es zs r1 r2 _ _ => r1.append r2) LNw (b_is_whole B), (PySem.W.mg_of X G ax24), kx24⟩⟩
  have W2 : GWhN l.prog w K mg base := by
    obtain ⟨mv, kb⟩ := FunD.kbinds0 (ps := ["value", "least", "most"]) Fx24 1 ["least", "most"] [] (fun us _ ws => us ++ ws) (by simp) (fun _ h => nomatch h) (fun r1 _ r2 => r1.append r2)
        (fun D doc pm an cdv ct us mv ws h1 h2 h3 => match us, mv, ws, h1, h2, h3 with | [_], [], [_, _], _, _, _ => rfl)
    exact ⟨⟨⟨fx24, fnx_kbn (k := 0) (fun ds es => ds ++ es) Fx24 q_is_whole kb (fun H ds vs es zs r1 r2 _ _ => r1.append r2) LNw2 (b_is_wholeN B), (PySem.W.mg_of X G ax24), kx24⟩⟩⟩
  have Fx25 := fd_mk (st := s_check_levels) lx25 cx25 kx25
  have HCk : GCkl l.prog w K mg base C := gd_pos Fx25 q_check_levels (fun _ _ _ _ _ _ us hl => match us, hl with | [_], _ => rfl) (fun ds M R h => by obtain ⟨S, rfl, _⟩ := h <;> rfl) (b_check_levels B T SM PL_) (PySem.W.mg_of X G ax25)
  have Fx26 := fd_mk (st := s_pruned_chain) lx26 cx26 kx26
  have HPc : GPch l.prog w K mg base C := gd_pos Fx26 q_pruned_chain (fun _ _ _ _ _ _ us hl => match us, hl with | [_], _ => rfl) (fun ds M R h => by obtain ⟨S, rfl, _⟩ := h <;> rfl) (b_pruned_chain B T OS XPR0) (PySem.W.mg_of X G ax26)
  have FM : MbX K CM := ⟨⟨pgCM, hdCM, poCM, saCM⟩, nCM0, nCM1, nCM2, nCM3, nCM4, nCM5⟩
  have Fx27 := fd_mk (st := c_Member_add) lx27 cx27 kx27
  have YAD : FX l.prog w K mg base 1 fx27 fun ds _ => aAdd CM ds := fnx_pos' Fx27 q_Member_add (fun _ _ _ _ _ _ us hl => match us, hl with | [_, _], _ => rfl) (fun ds M R h => by obtain ⟨S, pc, ps, i, t, rfl, _⟩ := h; rfl) (b_add FM)
  have AD : GAdd l.prog w K mg base CM := ⟨fx27, ⟨ax27, ix27, kx27⟩, YAD⟩
  have Fx28 := fd_mk (st := c_Member_begin) lx28 cx28 kx28
  have YBG : FX l.prog w K mg base 2 fx28 fun ds _ => aBeg CM ds := fnx_pos' Fx28 q_Member_begin (fun _ _ _ _ _ _ us hl => match us, hl with | [_], _ => rfl) (fun ds M R h => by obtain ⟨S, pc, ps, i, rfl, _⟩ := h; rfl) (b_begin B FM AD)
  have BG : GBeg l.prog w K mg base CM := ⟨fx28, ⟨ax28, ix28, kx28⟩, YBG⟩
  have Fx29 := fd_mk (st := c_Member_pruned_place) lx29 cx29 kx29
  have YPP_ : FX l.prog w K mg base 1 fx29 fun ds _ => aPpl CM ds := fnx_pos' Fx29 q_Member_pruned_place (fun _ _ _ _ _ _ us hl => match us, hl with | [_, _], _ => rfl) (fun ds M R h => by obtain ⟨S, pc, ps, i, t, m, rfl, _⟩ := h; rfl) (b_pruned_place FM)
  have PP_ : GPpl l.prog w K mg base CM := ⟨fx29, ⟨ax29, ix29, kx29⟩, YPP_⟩
  have Fx30 := fd_mk (st := c_Member_places_at) lx30 cx30 kx30
  have YPAt : FX l.prog w K mg base 2 fx30 fun ds _ => aPat CM ds := fnx_pos' Fx30 q_Member_places_at (fun _ _ _ _ _ _ us hl => match us, hl with | [_, _, _], _ => rfl) (fun ds M R h => by obtain ⟨S, pc, ps, i, t, n, rfl, _⟩ := h; rfl) (b_places_at B FM PP_)
  have PAt : GPat l.prog w K mg base CM := ⟨fx30, ⟨ax30, ix30, kx30⟩, YPAt⟩
  have Fx31 := fd_mk (st := c_Member___init__) lx31 cx31 kx31
  have YIM : FX l.prog w K mg base 4 fx31 fun ds _ => aMbi C CM ds := fnx_pos' Fx31 q_Member___init__ (fun _ _ _ _ _ _ us hl => match us, hl with | [_, _], _ => rfl) (fun ds M R h => by obtain ⟨p, S, M0, rfl, _⟩ := h; rfl) (b_member B T SM PA FM)
  have IM : MkM l.prog w K mg base C CM := ⟨PySem.W.mg_of X G aCM, ⟨fx31, ⟨mkCM, ax31, ix31, kcCM⟩, YIM⟩⟩
  have Y : SyX K mg CY := ⟨⟨pgCY, hdCY, poCY, saCY⟩, PySem.W.mg_of X G aCY, nCY0, nCY1, nCY2, nCY3, ⟨_, _, ⟨rCY, gCY⟩, ⟨vsCY, ⟨_, rfl⟩⟩⟩, ⟨_, _, ⟨rCY, gCY⟩, ⟨vtCY, ⟨_, rfl⟩⟩⟩⟩
  have Fx32 := fd_mk (st := c_System___init__) lx32 cx32 kx32
  have YIY : FX l.prog w K mg base 10 fx32 fun ds _ => aSyi C CM CY ds := fnx_pos' Fx32 q_System___init__ (fun _ _ _ _ _ _ us hl => match us, hl with | [_, _], _ => rfl) (fun ds M R h => by obtain ⟨p, S, M0, rfl, _⟩ := h; rfl) (b_system B T PA HCk HPc Y FM IM BG)
  have MY : MkY l.prog w K mg base C CM CY := ⟨⟨fx32, ⟨mkCY, ax32, ix32, kcCY⟩, YIY⟩⟩
  have Fx33 := fd_mk (st := c_System_size) lx33 cx33 kx33
  have YPZ : FX l.prog w K mg base 2 fx33 fun ds _ => aSiz C CM CY ds := fnx_pos' Fx33 q_System_size (fun _ _ _ _ _ _ us hl => match us, hl with | [_], _ => rfl) (fun ds M R h => by obtain ⟨S, cs, b, pc, ps, rfl, _⟩ := h; rfl) (b_size B Y)
  have PZ : PrZ l.prog w K mg base C CM CY := ⟨⟨pNx33, fx33, ⟨ax33, gx33, tx33, _, bx33⟩, YPZ⟩⟩
  have Fx34 := fd_mk (st := c_System_thresholds) lx34 cx34 kx34
  have YPT_ : FX l.prog w K mg base 2 fx34 fun ds _ => aThr C CM CY ds := fnx_pos' Fx34 q_System_thresholds (fun _ _ _ _ _ _ us hl => match us, hl with | [_], _ => rfl) (fun ds M R h => by obtain ⟨S, cs, b, pc, ps, rfl, _⟩ := h; rfl) (b_thresholds B Y FM)
  have PT_ : PrT l.prog w K mg base C CM CY := ⟨⟨pNx34, fx34, ⟨ax34, gx34, tx34, _, bx34⟩, YPT_⟩⟩
  have Fx35 := fd_mk (st := c_System_read_by) lx35 cx35 kx35
  have YRB : FX l.prog w K mg base 1 fx35 fun ds _ => aRby C CM CY ds := fnx_pos' Fx35 q_System_read_by (fun _ _ _ _ _ _ us hl => match us, hl with | [_, _], _ => rfl) (fun ds M R h => by obtain ⟨S, cs, b, pc, ps, i, rfl, _⟩ := h; rfl) (b_read_by B Y)
  have RB : GRby l.prog w K mg base C CM CY := ⟨fx35, ⟨ax35, ix35, kx35⟩, YRB⟩
  have Fx36 := fd_mk (st := c_System_extend) lx36 cx36 kx36
  have YEX : FX l.prog w K mg base 3 fx36 fun ds _ => aExt C CM CY ds := fnx_pos' Fx36 q_System_extend (fun _ _ _ _ _ _ us hl => match us, hl with | [_, _], _ => rfl) (fun ds M R h => by obtain ⟨S, cs, b, pc, ps, n, t, M0, rfl, _⟩ := h; rfl) (b_extend B Y FM RB PAt AD)
  have EX : GExt l.prog w K mg base C CM CY := ⟨fx36, ⟨ax36, ix36, kx36⟩, YEX⟩
  have Fx37 := fd_mk (st := c_System_places_read) lx37 cx37 kx37
  have LNp : ∀ ds M R PE, aPlr K C CM CY EInvalidNumber ds M R PE → ds.length = 3 := fun ds M R PE h => by obtain ⟨S, cs, b, pc, ps, i, d, e, rfl, _⟩ := h; rfl
  have EP := e_places_read (f := fx37) B Y FM W W2 EX PAt XKInvalidNumber
  have PL : PlrS l.prog w K mg base C CM CY EInvalidNumber := ⟨⟨fx37, ⟨ax37, ix37, kx37⟩, fne_pos Fx37 q_System_places_read (fun _ _ _ _ _ _ us hl => match us, hl with | [_, _, _], _ => rfl) LNp EP,
    (fne_kwS (n := 1) (ks := ["n", "index"]) Fx37 q_System_places_read (fun _ _ _ _ _ _ us ws h1 h2 => match us, ws, h1, h2 with | [_], [_, _], _, _ => rfl) LNp EP).toX⟩⟩
  have Fx38 := fd_mk (st := s__law_draw) lx38 cx38 kx38
  have HDr0 : Gd l.prog w K mg base 1 "_law_draw" [] fun ds _ => aDrC ds := gd_pos Fx38 q__law_draw (fun _ _ _ _ _ _ us hl => match us, hl with | [_, _], _ => rfl) (fun ds M R h => by obtain ⟨p, x, y, z, n, M0, rfl, _⟩ := h <;> rfl) (b__law_draw5 (k := 0)) (PySem.W.mg_of X G ax38)
  have Fx39 := fd_mk (st := s__law_begin) lx39 cx39 kx39
  have HBg0 : Gd l.prog w K mg base 1 "_law_begin" [] fun ds _ => aBgC ds := gd_pos Fx39 q__law_begin (fun _ _ _ _ _ _ us hl => match us, hl with | [_, _], _ => rfl) (fun ds M R h => by obtain ⟨ns, sp, rfl, _⟩ := h <;> rfl) (b__law_begin5 (k := 0) B) (PySem.W.mg_of X G ax39)
  have DR := dr5 HDr0
  have BB := bg5 HBg0
  have Fx40 := fd_mk (st := s__law_places) lx40 cx40 kx40
  have HPl : GPlc l.prog w K mg base := gd_pos Fx40 q__law_places (fun _ _ _ _ _ _ us hl => match us, hl with | [_, _, _, _], _ => rfl) (fun ds M R h => by obtain ⟨k, xs, ys, s, l, last, rfl, _⟩ := h <;> rfl) (b__law_places (k := 0)) (PySem.W.mg_of X G ax40)
  have Fx41 := fd_mk (st := s__law_counts) lx41 cx41 kx41
  have HCt : GCts l.prog w K mg base := gd_pos Fx41 q__law_counts (fun _ _ _ _ _ _ us hl => match us, hl with | [_, _, _, _], _ => rfl) (fun ds M R h => by obtain ⟨k, xs, ys, s, l, last, av, rfl, _⟩ := h <;> rfl) (b__law_counts B HPl) (PySem.W.mg_of X G ax41)
  have Fx42 := fd_mk (st := s__law_stream) lx42 cx42 kx42
  have GS_ : GStr l.prog w K mg base := gd_pos Fx42 q__law_stream (fun _ _ _ _ _ _ us hl => match us, hl with | [_, _], _ => rfl) (fun ds M R h => by obtain ⟨p, i, lo, rfl, _⟩ := h <;> rfl) (b__law_stream B DR) (PySem.W.mg_of X G ax42)
  have Fx43 := fd_mk (st := s__law_items) lx43 cx43 kx43
  have GIt : GItm l.prog w K mg base := gd_pos Fx43 q__law_items (fun _ _ _ _ _ _ us hl => match us, hl with | [_, _], _ => rfl) (fun ds M R h => by obtain ⟨s, sh, lo, rfl, _⟩ := h <;> rfl) (b__law_items B) (PySem.W.mg_of X G ax43)
  have Fx44 := fd_mk (st := s__law_pruned) lx44 cx44 kx44
  have GPn : GPrn l.prog w K mg base := gd_pos Fx44 q__law_pruned (fun _ _ _ _ _ _ us hl => match us, hl with | [_, _, _, _], _ => rfl) (fun ds M R h => by obtain ⟨k, xs, ys, s, l, BB, m, rfl, _⟩ := h <;> rfl) (b__law_pruned B) (PySem.W.mg_of X G ax44)
  have Fx45 := fd_mk (st := s__law_places_right) lx45 cx45 kx45
  have GPR : GPrt l.prog w K mg base C CM CY := gd_pos Fx45 q__law_places_right (fun _ _ _ _ _ _ us hl => match us, hl with | [_, _, _, _, _, _], _ => rfl) (fun ds M R h => by obtain ⟨S, cs, b, pc, ps, i, k, a, n, s, l, rfl, _⟩ := h <;> rfl) (b__law_places_right B Y PL GIt HPl HCt GPn) (PySem.W.mg_of X G ax45)
  have GRf : Gd l.prog w K mg base 10 "_law_refused" [] fun ds _ => aRfs C CM CY Ptx46 ds := ⟨⟨fx46, fnx_posT lx46 cx46 q__law_refused (fun us hl => match us, hl with | [_, _], _ => rfl) (fun ds M R h => by obtain ⟨S, cs, b, pc, ps, i, j, a, rfl, _⟩ := h; rfl) (b__law_refused B (PySem.W.mg_none_of X G z12) Y PZ PT_ PL LR TBx46), (PySem.W.mg_of X G ax46), kx46⟩⟩
  have Fx47 := fd_mk (st := s_law) lx47 cx47 kx47
  have e := hfa.symm.trans (PySem.W.mg_of X G ax47)
  cases e
  exact fnx_pos' (s0 := aLawO Ptx46) Fx47 q_law (fun _ _ _ _ _ _ us hl => match us, hl with | [_], _ => rfl) (fun ds M R h => by obtain ⟨ns, rfl, _⟩ := h; rfl) (b_law B T MK MD Y MY PZ PT_ PL BB DR GS_ GPR GRf)
end K39
/-! Ab113: the head by one kernel run, where tables of code objects are looked at as well -/
open PySem PySem.W PyProof.Rows in
set_option maxHeartbeats 0 in
theorem PySem.Challenge.cw_nestcount_k39_places_read_holds : PySem.Challenge.rw_nestcount_k39_places_read.Holds := by
  refine HDTOP ?_
  k_fill
  refine Ab.walk_xT (l := PySem.Challenge.rw_nestcount_k39_places_read) (k := 13) rfl rfl ⟨rfl, by decide, by decide⟩ (fun w h Y => PySem.W.km_in_of Y) ["_law_refused"] (by kernel_rfl) ?F
  case F =>
    intro w mg fa h KX G hmg own
    refine' K39.allX KX G hmg own ?u0 ?u1 ?u2 ?u3 ?aC ?pgC ?hdC ?poC ?saC ?mkC ?kcC ?nC0 ?nC1 ?nC2 ?e1C ?e2C ?e3C ?e4C ?e6C ?e7C ?ax1 ?lx1 ?cx1 ?kx1 ?d1 ?d2 ?ax2 ?lx2 ?cx2 ?kx2 ?dx2 ?ax3 ?lx3 ?cx3 ?kx3 ?ax4 ?lx4 ?cx4 ?kx4 ?ax5 ?lx5 ?cx5 ?kx5 ?ax6 ?lx6 ?cx6 ?kx6 ?ax7 ?lx7 ?cx7 ?kx7 ?ax8 ?lx8 ?cx8 ?kx8 ?rd ?ga ?ax9 ?bx9 ?lx9 ?cx9 ?kx9 ?ax10 ?ix10 ?lx10 ?cx10 ?kx10 ?dsi1 ?dsi2 ?wl1 ?wl3 ?wl4 ?wl2 ?wl7 ?wl8 ?ax11 ?lx11 ?cx11 ?kx11 ?ax12 ?ix12 ?lx12 ?cx12 ?kx12 ?ax13 ?ix13 ?lx13 ?cx13 ?kx13 ?ax14 ?ix14 ?lx14 ?cx14 ?kx14 ?ax15 ?gx15 ?tx15 ?bx15 ?lx15 ?cx15 ?kx15 ?ax16 ?gx16 ?tx16 ?bx16 ?lx16 ?cx16 ?kx16 ?ax17 ?gx17 ?tx17 ?bx17 ?lx17 ?cx17 ?kx17 ?ax18 ?ix18 ?lx18 ?cx18 ?kx18 ?dx18 ?aBScheduleError ?rBScheduleError ?gBScheduleError ?vBScheduleError ?sBScheduleError ?hBScheduleError ?tBScheduleError ?xo1 ?xo2 ?aEInvalidNumber ?iEInvalidNumber ?oEInvalidNumber ?hEInvalidNumber ?sEInvalidNumber ?xEInvalidNumber ?tEInvalidNumber ?kEInvalidNumber ?nEInvalidNumber ?gEInvalidNumber ?qEInvalidNumber ?cEInvalidNumber ?mEInvalidNumber ?ax19 ?ix19 ?lx19 ?cx19 ?kx19 ?tyEInvalidNumber ?aEInvalidRecurrence ?iEInvalidRecurrence ?oEInvalidRecurrence ?hEInvalidRecurrence ?sEInvalidRecurrence ?xEInvalidRecurrence ?tEInvalidRecurrence ?kEInvalidRecurrence ?nEInvalidRecurrence ?gEInvalidRecurrence ?qEInvalidRecurrence ?cEInvalidRecurrence ?mEInvalidRecurrence ?ax20 ?ix20 ?lx20 ?cx20 ?kx20 ?tyEInvalidRecurrence ?aEInvalidValues ?iEInvalidValues ?oEInvalidValues ?hEInvalidValues ?sEInvalidValues ?xEInvalidValues ?tEInvalidValues ?kEInvalidValues ?nEInvalidValues ?gEInvalidValues ?qEInvalidValues ?cEInvalidValues ?mEInvalidValues ?ax21 ?ix21 ?lx21 ?cx21 ?kx21 ?tyEInvalidValues ?aBStateError ?rBStateError ?gBStateError ?vBStateError ?sBStateError ?hBStateError ?tBStateError ?aEDead ?iEDead ?oEDead ?hEDead ?sEDead ?xEDead ?tEDead ?kEDead ?nEDead ?gEDead ?qEDead ?cEDead ?mEDead ?ax22 ?ix22 ?lx22 ?cx22 ?kx22 ?tyEDead ?zzEInvalidNumberEInvalidNumber ?zzEInvalidRecurrenceEInvalidRecurrence ?zzEInvalidValuesEInvalidValues ?zzEDeadEDead ?zzEInvalidRecurrenceEInvalidNumber ?zzEInvalidValuesEInvalidNumber ?zzEInvalidValuesEInvalidRecurrence ?zzEDeadEInvalidNumber ?zzEDeadEInvalidRecurrence ?zzEDeadEInvalidValues ?ax23 ?lx23 ?cx23 ?kx23 ?ax24 ?lx24 ?cx24 ?kx24 ?dw1 ?dw2 ?ax25 ?lx25 ?cx25 ?kx25 ?ax26 ?lx26 ?cx26 ?kx26 ?aCM ?pgCM ?hdCM ?poCM ?saCM ?mkCM ?kcCM ?nCM0 ?nCM1 ?nCM2 ?nCM3 ?nCM4 ?nCM5 ?e1CM ?e2CM ?e3CM ?e4CM ?ax27 ?ix27 ?lx27 ?cx27 ?kx27 ?ax28 ?ix28 ?lx28 ?cx28 ?kx28 ?ax29 ?ix29 ?lx29 ?cx29 ?kx29 ?ax30 ?ix30 ?lx30 ?cx30 ?kx30 ?ax31 ?ix31 ?lx31 ?cx31 ?kx31 ?aCY ?pgCY ?hdCY ?poCY ?saCY ?mkCY ?kcCY ?nCY0 ?nCY1 ?nCY2 ?nCY3 ?e1CY ?e2CY ?e3CY ?e4CY ?rCY ?gCY ?vsCY ?vtCY ?ax32 ?ix32 ?lx32 ?cx32 ?kx32 ?ax33 ?gx33 ?tx33 ?bx33 ?lx33 ?cx33 ?kx33 ?ax34 ?gx34 ?tx34 ?bx34 ?lx34 ?cx34 ?kx34 ?ax35 ?ix35 ?lx35 ?cx35 ?kx35 ?ax36 ?ix36 ?lx36 ?cx36 ?kx36 ?ax37 ?ix37 ?lx37 ?cx37 ?kx37 ?ax38 ?lx38 ?cx38 ?kx38 ?ax39 ?lx39 ?cx39 ?kx39 ?ax40 ?lx40 ?cx40 ?kx40 ?ax41 ?lx41 ?cx41 ?kx41 ?ax42 ?lx42 ?cx42 ?kx42 ?ax43 ?lx43 ?cx43 ?kx43 ?ax44 ?lx44 ?cx44 ?kx44 ?ax45 ?lx45 ?cx45 ?kx45 ?ax46 ?lx46 ?cx46 ?kx46 ?dx46 ?vx46 ?npx46 ?chx46 ?ax47 ?lx47 ?cx47 ?kx47 ?z0 ?z1 ?z2 ?z3 ?z4 ?z5 ?z6 ?z7 ?z8 ?z9 ?z10 ?z11 ?z12 ?y1 ?y2 ?yw1 ?yw2
    (case u0 => k_is)
    (case u1 => k_is)
    (case u2 => k_is)
    (case u3 => k_is)
    (case aC => k_is)
    (case pgC => k_is)
    (case hdC => k_is)
    (case poC => k_is)
    (case saC => k_is)
    (case mkC => k_is)
    (case kcC => k_is)
    (case nC0 => k_is)
    (case nC1 => k_is)
    (case nC2 => k_is)
    (case e1C => k_is)
    (case e2C => k_is)
    (case e3C => k_is)
    (case e4C => k_is)
    (case e6C => k_is)
    (case e7C => k_is)
    (case ax1 => k_is)
    (case lx1 => k_is)
    (case cx1 => k_is)
    (case kx1 => k_is)
    (case d1 => k_is)
    (case d2 => k_is)
    (case ax2 => k_is)
    (case lx2 => k_is)
    (case cx2 => k_is)
    (case kx2 => k_is)
    (case dx2 => k_is)
    (case ax3 => k_is)
    (case lx3 => k_is)
    (case cx3 => k_is)
    (case kx3 => k_is)
    (case ax4 => k_is)
    (case lx4 => k_is)
    (case cx4 => k_is)
    (case kx4 => k_is)
    (case ax5 => k_is)
    (case lx5 => k_is)
    (case cx5 => k_is)
    (case kx5 => k_is)
    (case ax6 => k_is)
    (case lx6 => k_is)
    (case cx6 => k_is)
    (case kx6 => k_is)
    (case ax7 => k_is)
    (case lx7 => k_is)
    (case cx7 => k_is)
    (case kx7 => k_is)
    (case ax8 => k_is)
    (case lx8 => k_is)
    (case cx8 => k_is)
    (case kx8 => k_is)
    (case rd => k_is)
    (case ga => k_is)
    (case ax9 => k_is)
    (case bx9 => k_is)
    (case lx9 => k_is)
    (case cx9 => k_is)
    (case kx9 => k_is)
    (case ax10 => k_is)
    (case ix10 => k_is)
    (case lx10 => k_is)
    (case cx10 => k_is)
    (case kx10 => k_is)
    (case dsi1 => k_is)
    (case dsi2 => k_is)
    (case wl1 => k_is)
    (case wl3 => k_is)
    (case wl4 => k_is)
    (case wl2 => k_is)
    (case wl7 => k_is)
    (case wl8 => k_is)
    (case ax11 => k_is)
    (case lx11 => k_is)
    (case cx11 => k_is)
    (case kx11 => k_is)
    (case ax12 => k_is)
    (case ix12 => k_is)
    (case lx12 => k_is)
    (case cx12 => k_is)
    (case kx12 => k_is)
    (case ax13 => k_is)
    (case ix13 => k_is)
    (case lx13 => k_is)
    (case cx13 => k_is)
    (case kx13 => k_is)
    (case ax14 => k_is)
    (case ix14 => k_is)
    (case lx14 => k_is)
    (case cx14 => k_is)
    (case kx14 => k_is)
    (case ax15 => k_is)
    (case gx15 => k_is)
    (case tx15 => k_is)
    (case bx15 => k_is)
    (case lx15 => k_is)
    (case cx15 => k_is)
    (case kx15 => k_is)
    (case ax16 => k_is)
    (case gx16 => k_is)
    (case tx16 => k_is)
    (case bx16 => k_is)
    (case lx16 => k_is)
    (case cx16 => k_is)
    (case kx16 => k_is)
    (case ax17 => k_is)
    (case gx17 => k_is)
    (case tx17 => k_is)
    (case bx17 => k_is)
    (case lx17 => k_is)
    (case cx17 => k_is)
    (case kx17 => k_is)
    (case ax18 => k_is)
    (case ix18 => k_is)
    (case lx18 => k_is)
    (case cx18 => k_is)
    (case kx18 => k_is)
    (case dx18 => k_is)
    (case aBScheduleError => k_is)
    (case rBScheduleError => k_is)
    (case gBScheduleError => k_is)
    (case vBScheduleError => k_is)
    (case sBScheduleError => k_is)
    (case hBScheduleError => k_is)
    (case tBScheduleError => k_is)
    (case xo1 => k_is)
    (case xo2 => k_is)
    (case aEInvalidNumber => k_is)
    (case iEInvalidNumber => kx_is)
    (case oEInvalidNumber => kx_is)
    (case hEInvalidNumber => k_is)
    (case sEInvalidNumber => k_is)
    (case xEInvalidNumber => k_is)
    (case tEInvalidNumber => k_is)
    (case kEInvalidNumber => k_is)
    (case nEInvalidNumber => k_is)
    (case gEInvalidNumber => k_is)
    (case qEInvalidNumber => k_is)
    (case cEInvalidNumber => k_is)
    (case mEInvalidNumber => k_is)
    (case ax19 => k_is)
    (case ix19 => k_is)
    (case lx19 => k_is)
    (case cx19 => k_is)
    (case kx19 => k_is)
    (case tyEInvalidNumber => k_is)
    (case aEInvalidRecurrence => k_is)
    (case iEInvalidRecurrence => kx_is)
    (case oEInvalidRecurrence => kx_is)
    (case hEInvalidRecurrence => k_is)
    (case sEInvalidRecurrence => k_is)
    (case xEInvalidRecurrence => k_is)
    (case tEInvalidRecurrence => k_is)
    (case kEInvalidRecurrence => k_is)
    (case nEInvalidRecurrence => k_is)
    (case gEInvalidRecurrence => k_is)
    (case qEInvalidRecurrence => k_is)
    (case cEInvalidRecurrence => k_is)
    (case mEInvalidRecurrence => k_is)
    (case ax20 => k_is)
    (case ix20 => k_is)
    (case lx20 => k_is)
    (case cx20 => k_is)
    (case kx20 => k_is)
    (case tyEInvalidRecurrence => k_is)
    (case aEInvalidValues => k_is)
    (case iEInvalidValues => kx_is)
    (case oEInvalidValues => kx_is)
    (case hEInvalidValues => k_is)
    (case sEInvalidValues => k_is)
    (case xEInvalidValues => k_is)
    (case tEInvalidValues => k_is)
    (case kEInvalidValues => k_is)
    (case nEInvalidValues => k_is)
    (case gEInvalidValues => k_is)
    (case qEInvalidValues => k_is)
    (case cEInvalidValues => k_is)
    (case mEInvalidValues => k_is)
    (case ax21 => k_is)
    (case ix21 => k_is)
    (case lx21 => k_is)
    (case cx21 => k_is)
    (case kx21 => k_is)
    (case tyEInvalidValues => k_is)
    (case aBStateError => k_is)
    (case rBStateError => k_is)
    (case gBStateError => k_is)
    (case vBStateError => k_is)
    (case sBStateError => k_is)
    (case hBStateError => k_is)
    (case tBStateError => k_is)
    (case aEDead => k_is)
    (case iEDead => kx_is)
    (case oEDead => kx_is)
    (case hEDead => k_is)
    (case sEDead => k_is)
    (case xEDead => k_is)
    (case tEDead => k_is)
    (case kEDead => k_is)
    (case nEDead => k_is)
    (case gEDead => k_is)
    (case qEDead => k_is)
    (case cEDead => k_is)
    (case mEDead => k_is)
    (case ax22 => k_is)
    (case ix22 => k_is)
    (case lx22 => k_is)
    (case cx22 => k_is)
    (case kx22 => k_is)
    (case tyEDead => k_is)
    (case zzEInvalidNumberEInvalidNumber => k_is)
    (case zzEInvalidRecurrenceEInvalidRecurrence => k_is)
    (case zzEInvalidValuesEInvalidValues => k_is)
    (case zzEDeadEDead => k_is)
    (case zzEInvalidRecurrenceEInvalidNumber => k_is)
    (case zzEInvalidValuesEInvalidNumber => k_is)
    (case zzEInvalidValuesEInvalidRecurrence => k_is)
    (case zzEDeadEInvalidNumber => k_is)
    (case zzEDeadEInvalidRecurrence => k_is)
    (case zzEDeadEInvalidValues => k_is)
    (case ax23 => k_is)
    (case lx23 => k_is)
    (case cx23 => k_is)
    (case kx23 => k_is)
    (case ax24 => k_is)
    (case lx24 => k_is)
    (case cx24 => k_is)
    (case kx24 => k_is)
    (case dw1 => k_is)
    (case dw2 => k_is)
    (case ax25 => k_is)
    (case lx25 => k_is)
    (case cx25 => k_is)
    (case kx25 => k_is)
    (case ax26 => k_is)
    (case lx26 => k_is)
    (case cx26 => k_is)
    (case kx26 => k_is)
    (case aCM => k_is)
    (case pgCM => k_is)
    (case hdCM => k_is)
    (case poCM => k_is)
    (case saCM => k_is)
    (case mkCM => k_is)
    (case kcCM => k_is)
    (case nCM0 => k_is)
    (case nCM1 => k_is)
    (case nCM2 => k_is)
    (case nCM3 => k_is)
    (case nCM4 => k_is)
    (case nCM5 => k_is)
    (case e1CM => k_is)
    (case e2CM => k_is)
    (case e3CM => k_is)
    (case e4CM => k_is)
    (case ax27 => k_is)
    (case ix27 => k_is)
    (case lx27 => k_is)
    (case cx27 => k_is)
    (case kx27 => k_is)
    (case ax28 => k_is)
    (case ix28 => k_is)
    (case lx28 => k_is)
    (case cx28 => k_is)
    (case kx28 => k_is)
    (case ax29 => k_is)
    (case ix29 => k_is)
    (case lx29 => k_is)
    (case cx29 => k_is)
    (case kx29 => k_is)
    (case ax30 => k_is)
    (case ix30 => k_is)
    (case lx30 => k_is)
    (case cx30 => k_is)
    (case kx30 => k_is)
    (case ax31 => k_is)
    (case ix31 => k_is)
    (case lx31 => k_is)
    (case cx31 => k_is)
    (case kx31 => k_is)
    (case aCY => k_is)
    (case pgCY => k_is)
    (case hdCY => k_is)
    (case poCY => k_is)
    (case saCY => k_is)
    (case mkCY => k_is)
    (case kcCY => k_is)
    (case nCY0 => k_is)
    (case nCY1 => k_is)
    (case nCY2 => k_is)
    (case nCY3 => k_is)
    (case e1CY => k_is)
    (case e2CY => k_is)
    (case e3CY => k_is)
    (case e4CY => k_is)
    (case rCY => k_is)
    (case gCY => k_is)
    (case vsCY => k_is)
    (case vtCY => k_is)
    (case ax32 => k_is)
    (case ix32 => k_is)
    (case lx32 => k_is)
    (case cx32 => k_is)
    (case kx32 => k_is)
    (case ax33 => k_is)
    (case gx33 => k_is)
    (case tx33 => k_is)
    (case bx33 => k_is)
    (case lx33 => k_is)
    (case cx33 => k_is)
    (case kx33 => k_is)
    (case ax34 => k_is)
    (case gx34 => k_is)
    (case tx34 => k_is)
    (case bx34 => k_is)
    (case lx34 => k_is)
    (case cx34 => k_is)
    (case kx34 => k_is)
    (case ax35 => k_is)
    (case ix35 => k_is)
    (case lx35 => k_is)
    (case cx35 => k_is)
    (case kx35 => k_is)
    (case ax36 => k_is)
    (case ix36 => k_is)
    (case lx36 => k_is)
    (case cx36 => k_is)
    (case kx36 => k_is)
    (case ax37 => k_is)
    (case ix37 => k_is)
    (case lx37 => k_is)
    (case cx37 => k_is)
    (case kx37 => k_is)
    (case ax38 => k_is)
    (case lx38 => k_is)
    (case cx38 => k_is)
    (case kx38 => k_is)
    (case ax39 => k_is)
    (case lx39 => k_is)
    (case cx39 => k_is)
    (case kx39 => k_is)
    (case ax40 => k_is)
    (case lx40 => k_is)
    (case cx40 => k_is)
    (case kx40 => k_is)
    (case ax41 => k_is)
    (case lx41 => k_is)
    (case cx41 => k_is)
    (case kx41 => k_is)
    (case ax42 => k_is)
    (case lx42 => k_is)
    (case cx42 => k_is)
    (case kx42 => k_is)
    (case ax43 => k_is)
    (case lx43 => k_is)
    (case cx43 => k_is)
    (case kx43 => k_is)
    (case ax44 => k_is)
    (case lx44 => k_is)
    (case cx44 => k_is)
    (case kx44 => k_is)
    (case ax45 => k_is)
    (case lx45 => k_is)
    (case cx45 => k_is)
    (case kx45 => k_is)
    (case ax46 => k_is)
    (case lx46 => k_is)
    (case cx46 => k_is)
    (case kx46 => k_is)
    (case dx46 => k_is)
    (case vx46 => exact rfl)
    (case npx46 => first | kernel_rfl | exact rfl)
    (case chx46 => first | kernel_rfl | exact rfl)
    (case ax47 => k_is)
    (case lx47 => k_is)
    (case cx47 => k_is)
    (case kx47 => k_is)
    (case z0 => k_is)
    (case z1 => k_is)
    (case z2 => k_is)
    (case z3 => k_is)
    (case z4 => k_is)
    (case z5 => k_is)
    (case z6 => k_is)
    (case z7 => k_is)
    (case z8 => k_is)
    (case z9 => k_is)
    (case z10 => k_is)
    (case z11 => k_is)
    (case z12 => k_is)
    (case y1 => exact rfl)
    (case y2 => exact rfl)
    (case yw1 => exact rfl)
    (case yw2 => exact rfl)
