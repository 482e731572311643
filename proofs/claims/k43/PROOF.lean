import PyProof.Rows.All
import Wide.All
import OpenK.AllK
import Wide.FinOn
import HandS.ForMost
import HandS.Walk
import HandS.Flow
import HandS.Defaults
import HandS.Star
import HandS.MakeKwOnly
import HandS.Property
import HandS.ClsMeth
import HandS.IsInst
import HandS.TupAny
import HandS.SortInts
import HandS.Conv
import HandS.Exc
import HandS.Lambda
import KE.GoesEnum
import HandS.OwnEq
import PyProof.InstNe
import HandS.NoneIn
import HandS.TupMul
import HandS.Flt
import KE.DatumOrd
import HandS.NestedK
import HandS.GenCall
import PySem.Challenge.RW_nestcount_k43_whole_no_conflict_no_obsta
import HandS.Wide
import HandS.WideBits
import HandS.Style
import HandS.Call
import KE.KSuper
import HandS.ExcInit
import HandS.ExcField
import HandS.ExcOwn
import HandS.ExcValue
import KE.KExcInit
import KE.KTryMore
import HandS.TryMany
import KE.KExcIs
import HandS.ExcIs
import HandS.Zip
import KE.KStar
import HandS.MethStar
import HandS.GenBody
import HandS.GenYield
import HandS.GenList
import HandS.Iter
import KE.KParD
import HandS.DictComp
import HandS.ListItems
import KE.KIsAll
import HandS.Deep
import HandS.List
import PyProof.EqAt
import HandS.FStr
import KE.KCallOwn
import KE.KFmtOwn
import PyProof.InstSpecial
import HandS.Text
import HandS.Codes
import HandS.Steps
import KE.KDictZip
import KE.KItemsList
import HandS.Strs
import KE.KTupSum
import HandS.EndOwn
import KE.OsRunLaw
import KE.KNestM
import KE.KExcLine
import KE.RegKSuper
set_option Elab.async false
set_option linter.all false
set_option maxRecDepth 100000
set_option maxHeartbeats 2000000
namespace Ab
open PySem PySem.W PySem.Calls PyProof.Rows HeadRun
theorem left_oneKm {p q : Program} {loose : List Str} {Xt : Shared → Bool} {K : Params → Frag} {as : List Addr} {ek : ∀ P, as = (K P).map (·.1)} {ts : List Addr} {N M : Nat}
    (e : opening p = plainProg p.main.scope.names) (hN : Nat.ble 600 N = true) (f : ∀ s, fenceModules? p s = some s) (le : Nat.ble M N = true)
    (run : ∀ (w : World) (os : OsState), (endF (stepQ (denQ tabQ) p w) M p w os).map (fun s => (looksF p (boot_heap w.params) s.abs, seenQ q loose (importedModules p.main.body) Xt s.abs, (as.map (getT s), ts.map (getT s)))) = some (true, openGood q loose, ((K w.params).map fun x => some x.2, ts.map fun _ => some (tabObj #[])))) :
    LeftO p q loose Xt (Hook.obs (kmHook K as ek ts)) (Hook.val (kmHook K as ek ts)) N true :=
  left_one (M := M) e hN f le fun w os => by
    have z := run w os
    have eo : (fun s : SharedT => (looksF p (boot_heap w.params) s.abs, seenQ q loose (importedModules p.main.body) Xt s.abs, (as.map (getT s), ts.map (getT s)))) = fun s => (looksF p (boot_heap w.params) s.abs, seenQ q loose (importedModules p.main.body) Xt s.abs, Hook.obs (kmHook K as ek ts) s.abs) := by
      funext s
      have q1 : (as.map (getT s), ts.map (getT s)) = Hook.obs (kmHook K as ek ts) s.abs := by
        show _ = (as.map s.abs.heap.get?, ts.map s.abs.heap.get?)
        rw [List.map_congr_left fun a _ => getT_eq s a, List.map_congr_left fun a _ => getT_eq s a]
      rw [q1]
      rfl
    rw [eo] at z
    simp only [endQ_eq, seenQ_eq]
    exact z
end Ab

local macro_rules
  | `(tactic| o_head $H) => `(tactic| o_headL $H)
local macro_rules
  | `(tactic| refine $e) => match e with
    | `($f:ident (M := $m) $a $b $c $d $r) => if f.getId.eraseMacroScopes == `HeadRun.left_oneK then `(tactic| refine Ab.left_oneKm (M := $m) $a $b $c $d $r) else Lean.Macro.throwUnsupported
    | _ => Lean.Macro.throwUnsupported
open PySem PySem.W PyProof.Rows in
set_option maxHeartbeats 0 in
open_top HD43 for PySem.Challenge.rw_nestcount_k43_whole_no_conflict_no_obsta
/-! Ab: an abstract state over HandS: values without addresses, a list of cells that may change; no heap is seen by a def's proof. -/
namespace Ab
open PySem PySem.Spec PyProof.Rows L2
/-- the object at b, as it stands -/
def rawH (b : Addr) (o : Obj) : HO := .ext fun h => h.get? b = some o
/-- all but raw things -/
def Kp (H H' : Hp) : Prop := ∀ b x, H b = some x → (∀ o, x ≠ rawH b o) → H' b = some x
theorem Kp.refl (H : Hp) : Kp H H := fun _ _ e _ => e
theorem Kp.same {H H' : Hp} (e : Same H H') : Kp H H' := fun b x h _ => e b x h
theorem Kp.trans {H H1 H2 : Hp} (a : Kp H H1) (b : Kp H1 H2) : Kp H H2 := fun c x h n => b c x (a c x h n) n
inductive Val where
  | non | bl (b : Bool) | int (i : Int) | str (x : Str) | ty (n : String) | ptr (a : Addr)
  | lst (xs : List Val) | tup (xs : List Val)
  | obj (C : Addr) (fs : List (Str × Val))
  | exc (C : Addr) (fs : List (Str × Val))
  /-- a lambda; what stood when it was made -/
  | lam (a : Addr) (H1 : Hp)
/-- a caught exception of the class at C, its dict -/
def exH (a C : Addr) (d : Option Addr) : HO := .ext fun h => ∃ (oe : Obj) (vs : Array Value), h.get? a = some oe ∧ Zc (.ref C) d oe ∧ oe.data = .fields vs
mutual
inductive Rep (K : PySem.W.Frag) (H : Hp) : Val → V → Prop
  | non : Rep K H .non .non
  | bl (b : Bool) : Rep K H (.bl b) (.bl b)
  | int (i : Int) : Rep K H (.int i) (.int i)
  | str (x : Str) : Rep K H (.str x) (.str x)
  | ty (n : String) : Rep K H (.ty n) (.ty n)
  | ptr (a : Addr) : Rep K H (.ptr a) (.ref a)
  | lst {a : Addr} {xs : List V} {ds : List Val} : SqL K H a xs → RepA K H ds xs → Rep K H (.lst ds) (.ref a)
  | tup {a : Addr} {xs : List V} {ds : List Val} : SqT K H a xs → RepA K H ds xs → Rep K H (.tup ds) (.ref a)
  | obj {a C dx : Addr} {gs : List (Str × V)} {fs : List (Str × Val)} : H a = some (.ins C dx gs) → RepF K H fs gs → Rep K H (.obj C fs) (.ref a)
  | exc {a C dd : Addr} {gs : List (Str × V)} {fs : List (Str × Val)} : H a = some (exH a C (some dd)) → H dd = some (.xd gs) → RepF K H fs gs → Rep K H (.exc C fs) (.ref a)
  | exc0 {a C : Addr} : H a = some (exH a C none) → Rep K H (.exc C []) (.ref a)
  | lam {a : Addr} {H1 : Hp} : Kp H1 H → Rep K H (.lam a H1) (.ref a)
inductive RepA (K : PySem.W.Frag) (H : Hp) : List Val → List V → Prop
  | nil : RepA K H [] []
  | cons {d : Val} {v : V} {ds : List Val} {vs : List V} : Rep K H d v → RepA K H ds vs → RepA K H (d :: ds) (v :: vs)
inductive RepF (K : PySem.W.Frag) (H : Hp) : List (Str × Val) → List (Str × V) → Prop
  | nil : RepF K H [] []
  | cons {f : Str} {d : Val} {v : V} {fs : List (Str × Val)} {gs : List (Str × V)} : Rep K H d v → RepF K H fs gs → RepF K H ((f, d) :: fs) ((f, v) :: gs)
end
theorem sameT {K : PySem.W.Frag} {H H' : Hp} {a : Addr} {xs : List V} (e : Same H H') (h : SqT K H a xs) : SqT K H' a xs := by
  rcases h with (h | ⟨o, h⟩) | h
  · exact .inl (.inl (e _ _ h))
  · exact .inl (.inr ⟨o, e _ _ h⟩)
  · exact .inr h
mutual
theorem Rep.mono {K : PySem.W.Frag} {H H' : Hp} (e : Same H H') : ∀ {d : Val} {v : V}, Rep K H d v → Rep K H' d v
  | _, _, .non => .non
  | _, _, .bl b => .bl b
  | _, _, .int i => .int i
  | _, _, .str x => .str x
  | _, _, .ty n => .ty n
  | _, _, .ptr a => .ptr a
  | _, _, .lst h r => .lst (e.seq h) (RepA.mono e r)
  | _, _, .tup h r => .tup (sameT e h) (RepA.mono e r)
  | _, _, .obj h r => .obj (e _ _ h) (RepF.mono e r)
  | _, _, .exc h d r => .exc (e _ _ h) (e _ _ d) (RepF.mono e r)
  | _, _, .exc0 h => .exc0 (e _ _ h)
  | _, _, .lam h => .lam (h.trans (.same e))
theorem RepA.mono {K : PySem.W.Frag} {H H' : Hp} (e : Same H H') : ∀ {ds : List Val} {vs : List V}, RepA K H ds vs → RepA K H' ds vs
  | _, _, .nil => .nil
  | _, _, .cons a r => .cons (Rep.mono e a) (RepA.mono e r)
theorem RepF.mono {K : PySem.W.Frag} {H H' : Hp} (e : Same H H') : ∀ {ds : List (Str × Val)} {vs : List (Str × V)}, RepF K H ds vs → RepF K H' ds vs
  | _, _, .nil => .nil
  | _, _, .cons a r => .cons (Rep.mono e a) (RepF.mono e r)
end
/-- fields, stored -/
def putV (f : Str) (v : Val) : List (Str × Val) → List (Str × Val)
  | [] => [(f, v)]
  | (g, x) :: r => if g = f then (g, v) :: r else (g, x) :: putV f v r
theorem RepF.lookup {K : PySem.W.Frag} {H : Hp} {f : Str} {d : Val} : ∀ {fs : List (Str × Val)} {gs : List (Str × V)}, RepF K H fs gs → fs.lookup f = some d → ∃ v, gs.lookup f = some v ∧ Rep K H d v
  | _, _, .nil, e => by cases e
  | (g, x) :: fs, _, .cons (v := v) (gs := gs) a r, e => by
    rw [List.lookup_cons] at e ⊢
    cases q : f == g with
    | true =>
      rw [q] at e
      cases e
      exact ⟨v, rfl, a⟩
    | false =>
      rw [q] at e
      exact RepF.lookup r e
theorem RepF.none {K : PySem.W.Frag} {H : Hp} {f : Str} : ∀ {fs : List (Str × Val)} {gs : List (Str × V)}, RepF K H fs gs → fs.lookup f = none → gs.lookup f = none
  | _, _, .nil, _ => rfl
  | (g, x) :: fs, _, .cons (v := v) (gs := gs) a r, e => by
    rw [List.lookup_cons] at e ⊢
    cases q : f == g with
    | true =>
      rw [q] at e
      cases e
    | false =>
      rw [q] at e
      exact RepF.none r e
theorem RepF.put {K : PySem.W.Frag} {H : Hp} {f : Str} {d : Val} {v : V} (hd : Rep K H d v) : ∀ {fs : List (Str × Val)} {gs : List (Str × V)}, RepF K H fs gs → RepF K H (putV f d fs) (putF f v gs)
  | _, _, .nil => .cons hd .nil
  | (g, x) :: fs, _, .cons (v := w) (gs := gs) a r => by
    unfold putV putF
    by_cases q : g = f
    · rw [if_pos q, if_pos q]
      exact .cons hd r
    · rw [if_neg q, if_neg q]
      exact .cons a (RepF.put hd r)
theorem RepF.length {K : PySem.W.Frag} {H : Hp} : ∀ {fs : List (Str × Val)} {gs : List (Str × V)}, RepF K H fs gs → fs.length = gs.length
  | _, _, .nil => rfl
  | _, _, .cons _ r => congrArg Nat.succ (RepF.length r)
/-- a dict's pairs -/
inductive RepK (K : PySem.W.Frag) (H : Hp) : List (Key × Val) → List (Key × V) → Prop
  | nil : RepK K H [] []
  | cons {f : Key} {d : Val} {v : V} {fs : List (Key × Val)} {gs : List (Key × V)} : Rep K H d v → RepK K H fs gs → RepK K H ((f, d) :: fs) ((f, v) :: gs)
theorem RepK.mono {K : PySem.W.Frag} {H H' : Hp} (e : Same H H') : ∀ {ds : List (Key × Val)} {vs : List (Key × V)}, RepK K H ds vs → RepK K H' ds vs
  | _, _, .nil => .nil
  | _, _, .cons a r => .cons (Rep.mono e a) (RepK.mono e r)
theorem RepK.length {K : PySem.W.Frag} {H : Hp} : ∀ {fs : List (Key × Val)} {gs : List (Key × V)}, RepK K H fs gs → fs.length = gs.length
  | _, _, .nil => rfl
  | _, _, .cons _ r => congrArg Nat.succ (RepK.length r)
def dGet : List (Key × Val) → Key → Option Val
  | [], _ => none
  | (g, x) :: r, k => if g = k then some x else dGet r k
def dPut (kvs : List (Key × Val)) (k : Key) (v : Val) : List (Key × Val) :=
  if (kvs.any fun kv => decide (kv.1 = k)) = true then kvs.map (fun kv => if kv.1 = k then (kv.1, v) else kv) else kvs ++ [(k, v)]
theorem RepK.any {K : PySem.W.Frag} {H : Hp} {k : Key} : ∀ {fs : List (Key × Val)} {gs : List (Key × V)}, RepK K H fs gs → (fs.any fun kv => decide (kv.1 = k)) = (gs.any fun kv => decide (kv.1 = k))
  | _, _, .nil => rfl
  | _, _, .cons a r => by
    rw [List.any_cons, List.any_cons, RepK.any r]
theorem RepK.maps {K : PySem.W.Frag} {H : Hp} {k : Key} {d : Val} {v : V} (hd : Rep K H d v) : ∀ {fs : List (Key × Val)} {gs : List (Key × V)}, RepK K H fs gs → RepK K H (fs.map (fun kv => if kv.1 = k then (kv.1, d) else kv)) (gs.map (fun kv => if kv.1 = k then (kv.1, v) else kv))
  | _, _, .nil => .nil
  | (g, x) :: _, _, .cons (v := w) a r => by
    rw [List.map_cons, List.map_cons]
    by_cases q : g = k
    · rw [if_pos q, if_pos q]
      exact .cons hd (RepK.maps hd r)
    · rw [if_neg q, if_neg q]
      exact .cons a (RepK.maps hd r)
theorem RepK.append {K : PySem.W.Frag} {H : Hp} : ∀ {fs fs' : List (Key × Val)} {gs gs' : List (Key × V)}, RepK K H fs gs → RepK K H fs' gs' → RepK K H (fs ++ fs') (gs ++ gs')
  | _, _, _, _, .nil, r => r
  | _, _, _, _, .cons a r, q => .cons a (RepK.append r q)
theorem RepK.put {K : PySem.W.Frag} {H : Hp} {k : Key} {d : Val} {v : V} (hd : Rep K H d v) {fs : List (Key × Val)} {gs : List (Key × V)} (r : RepK K H fs gs) : RepK K H (dPut fs k d) (putK gs k v) := by
  unfold dPut putK
  rw [r.any]
  by_cases q : (gs.any fun kv => decide (kv.1 = k)) = true
  · rw [if_pos q, if_pos q]
    exact r.maps hd
  · rw [if_neg q, if_neg q]
    exact r.append (.cons hd .nil)
theorem RepK.get {K : PySem.W.Frag} {H : Hp} {k : Key} {d : Val} : ∀ {fs : List (Key × Val)} {gs : List (Key × V)}, RepK K H fs gs → dGet fs k = some d → ∃ v, valV gs k = some v ∧ Rep K H d v
  | _, _, .nil, e => by cases e
  | (g, x) :: fs, _, .cons (v := v) (gs := gs) a r, e => by
    unfold dGet at e
    by_cases q : g = k
    · rw [if_pos q] at e
      cases e
      exact ⟨v, valV_pos q, a⟩
    · rw [if_neg q] at e
      rw [valV_neg (p := (g, v)) q]
      exact RepK.get r e
theorem RepK.noKey {K : PySem.W.Frag} {H : Hp} {k : Key} : ∀ {fs : List (Key × Val)} {gs : List (Key × V)}, RepK K H fs gs → dGet fs k = none → valV gs k = none
  | _, _, .nil, _ => rfl
  | (g, x) :: fs, _, .cons (v := v) (gs := gs) a r, e => by
    unfold dGet at e
    by_cases q : g = k
    · rw [if_pos q] at e
      cases e
    · rw [if_neg q] at e
      rw [valV_neg (p := (g, v)) q]
      exact RepK.noKey r e
section
variable {K : PySem.W.Frag} {H H' : Hp}
theorem RepA.length : ∀ {ds : List Val} {vs : List V}, RepA K H ds vs → ds.length = vs.length
  | _, _, .nil => rfl
  | _, _, .cons _ r => congrArg Nat.succ (RepA.length r)
theorem RepA.get : ∀ {ds : List Val} {vs : List V} {i : Nat} {d : Val}, RepA K H ds vs → ds[i]? = some d → ∃ v, vs[i]? = some v ∧ Rep K H d v
  | _, _, _, _, .nil, e => by simp at e
  | _, _, 0, _, .cons r _, e => by simp at e; subst e; exact ⟨_, rfl, r⟩
  | _, _, i + 1, d, .cons _ t, e => by
    obtain ⟨u, h1, h2⟩ := RepA.get (i := i) (d := d) t (by simpa using e)
    exact ⟨u, by simpa using h1, h2⟩
theorem RepA.getV : ∀ {ds : List Val} {vs : List V} {i : Nat} {v : V}, RepA K H ds vs → vs[i]? = some v → ∃ d, ds[i]? = some d ∧ Rep K H d v
  | _, _, _, _, .nil, e => by simp at e
  | _, _, 0, _, .cons r _, e => by simp at e; subst e; exact ⟨_, rfl, r⟩
  | _, _, i + 1, d, .cons _ t, e => by
    obtain ⟨u, h1, h2⟩ := RepA.getV (i := i) (v := d) t (by simpa using e)
    exact ⟨u, by simpa using h1, h2⟩
theorem RepA.append : ∀ {ds es : List Val} {vs ws : List V}, RepA K H ds vs → RepA K H es ws → RepA K H (ds ++ es) (vs ++ ws)
  | _, _, _, _, .nil, s => s
  | _, _, _, _, .cons r t, s => .cons r (RepA.append t s)
theorem RepA.set {d : Val} {v : V} (r : Rep K H d v) : ∀ {ds : List Val} {vs : List V} (i : Nat), RepA K H ds vs → RepA K H (ds.set i d) (vs.set i v)
  | _, _, _, .nil => .nil
  | _, _, 0, .cons _ t => .cons r t
  | _, _, i + 1, .cons q t => .cons q (RepA.set r i t)
theorem RepA.take : ∀ {ds : List Val} {vs : List V} (n : Nat), RepA K H ds vs → RepA K H (ds.take n) (vs.take n)
  | _, _, 0, _ => .nil
  | _, _, _ + 1, .nil => .nil
  | _, _, n + 1, .cons r t => .cons r (RepA.take n t)
theorem RepA.drop : ∀ {ds : List Val} {vs : List V} (n : Nat), RepA K H ds vs → RepA K H (ds.drop n) (vs.drop n)
  | _, _, 0, r => r
  | _, _, _ + 1, .nil => .nil
  | _, _, n + 1, .cons _ t => RepA.drop n t
theorem RepA.ints : ∀ {ns : List Int} {vs : List V}, RepA K H (ns.map Val.int) vs → vs = ns.map V.int
  | [], _, .nil => rfl
  | _ :: ns, _, .cons (.int _) t => by rw [RepA.ints (ns := ns) t, List.map_cons]
theorem RepA.ofInts : ∀ (ns : List Int), RepA K H (ns.map Val.int) (ns.map V.int)
  | [] => .nil
  | n :: ns => .cons (.int n) (RepA.ofInts ns)
theorem RepA.bls : ∀ {ns : List Bool} {vs : List V}, RepA K H (ns.map Val.bl) vs → vs = ns.map V.bl
  | [], _, .nil => rfl
  | _ :: ns, _, .cons (.bl _) t => by rw [RepA.bls (ns := ns) t, List.map_cons]
end
/-! ### what may change -/
inductive Cell0 where
  | lst (xs : List Val)
  | dk (kvs : List (Key × Val))
  | ins (C : Addr) (fs : List (Str × Val))
  /-- a dict while it is known to the object (a loop walks it) -/
  | fz (od : Obj) (kvs : List (Key × V)) (ds : List (Key × Val))
  /-- a table of code objects, all of the name q -/
  | tb (q : Str)
abbrev Mem0 := List (Addr × Cell0)
/-- a cell, or a box: some cells of which only phi is told -/
inductive Cell where
  | b (c : Cell0)
  | box (φ : Mem0 → Prop)
abbrev Cell.lst (xs : List Val) : Cell := .b (.lst xs)
abbrev Cell.dk (kvs : List (Key × Val)) : Cell := .b (.dk kvs)
abbrev Cell.ins (C : Addr) (fs : List (Str × Val)) : Cell := .b (.ins C fs)
def RepC (K : PySem.W.Frag) (H : Hp) : Cell0 → HO → Prop
  | .lst ds, o => ∃ xs, o = .lst xs ∧ RepA K H ds xs
  | .dk ds, o => ∃ kvs : List (Key × V), o = .dK kvs ∧ RepK K H ds kvs
  | .ins C ds, o => ∃ dx fs, o = .ins C dx fs ∧ RepF K H ds fs
  | .fz od kvs ds, o => o = .frz od (.dK kvs) ∧ RepK K H ds kvs
  | .tb q, o => ∃ ps : Array Value, o = .tbl ps ∧ TriplesOk ps.toList ∧ ∀ (pos : Pos) (cv : Value), codeAmong pos ps.toList = some cv → ∃ c, cv = .ref c ∧ H c = some (LamX.CodeO c q)
theorem RepC.mono {K : PySem.W.Frag} {H H' : Hp} (e : Same H H') : ∀ {c : Cell0} {o : HO}, RepC K H c o → RepC K H' c o
  | .lst _, _, ⟨xs, h, r⟩ => ⟨xs, h, r.mono e⟩
  | .dk _, _, ⟨kvs, h, r⟩ => ⟨kvs, h, r.mono e⟩
  | .ins _ _, _, ⟨dx, fs, h, r⟩ => ⟨dx, fs, h, r.mono e⟩
  | .fz _ _ _, _, ⟨h, r⟩ => ⟨h, r.mono e⟩
  | .tb _, _, ⟨ps, h, t, r⟩ => ⟨ps, h, t, fun pos cv hc => let ⟨c, h1, h2⟩ := r pos cv hc; ⟨c, h1, e _ _ h2⟩⟩
abbrev Mem := List (Addr × Cell)
/-- Hi: what never changes; F: the cells -/
structure Ok0 (K : PySem.W.Frag) (Hi : Hp) (F : Mem0) (H : Hp) : Prop where
  im : Same Hi H
  ce : ∀ a c, (a, c) ∈ F → Hi a = none ∧ ∃ o, H a = some o ∧ RepC K Hi c o
  nd : (F.map (·.1)).Nodup
/-- the cells of an entry -/
def Opn (p : Addr) : Cell → Mem0 → Prop
  | .b c, B => B = [(p, c)]
  | .box φ, B => φ B ∧ p ∈ B.map (·.1)
inductive Flat : Mem → Mem0 → Prop
  | nil : Flat [] []
  | cons {p : Addr} {c : Cell} {M : Mem} {B F : Mem0} : Opn p c B → Flat M F → Flat ((p, c) :: M) (B ++ F)
def Ok (K : PySem.W.Frag) (Hi : Hp) (M : Mem) (H : Hp) : Prop := ∃ F, Flat M F ∧ Ok0 K Hi F H
theorem same_upd {H : Hp} {p : Addr} {o : HO} (h : H p = none) : Same H (upd H p o) := fun b x e => by
  rw [upd_ne (ne_of_none e h)]
  exact e
section
variable {K : PySem.W.Frag} {Hi Hi' H H' : Hp} {F F' : Mem0} {a p : Addr} {c c' : Cell0} {o : HO}
theorem Ok0.none (k : Ok0 K Hi F H) (h : H p = Option.none) : Hi p = Option.none := k.im.free h
theorem Ok0.notin (k : Ok0 K Hi F H) (h : H p = Option.none) : ∀ c, (p, c) ∉ F := fun c hm => by
  obtain ⟨_, o, e, _⟩ := k.ce p c hm
  rw [h] at e
  cases e
theorem Ok0.fresh (k : Ok0 K Hi F H) (h : H p = Option.none) : p ∉ F.map (·.1) := fun hm => by
  obtain ⟨⟨q, c⟩, h1, h2⟩ := List.mem_map.mp hm
  have e : q = p := h2
  subst e
  exact k.notin h c h1
theorem Ok0.imm (k : Ok0 K Hi F H) (h : H p = Option.none) : Ok0 K (upd Hi p o) F (upd H p o) where
  im := fun b x e => by
    by_cases hb : b = p
    · subst hb
      rw [upd_same] at e ⊢
      exact e
    · rw [upd_ne hb] at e ⊢
      exact k.im b x e
  ce := fun a c hm => by
    obtain ⟨e0, o', e, r⟩ := k.ce a c hm
    have hb : a ≠ p := fun z => k.notin h c (z ▸ hm)
    refine ⟨by rw [upd_ne hb]; exact e0, o', by rw [upd_ne hb]; exact e, r.mono (same_upd (k.none h))⟩
  nd := k.nd
theorem Ok0.new (k : Ok0 K Hi F H) (h : H p = Option.none) (r : RepC K Hi c o) : Ok0 K Hi ((p, c) :: F) (upd H p o) where
  im := fun b x e => by
    have hb : b ≠ p := fun z => by
      subst z
      rw [k.none h] at e
      cases e
    rw [upd_ne hb]
    exact k.im b x e
  ce := fun a c' hm => by
    rcases List.mem_cons.mp hm with e | hm
    · cases e
      exact ⟨k.none h, o, upd_same, r⟩
    · obtain ⟨e0, o', e, r'⟩ := k.ce a c' hm
      have hb : a ≠ p := fun z => k.notin h c' (z ▸ hm)
      exact ⟨e0, o', by rw [upd_ne hb]; exact e, r'⟩
  nd := by
    rw [List.map_cons]
    exact List.nodup_cons.mpr ⟨k.fresh h, k.nd⟩
theorem Ok0.perm (k : Ok0 K Hi F H) (s : F'.Perm F) : Ok0 K Hi F' H := ⟨k.im, fun a c h => k.ce a c (s.subset h), (s.map _).nodup_iff.mpr k.nd⟩
theorem Ok0.sub (k : Ok0 K Hi F H) (s : F'.Sublist F) : Ok0 K Hi F' H := ⟨k.im, fun a c h => k.ce a c (s.subset h), k.nd.sublist (s.map _)⟩
/-- the first cell is written -/
theorem Ok0.set (k : Ok0 K Hi ((a, c) :: F) H) (r : RepC K Hi c' o) : Ok0 K Hi ((a, c') :: F) (upd H a o) where
  im := fun b x e => by
    have hb : b ≠ a := fun z => by
      subst z
      rw [(k.ce b c List.mem_cons_self).1] at e
      cases e
    rw [upd_ne hb]
    exact k.im b x e
  ce := fun b d hm => by
    have nd := k.nd
    rw [List.map_cons] at nd
    rcases List.mem_cons.mp hm with e | hm2
    · cases e
      exact ⟨(k.ce a c List.mem_cons_self).1, o, upd_same, r⟩
    · have hb : b ≠ a := fun z => by
        subst z
        exact (List.nodup_cons.mp nd).1 (List.mem_map.mpr ⟨(b, d), hm2, rfl⟩)
      obtain ⟨e0, o', e, r'⟩ := k.ce b d (List.mem_cons_of_mem _ hm2)
      exact ⟨e0, o', by rw [upd_ne hb]; exact e, r'⟩
  nd := k.nd
/-- the first cell will change no more -/
theorem Ok0.freeze (k : Ok0 K Hi ((p, c) :: F) H) (h : H p = some o) : Ok0 K (upd Hi p o) F H where
  im := fun b x e => by
    by_cases hb : b = p
    · subst hb
      rw [upd_same] at e
      rw [h]
      exact e
    · rw [upd_ne hb] at e
      exact k.im b x e
  ce := fun a d hm => by
    obtain ⟨e0, o', e, r⟩ := k.ce a d (List.mem_cons_of_mem _ hm)
    have nd := k.nd
    rw [List.map_cons] at nd
    have hb : a ≠ p := fun z => by
      subst z
      exact (List.nodup_cons.mp nd).1 (List.mem_map.mpr ⟨(a, d), hm, rfl⟩)
    exact ⟨by rw [upd_ne hb]; exact e0, o', e, r.mono (same_upd (k.ce p c List.mem_cons_self).1)⟩
  nd := by
    have nd := k.nd
    rw [List.map_cons] at nd
    exact (List.nodup_cons.mp nd).2
end
theorem Flat.append : ∀ {M M' : Mem} {F F' : Mem0}, Flat M F → Flat M' F' → Flat (M ++ M') (F ++ F')
  | _, _, _, _, .nil, q => q
  | _, _, _, _, .cons (B := B) (F := F) o r, q => by
    rw [List.append_assoc]
    exact .cons o (r.append q)
theorem Flat.split : ∀ {M M' : Mem} {F : Mem0}, Flat (M ++ M') F → ∃ F1 F2, F = F1 ++ F2 ∧ Flat M F1 ∧ Flat M' F2
  | [], _, F, h => ⟨[], F, rfl, .nil, h⟩
  | (p, c) :: M, M', _, .cons (B := B) (F := F) o r => by
    obtain ⟨F1, F2, rfl, h1, h2⟩ := Flat.split r
    exact ⟨B ++ F1, F2, by rw [List.append_assoc], .cons o h1, h2⟩
theorem Flat.one {p : Addr} {c : Cell0} {M : Mem} {F : Mem0} (h : Flat M F) : Flat ((p, .b c) :: M) ((p, c) :: F) := .cons (B := [(p, c)]) rfl h
theorem Flat.mem {p : Addr} {c : Cell} : ∀ {M : Mem} {F : Mem0}, Flat M F → (p, c) ∈ M → ∃ B, Opn p c B ∧ B.Sublist F
  | _, _, .nil, h => nomatch h
  | _, _, .cons (B := B) (F := F) o r, h => by
    rcases List.mem_cons.mp h with e | h
    · cases e
      exact ⟨B, o, List.sublist_append_left _ _⟩
    · obtain ⟨B', h1, h2⟩ := r.mem h
      exact ⟨B', h1, h2.trans (List.sublist_append_right _ _)⟩
theorem Flat.perm {M M' : Mem} (s : M.Perm M') : ∀ {F : Mem0}, Flat M F → ∃ F', Flat M' F' ∧ F'.Perm F := by
  induction s with
  | nil => exact fun h => ⟨_, h, .refl _⟩
  | cons x _ ih =>
    intro F h
    cases h with
    | cons o r =>
      obtain ⟨F', h1, h2⟩ := ih r
      exact ⟨_, .cons o h1, h2.append_left _⟩
  | swap x y l =>
    intro F h
    cases h with
    | cons o r =>
      cases r with
      | cons o2 r2 =>
        refine ⟨_, .cons o2 (.cons o r2), ?_⟩
        rw [← List.append_assoc, ← List.append_assoc]
        exact List.perm_append_comm.append_right _
  | trans _ _ ih1 ih2 =>
    intro F h
    obtain ⟨F', h1, h2⟩ := ih1 h
    obtain ⟨F'', h3, h4⟩ := ih2 h1
    exact ⟨F'', h3, h4.trans h2⟩
theorem Flat.sub {M M' : Mem} (s : M'.Sublist M) : ∀ {F : Mem0}, Flat M F → ∃ F', Flat M' F' ∧ F'.Sublist F := by
  induction s with
  | slnil => exact fun h => ⟨_, h, .refl _⟩
  | cons x _ ih =>
    intro F h
    cases h with
    | cons o r =>
      obtain ⟨F', h1, h2⟩ := ih r
      exact ⟨F', h1, h2.trans (List.sublist_append_right _ _)⟩
  | cons_cons x _ ih =>
    intro F h
    cases h with
    | cons o r =>
      obtain ⟨F', h1, h2⟩ := ih r
      exact ⟨_, .cons o h1, (List.append_sublist_append_left _).mpr h2⟩
section
variable {K : PySem.W.Frag} {Hi Hi' H H' : Hp} {M M' : Mem} {a p : Addr} {c c' : Cell0} {x : Cell} {o : HO} {B : Mem0} {φ : Mem0 → Prop}
theorem Ok.im (k : Ok K Hi M H) : Same Hi H := by
  obtain ⟨F, _, k⟩ := k
  exact k.im
theorem Ok.ce (k : Ok K Hi M H) : ∀ a c, (a, Cell.b c) ∈ M → Hi a = none ∧ ∃ o, H a = some o ∧ RepC K Hi c o := fun a c h => by
  obtain ⟨F, f, k⟩ := k
  obtain ⟨B, h1, h2⟩ := f.mem h
  have h1 : B = [(a, c)] := h1
  subst h1
  exact k.ce a c (h2.subset List.mem_cons_self)
theorem Ok.none (k : Ok K Hi M H) (h : H p = Option.none) : Hi p = Option.none := k.im.free h
theorem Ok.notin (k : Ok K Hi M H) (h : H p = Option.none) : ∀ c, (p, c) ∉ M := fun c hm => by
  obtain ⟨F, f, k⟩ := k
  obtain ⟨B, h1, h2⟩ := f.mem hm
  have hp : p ∈ B.map (·.1) := by
    cases c with
    | b c =>
      have h1 : B = [(p, c)] := h1
      subst h1
      exact List.mem_cons_self
    | box φ => exact h1.2
  exact k.fresh h ((h2.map _).subset hp)
theorem Ok.fresh (k : Ok K Hi M H) (h : H p = Option.none) : p ∉ M.map (·.1) := fun hm => by
  obtain ⟨⟨q, c⟩, h1, h2⟩ := List.mem_map.mp hm
  have e : q = p := h2
  subst e
  exact k.notin h c h1
/-- a new object that never changes -/
theorem Ok.imm (k : Ok K Hi M H) (h : H p = Option.none) : Ok K (upd Hi p o) M (upd H p o) := by
  obtain ⟨F, f, k⟩ := k
  exact ⟨F, f, k.imm h⟩
/-- a new cell -/
theorem Ok.new (k : Ok K Hi M H) (h : H p = Option.none) (r : RepC K Hi c o) : Ok K Hi ((p, .b c) :: M) (upd H p o) := by
  obtain ⟨F, f, k⟩ := k
  exact ⟨_, f.one, k.new h r⟩
theorem Ok.get {i : Nat} (k : Ok K Hi M H) (h : M[i]? = some (a, .b c)) : Hi a = Option.none ∧ ∃ o, H a = some o ∧ RepC K Hi c o := k.ce a c (List.mem_of_getElem? h)
theorem Ok.perm (k : Ok K Hi M H) (s : M'.Perm M) : Ok K Hi M' H := by
  obtain ⟨F, f, k⟩ := k
  obtain ⟨F', f', q⟩ := f.perm s.symm
  exact ⟨F', f', k.perm q⟩
theorem Ok.sub (k : Ok K Hi M H) (s : M'.Sublist M) : Ok K Hi M' H := by
  obtain ⟨F, f, k⟩ := k
  obtain ⟨F', f', q⟩ := f.sub s
  exact ⟨F', f', k.sub q⟩
theorem perm_at {α : Type} {M : List α} {i : Nat} {x : α} (h : M[i]? = some x) : M.Perm (x :: M.eraseIdx i) := by
  induction M generalizing i with
  | nil => cases h
  | cons y M ih =>
    cases i with
    | zero =>
      cases h
      exact .refl _
    | succ i =>
      rw [List.eraseIdx_cons_succ]
      exact ((ih h).cons y).trans (.swap x y _)
theorem perm_set {α : Type} {M : List α} {i : Nat} {x y : α} (h : M[i]? = some x) : (M.set i y).Perm (y :: M.eraseIdx i) := by
  induction M generalizing i with
  | nil => cases h
  | cons z M ih =>
    cases i with
    | zero => exact .refl _
    | succ i =>
      rw [List.eraseIdx_cons_succ, List.set_cons_succ]
      exact ((ih h).cons z).trans (.swap y z _)
/-- a cell is written -/
theorem Ok.set {i : Nat} (k : Ok K Hi M H) (h : M[i]? = some (a, .b c)) (r : RepC K Hi c' o) : Ok K Hi (M.set i (a, .b c')) (upd H a o) := by
  obtain ⟨F, f, k⟩ := k.perm (perm_at h).symm
  refine Ok.perm ?_ (perm_set (y := (a, Cell.b c')) h)
  cases f with
  | cons o f =>
    have o : _ = [(a, c)] := o
    subst o
    exact ⟨_, f.one, Ok0.set k r⟩
/-- the first cell will change no more -/
theorem Ok.freeze (k : Ok K Hi ((p, .b c) :: M) H) (h : H p = some o) : Ok K (upd Hi p o) M H := by
  obtain ⟨F, f, k⟩ := k
  cases f with
  | cons q f =>
    have q : _ = [(p, c)] := q
    subst q
    exact ⟨_, f, Ok0.freeze k h⟩
theorem Ok.tail {c : Cell} (k : Ok K Hi ((p, c) :: M) H) : Ok K Hi M H := k.sub (List.sublist_cons_self _ _)
theorem Ok.all (H : Hp) : Ok K H [] H := ⟨[], .nil, Same.refl H, (fun _ _ h => nomatch h), List.nodup_nil⟩
/-- the cells of a list of cells -/
abbrev bs (B : Mem0) : Mem := B.map fun x => (x.1, Cell.b x.2)
theorem Flat.bs : ∀ B : Mem0, Flat (bs B) B
  | [] => .nil
  | (_, _) :: B => (Flat.bs B).one
theorem Flat.ofBs : ∀ {B F : Mem0}, Flat (Ab.bs B) F → F = B
  | [], _, .nil => rfl
  | (p, c) :: B, _, .cons o r => by
    have o : _ = [(p, c)] := o
    subst o
    rw [Flat.ofBs r]
    rfl
/-- a box is opened, closed -/
theorem Ok.opn {i : Nat} (k : Ok K Hi M H) (h : M[i]? = some (p, .box φ)) : ∃ B, φ B ∧ p ∈ B.map (·.1) ∧ Ok K Hi (bs B ++ M.eraseIdx i) H := by
  obtain ⟨F, f, k⟩ := k.perm (perm_at h).symm
  cases f with
  | cons o f => exact ⟨_, o.1, o.2, _, (Flat.bs _).append f, k⟩
theorem Ok.cls (k : Ok K Hi (bs B ++ M) H) (h : φ B) (hp : p ∈ B.map (·.1)) : Ok K Hi ((p, .box φ) :: M) H := by
  obtain ⟨F, f, k⟩ := k
  obtain ⟨F1, F2, rfl, h1, h2⟩ := f.split
  rw [Flat.ofBs h1] at k
  exact ⟨_, .cons (show Opn p (.box φ) B from ⟨h, hp⟩) h2, k⟩
theorem Ok.clsAt {i : Nat} (k : Ok K Hi (bs B ++ M.eraseIdx i) H) (hi : M[i]? = some (p, x)) (h : φ B) (hp : p ∈ B.map (·.1)) : Ok K Hi (M.set i (p, .box φ)) H :=
  (k.cls h hp).perm (perm_set hi)
end
/-! ### slots -/
abbrev Gam := List (Option Val)
def EnvR (K : PySem.W.Frag) (H : Hp) (Γ : Gam) (σ : L2.St) : Prop := Γ.length = σ.length ∧ ∀ (i : Nat) (d : Val), Γ[i]? = some (some d) → ∃ v, σ[i]? = some (some v) ∧ Rep K H d v
theorem EnvR.mono {K : PySem.W.Frag} {H H' : Hp} {Γ : Gam} {σ : L2.St} (h : EnvR K H Γ σ) (e : Same H H') : EnvR K H' Γ σ := ⟨h.1, fun i d q => by
  obtain ⟨v, h1, h2⟩ := h.2 i d q
  exact ⟨v, h1, h2.mono e⟩⟩
theorem EnvR.set {K : PySem.W.Frag} {H : Hp} {Γ : Gam} {σ : L2.St} {i : Nat} {d : Val} {v : V} (h : EnvR K H Γ σ) (r : Rep K H d v) : EnvR K H (Γ.set i (some d)) (σ.set i (some v)) := by
  refine ⟨by rw [List.length_set, List.length_set]; exact h.1, fun j e q => ?_⟩
  by_cases hij : i = j
  · subst hij
    by_cases hl : i < Γ.length
    · rw [List.getElem?_set_self hl] at q
      cases q
      exact ⟨v, List.getElem?_set_self (h.1 ▸ hl), r⟩
    · rw [List.getElem?_eq_none_iff.mpr (by rw [List.length_set]; omega)] at q
      cases q
  · rw [List.getElem?_set_ne hij] at q
    obtain ⟨w, h1, h2⟩ := h.2 j e q
    exact ⟨w, by rw [List.getElem?_set_ne hij]; exact h1, h2⟩
theorem EnvR.drop {K : PySem.W.Frag} {H : Hp} {Γ Γ' : Gam} {σ : L2.St} (h : EnvR K H Γ σ) (hl : Γ'.length = Γ.length) (w : ∀ (i : Nat) (d : Val), Γ'[i]? = some (some d) → Γ[i]? = some (some d)) : EnvR K H Γ' σ := ⟨hl.trans h.1, fun i d q => h.2 i d (w i d q)⟩
/-! ### the readings that always fit -/
def WE (X : Cx) (e : Expr) : TE := fun σ H Q => ∃ t, PE X e t ∧ t σ H Q
def WT (X : Cx) (e : Expr) : TT := fun σ H Q => ∃ t, PT X e t ∧ t σ H Q
def WA (X : Cx) (es : List Expr) : TA := fun σ H Q => ∃ t, PA X es t ∧ t σ H Q
def WS (X : Cx) (s : Stmt) : TS := fun D σ H => ∃ t, PS X s t ∧ t D σ H
def WB (X : Cx) (s : List Stmt) : TS := fun D σ H => ∃ t, PSs X s t ∧ t D σ H
section
variable {X : Cx}
theorem pe_we {e : Expr} : PE X e (WE X e) := ⟨fun pins s σ H Q I ⟨t, p, h⟩ => p.run pins s σ H Q I h⟩
theorem pt_wt {e : Expr} : PT X e (WT X e) := ⟨fun pins s σ H Q I ⟨t, p, h⟩ => p.run pins s σ H Q I h⟩
theorem pa_wa {es : List Expr} : PA X es (WA X es) := ⟨fun pos pins s σ H Q I ⟨t, p, h⟩ => p.run pos pins s σ H Q I h⟩
theorem ps_ws {s : Stmt} : PS X s (WS X s) := ⟨fun pins s σ H D I ⟨t, p, h⟩ => p.run pins s σ H D I h⟩
theorem pss_wb {s : List Stmt} : PSs X s (WB X s) := ⟨fun pins s σ H D I ⟨t, p, h⟩ => p.run pins s σ H D I h⟩
end
/-! ### the judgements: what a piece does to values and cells -/
def Post (K : PySem.W.Frag) (Hi : Hp) (P : Val → Mem → Prop) (Q : VK) : Prop := ∀ d M' v Hi' H', P d M' → Same Hi Hi' → Ok K Hi' M' H' → Rep K Hi' d v → Q v H'
def PostA (K : PySem.W.Frag) (Hi : Hp) (P : List Val → Mem → Prop) (Q : List V → Hp → Prop) : Prop := ∀ d M' v Hi' H', P d M' → Same Hi Hi' → Ok K Hi' M' H' → RepA K Hi' d v → Q v H'
def PostT (K : PySem.W.Frag) (Hi : Hp) (P : Bool → Mem → Prop) (Q : Bool → Hp → Prop) : Prop := ∀ b M' Hi' H', P b M' → Same Hi Hi' → Ok K Hi' M' H' → Q b H'
theorem Post.up {K : PySem.W.Frag} {Hi Hi1 : Hp} {P : Val → Mem → Prop} {Q : VK} (h : Post K Hi P Q) (e : Same Hi Hi1) : Post K Hi1 P Q := fun d M' v Hi' H' p s => h d M' v Hi' H' p (e.trans s)
theorem PostT.up {K : PySem.W.Frag} {Hi Hi1 : Hp} {P : Bool → Mem → Prop} {Q : Bool → Hp → Prop} (h : PostT K Hi P Q) (e : Same Hi Hi1) : PostT K Hi1 P Q := fun b M' Hi' H' p s => h b M' Hi' H' p (e.trans s)
theorem PostA.up {K : PySem.W.Frag} {Hi Hi1 : Hp} {P : List Val → Mem → Prop} {Q : List V → Hp → Prop} (h : PostA K Hi P Q) (e : Same Hi Hi1) : PostA K Hi1 P Q := fun d M' v Hi' H' p s => h d M' v Hi' H' p (e.trans s)
def aE (X : Cx) (e : Expr) (Γ : Gam) (M : Mem) (P : Val → Mem → Prop) : Prop := ∀ Hi H σ, Ok X.K Hi M H → EnvR X.K Hi Γ σ → ∀ Q : VK, Post X.K Hi P Q → WE X e σ H Q
def aT (X : Cx) (e : Expr) (Γ : Gam) (M : Mem) (P : Bool → Mem → Prop) : Prop := ∀ Hi H σ, Ok X.K Hi M H → EnvR X.K Hi Γ σ → ∀ Q, PostT X.K Hi P Q → WT X e σ H Q
def aA (X : Cx) (es : List Expr) (Γ : Gam) (M : Mem) (P : List Val → Mem → Prop) : Prop := ∀ Hi H σ, Ok X.K Hi M H → EnvR X.K Hi Γ σ → ∀ Q, PostA X.K Hi P Q → WA X es σ H Q
abbrev aV (X : Cx) (e : Expr) (Γ : Gam) (M : Mem) (d : Val) : Prop := aE X e Γ M fun x M' => x = d ∧ M' = M
abbrev aB (X : Cx) (e : Expr) (Γ : Gam) (M : Mem) (b : Bool) : Prop := aT X e Γ M fun x M' => x = b ∧ M' = M
abbrev aVs (X : Cx) (es : List Expr) (Γ : Gam) (M : Mem) (ds : List Val) : Prop := aA X es Γ M fun x M' => x = ds ∧ M' = M
/-- what is wanted behind a statement -/
structure AK where
  nx : Gam → Mem → Prop
  rt : Val → Mem → Prop
  bk : Gam → Mem → Prop := fun _ _ => False
  ct : Gam → Mem → Prop := fun _ _ => False
structure Real (K : PySem.W.Frag) (Hi : Hp) (k : AK) (D : Ends) : Prop where
  nx : ∀ Γ M σ Hi' H', k.nx Γ M → Same Hi Hi' → Ok K Hi' M H' → EnvR K Hi' Γ σ → D.nx σ H'
  rt : ∀ d M v Hi' H', k.rt d M → Same Hi Hi' → Ok K Hi' M H' → Rep K Hi' d v → D.rt v H'
  bk : ∀ Γ M σ Hi' H', k.bk Γ M → Same Hi Hi' → Ok K Hi' M H' → EnvR K Hi' Γ σ → D.bk σ H'
  ct : ∀ Γ M σ Hi' H', k.ct Γ M → Same Hi Hi' → Ok K Hi' M H' → EnvR K Hi' Γ σ → D.ct σ H'
theorem Real.up {K : PySem.W.Frag} {Hi Hi1 : Hp} {k : AK} {D : Ends} (h : Real K Hi k D) (e : Same Hi Hi1) : Real K Hi1 k D :=
  ⟨fun Γ M σ Hi' H' p s => h.nx Γ M σ Hi' H' p (e.trans s), fun d M v Hi' H' p s => h.rt d M v Hi' H' p (e.trans s), fun Γ M σ Hi' H' p s => h.bk Γ M σ Hi' H' p (e.trans s), fun Γ M σ Hi' H' p s => h.ct Γ M σ Hi' H' p (e.trans s)⟩
def aS (X : Cx) (s : Stmt) (Γ : Gam) (M : Mem) (k : AK) : Prop := ∀ Hi H σ, Ok X.K Hi M H → EnvR X.K Hi Γ σ → ∀ D, Real X.K Hi k D → WS X s D σ H
def aSs (X : Cx) (s : List Stmt) (Γ : Gam) (M : Mem) (k : AK) : Prop := ∀ Hi H σ, Ok X.K Hi M H → EnvR X.K Hi Γ σ → ∀ D, Real X.K Hi k D → WB X s D σ H
section
variable {X : Cx} {Γ : Gam} {M : Mem} {P : Val → Mem → Prop} {e a b c : Expr} {es : List Expr} {pos : Pos} {k : AK} {d d1 d2 : Val}
theorem aE.mono {P' : Val → Mem → Prop} (h : aE X e Γ M P) (f : ∀ d M', P d M' → P' d M') : aE X e Γ M P' := fun Hi H σ ok en Q q => h Hi H σ ok en Q fun d M' v Hi' H' p => q d M' v Hi' H' (f d M' p)
theorem aT.mono {P P' : Bool → Mem → Prop} (h : aT X e Γ M P) (f : ∀ d M', P d M' → P' d M') : aT X e Γ M P' := fun Hi H σ ok en Q q => h Hi H σ ok en Q fun d M' Hi' H' p => q d M' Hi' H' (f d M' p)
theorem aE.val (h : aV X e Γ M d) (p : P d M) : aE X e Γ M P := h.mono fun x M' q => by
  obtain ⟨h1, h2⟩ := q
  subst h1 h2
  exact p
theorem aT.val {P : Bool → Mem → Prop} {b : Bool} (h : aB X e Γ M b) (p : P b M) : aT X e Γ M P := h.mono fun x M' q => by
  obtain ⟨h1, h2⟩ := q
  subst h1 h2
  exact p
theorem aA.val {P : List Val → Mem → Prop} {ds : List Val} (h : aVs X es Γ M ds) (p : P ds M) : aA X es Γ M P := fun Hi H σ ok en Q q => h Hi H σ ok en Q fun d M' v Hi' H' r => by
  obtain ⟨h1, h2⟩ := r
  subst h1 h2
  exact q _ _ v Hi' H' p
/-- a constant -/
theorem ae_c {v : V} {d : Val} (hp : PE X e (tC v)) (r : ∀ K H, Rep K H d v) (h : P d M) : aE X e Γ M P := fun Hi H σ ok _ Q q => ⟨_, hp, q d M v Hi H h (Same.refl _) ok (r _ _)⟩
theorem ae_int {i : Int} {j} (h : P (.int i) M) : aE X (.Constant (.int i) j pos) Γ M P := ae_c pe_int (fun _ _ => .int i) h
theorem ae_bl {i : Bool} {j} (h : P (.bl i) M) : aE X (.Constant (.bool i) j pos) Γ M P := ae_c pe_bl (fun _ _ => .bl i) h
theorem ae_str {i : Str} {j} (h : P (.str i) M) : aE X (.Constant (.str i) j pos) Γ M P := ae_c pe_str (fun _ _ => .str i) h
theorem ae_non {j} (h : P .non M) : aE X (.Constant .none j pos) Γ M P := ae_c pe_non (fun _ _ => .non) h
/-- a name of the def -/
theorem ae_var {x : Str} (i : Nat) {d : Val} (hd : Γ[i]? = some (some d)) (h : P d M) (hN : X.N[i]? = some x := by rfl) (hv : Vis X.env.scope x := by first | exact Or.inl rfl | exact Or.inr (Or.inl rfl) | exact Or.inr (Or.inr rfl))
    (hdb : (x == ("__debug__" : Str)) = false := by decide) (hcd : (x == ("__classdict__" : Str)) = false := by decide) : aE X (.Name x pos) Γ M P := fun Hi H σ ok en Q q => by
  obtain ⟨v, h1, r⟩ := en.2 i d hd
  exact ⟨_, pe_var hN hv hdb hcd, v, h1, q d M v Hi H h (Same.refl _) ok r⟩
/-- a global of the module that is an address -/
theorem ae_glob {x : Str} {f : Addr} (hm : X.mg x = some (.ref f)) (h : P (.ptr f) M) (hg : Gl X x := by rfl) (hd : (x == ("__debug__" : Str)) = false := by decide) : aE X (.Name x pos) Γ M P :=
  ae_c (pe_glob (v := .ref f) hg hm rfl hd) (fun _ _ => .ptr f) h
/-- what an operation on values asks -/
def RV (X : Cx) (r : R2) (x y : Val) (M : Mem) (P : Val → Mem → Prop) : Prop := ∀ Hi H v w, Ok X.K Hi M H → Rep X.K Hi x v → Rep X.K Hi y w → ∀ Q, Post X.K Hi P Q → r v w H Q
theorem ae_op {op : Operator} {r : R2} (ho : OpR X (binaryOp op) r) (h : aE X a Γ M fun x M1 => aE X b Γ M1 fun y M2 => RV X r x y M2 P) : aE X (.BinOp a op b pos) Γ M P := fun Hi H σ ok en Q q => by
  refine ⟨_, pe_op ho pe_we pe_we, ?_⟩
  refine h Hi H σ ok en _ fun x M1 v Hi1 H1 h1 s1 ok1 r1 => ?_
  refine h1 Hi1 H1 σ ok1 (en.mono s1) _ fun y M2 w Hi2 H2 h2 s2 ok2 r2 => ?_
  exact h2 Hi2 H2 v w ok2 (r1.mono s2) r2 Q (q.up (s1.trans s2))
theorem rv_I0 {g : Int → Int → V} {f : Int → Int → Val} {i j : Int} (hr : ∀ K H, Rep K H (f i j) (g i j)) (h : P (f i j) M) : RV X (rI0 g) (.int i) (.int j) M P := fun Hi H v w ok rv rw_ Q q => by
  cases rv
  cases rw_
  exact ⟨i, j, rfl, rfl, q _ _ _ Hi H h (Same.refl _) ok (hr _ _)⟩
theorem rv_I {C : Int → Int → Prop} {g : Int → Int → V} {f : Int → Int → Val} {i j : Int} (hc : C i j) (hr : ∀ K H, Rep K H (f i j) (g i j)) (h : P (f i j) M) : RV X (rI C g) (.int i) (.int j) M P := fun Hi H v w ok rv rw_ Q q => by
  cases rv
  cases rw_
  exact ⟨i, j, rfl, rfl, hc, q _ _ _ Hi H h (Same.refl _) ok (hr _ _)⟩
theorem av_op {op : Operator} {r : R2} (ho : OpR X (binaryOp op) r) (ha : aV X a Γ M d1) (hb : aV X b Γ M d2) (hr : RV X r d1 d2 M P) : aE X (.BinOp a op b pos) Γ M P := ae_op ho (ha.val (hb.val hr))
variable {i j : Int}
theorem av_add (ha : aV X a Γ M (.int i)) (hb : aV X b Γ M (.int j)) : aV X (.BinOp a .Add b pos) Γ M (.int (i + j)) := av_op op_add ha hb (rv_I0 (f := fun i j => .int (i + j)) (fun _ _ => .int _) ⟨rfl, rfl⟩)
theorem av_sub (ha : aV X a Γ M (.int i)) (hb : aV X b Γ M (.int j)) : aV X (.BinOp a .Sub b pos) Γ M (.int (i - j)) := av_op op_sub ha hb (rv_I0 (f := fun i j => .int (i - j)) (fun _ _ => .int _) ⟨rfl, rfl⟩)
theorem av_mul (ha : aV X a Γ M (.int i)) (hb : aV X b Γ M (.int j)) (hc : CMul i j) : aV X (.BinOp a .Mult b pos) Γ M (.int (i * j)) := av_op op_mul ha hb (rv_I (f := fun i j => .int (i * j)) hc (fun _ _ => .int _) ⟨rfl, rfl⟩)
theorem av_mod (ha : aV X a Γ M (.int i)) (hb : aV X b Γ M (.int j)) (hc : 0 < j) : aV X (.BinOp a .Mod b pos) Γ M (.int (i % j)) := av_op op_mod ha hb (rv_I (f := fun i j => .int (i % j)) hc (fun _ _ => .int _) ⟨rfl, rfl⟩)
theorem av_fdiv (ha : aV X a Γ M (.int i)) (hb : aV X b Γ M (.int j)) (hc : CDiv i j) : aV X (.BinOp a .FloorDiv b pos) Γ M (.int (i / j)) := av_op op_fdiv ha hb (rv_I (f := fun i j => .int (i / j)) hc (fun _ _ => .int _) ⟨rfl, rfl⟩)
theorem av_pow (ha : aV X a Γ M (.int i)) (hb : aV X b Γ M (.int j)) (hc : CPow i j) : aV X (.BinOp a .Pow b pos) Γ M (.int (i ^ j.toNat)) := av_op op_pow ha hb (rv_I (f := fun i j => .int (i ^ j.toNat)) hc (fun _ _ => .int _) ⟨rfl, rfl⟩)
end
end Ab
namespace Ab
open PySem PySem.Spec PyProof.Rows L2
/-- a value as it may be read: itself, or the list that stands in its cell -/
inductive Vw (M : Mem) : Val → Val → Prop
  | self (d : Val) : Vw M d d
  | lst (i : Nat) {p : Addr} {xs : List Val} : M[i]? = some (p, .lst xs) → Vw M (.ptr p) (.lst xs)
theorem Vw.rep {K : PySem.W.Frag} {Hi H : Hp} {M : Mem} {d e : Val} {v : V} (h : Vw M d e) (ok : Ok K Hi M H) (r : Rep K Hi d v) : Rep K H e v := by
  cases h with
  | self => exact r.mono ok.im
  | lst i hm =>
    obtain ⟨_, o, ho, xs', rfl, ra⟩ := ok.get hm
    cases r
    exact .lst (SqL.of ho) (ra.mono ok.im)
mutual
def toD : Val → Option PyData
  | .non => some .none
  | .bl b => some (.bool b)
  | .int i => some (.int i)
  | .str x => some (.str x)
  | .lst xs => (toDs xs).map PyData.list
  | .tup xs => (toDs xs).map PyData.tuple
  | .ty _ => none
  | .ptr _ => none
  | .obj _ _ => none
  | .exc _ _ => none
  | .lam _ _ => none
def toDs : List Val → Option (List PyData)
  | [] => some []
  | x :: xs => (toD x).bind fun d => (toDs xs).map fun ds => d :: ds
end
mutual
theorem rep_dp {K : PySem.W.Frag} {H : Hp} : ∀ (x : Val) {v : V} {d : PyData}, Rep K H x v → toD x = some d → Dp K H v d
  | .non, _, _, .non, e => by cases e; exact .non
  | .bl b, _, _, .bl _, e => by cases e; exact .bl b
  | .int i, _, _, .int _, e => by cases e; exact .int i
  | .str x, _, _, .str _, e => by cases e; exact .str x
  | .lst xs, _, _, .lst h r, e => by
    unfold toD at e
    obtain ⟨ds, h1, rfl⟩ := Option.map_eq_some_iff.mp e
    exact .lst h (rep_dps xs r h1)
  | .tup xs, _, _, .tup h r, e => by
    unfold toD at e
    obtain ⟨ds, h1, rfl⟩ := Option.map_eq_some_iff.mp e
    exact .tup h (rep_dps xs r h1)
  | .ty _, _, _, _, e => by cases e
  | .ptr _, _, _, _, e => by cases e
  | .obj _ _, _, _, _, e => by cases e
  | .exc _ _, _, _, _, e => by cases e
  | .lam _ _, _, _, _, e => by cases e
theorem rep_dps {K : PySem.W.Frag} {H : Hp} : ∀ (xs : List Val) {vs : List V} {ds : List PyData}, RepA K H xs vs → toDs xs = some ds → DpAll K H vs ds
  | [], _, _, .nil, e => by cases e; exact .nil
  | x :: xs, _, _, .cons a r, e => by
    unfold toDs at e
    obtain ⟨d, h1, h2⟩ := Option.bind_eq_some_iff.mp e
    obtain ⟨ds, h3, rfl⟩ := Option.map_eq_some_iff.mp h2
    exact .cons (rep_dp x a h1) (rep_dps xs r h3)
end
section
variable {X : Cx} {Γ : Gam} {M : Mem} {P : Val → Mem → Prop} {e a b c : Expr} {es : List Expr} {pos : Pos} {k : AK} {d d1 d2 d3 : Val} {i j : Int}
/-! ### comparisons -/
def Cmp (X : Cx) (op : CmpOp) (M : Mem) (x y : Val) (b : Bool) : Prop := ∃ r, OpR X (compareOp op) r ∧ RV X r x y M fun z M' => z = .bl b ∧ M' = M
theorem cmp_lt : Cmp X .Lt M (.int i) (.int j) (decide (i < j)) := ⟨_, op_lt, rv_I0 (f := fun i j => .bl (decide (i < j))) (fun _ _ => .bl _) ⟨rfl, rfl⟩⟩
theorem cmp_le : Cmp X .LtE M (.int i) (.int j) (decide (i ≤ j)) := ⟨_, op_le, rv_I0 (f := fun i j => .bl (decide (i ≤ j))) (fun _ _ => .bl _) ⟨rfl, rfl⟩⟩
theorem cmp_gt : Cmp X .Gt M (.int i) (.int j) (decide (j < i)) := ⟨_, op_gt, rv_I0 (f := fun i j => .bl (decide (j < i))) (fun _ _ => .bl _) ⟨rfl, rfl⟩⟩
theorem cmp_ge : Cmp X .GtE M (.int i) (.int j) (decide (j ≤ i)) := ⟨_, op_ge, rv_I0 (f := fun i j => .bl (decide (j ≤ i))) (fun _ _ => .bl _) ⟨rfl, rfl⟩⟩
theorem cmp_eqI : Cmp X .Eq M (.int i) (.int j) (decide (i = j)) := ⟨_, op_eq, fun Hi H v w ok rv rw_ Q q => by
  cases rv
  cases rw_
  refine ⟨rfl, ?_⟩
  have e : decide (V.int i = V.int j) = decide (i = j) := by simp
  rw [e]
  exact q _ M _ Hi H ⟨rfl, rfl⟩ (Same.refl _) ok (.bl _)⟩
theorem cmp_neI : Cmp X .NotEq M (.int i) (.int j) (!decide (i = j)) := ⟨_, op_ne, fun Hi H v w ok rv rw_ Q q => by
  cases rv
  cases rw_
  refine ⟨rfl, ?_⟩
  have e : decide (V.int i = V.int j) = decide (i = j) := by simp
  rw [e]
  exact q _ M _ Hi H ⟨rfl, rfl⟩ (Same.refl _) ok (.bl _)⟩
theorem cmp_eqS {x y : Str} : Cmp X .Eq M (.str x) (.str y) (decide (x = y)) := ⟨_, op_eq, fun Hi H v w ok rv rw_ Q q => by
  cases rv
  cases rw_
  refine ⟨rfl, ?_⟩
  have e : decide (V.str x = V.str y) = decide (x = y) := by simp
  rw [e]
  exact q _ M _ Hi H ⟨rfl, rfl⟩ (Same.refl _) ok (.bl _)⟩
/-- data of any depth -/
theorem cmp_eqD {d1' d2' : Val} {p q : PyData} (v1 : Vw M d1 d1') (v2 : Vw M d2 d2') (h1 : toD d1' = some p) (h2 : toD d2' = some q) (s1 : SeqAt.shaped p = true) (s2 : SeqAt.shaped q = true) (hu : X.A.units + 64 < cLine) : Cmp X .Eq M d1 d2 (PyData.eqv p q) :=
  ⟨_, op_eqD hu, fun Hi H v w ok rv rw_ Q post => ⟨p, q, rep_dp _ (v1.rep ok rv) h1, rep_dp _ (v2.rep ok rw_) h2, s1, s2, post _ M _ Hi H ⟨rfl, rfl⟩ (Same.refl _) ok (.bl _)⟩⟩
theorem cmp_neD {d1' d2' : Val} {p q : PyData} (v1 : Vw M d1 d1') (v2 : Vw M d2 d2') (h1 : toD d1' = some p) (h2 : toD d2' = some q) (s1 : SeqAt.shaped p = true) (s2 : SeqAt.shaped q = true) (hu : X.A.units + 64 < cLine) : Cmp X .NotEq M d1 d2 (!PyData.eqv p q) :=
  ⟨_, op_neD hu, fun Hi H v w ok rv rw_ Q post => ⟨p, q, rep_dp _ (v1.rep ok rv) h1, rep_dp _ (v2.rep ok rw_) h2, s1, s2, post _ M _ Hi H ⟨rfl, rfl⟩ (Same.refl _) ok (.bl _)⟩⟩
def Val.isN : Val → Bool
  | .non => true
  | _ => false
theorem rep_isN {K : PySem.W.Frag} {H : Hp} {x : Val} {v : V} (r : Rep K H x v) : decide (v = .non) = x.isN := by
  cases r <;> rfl
theorem cmp_isN : Cmp X .Is M d .non d.isN := ⟨_, op_isN, fun Hi H v w ok rv rw_ Q q => by
  cases rw_
  refine ⟨rfl, ?_⟩
  rw [rep_isN rv]
  exact q _ M _ Hi H ⟨rfl, rfl⟩ (Same.refl _) ok (.bl _)⟩
theorem cmp_notN : Cmp X .IsNot M d .non (!d.isN) := ⟨_, op_notN, fun Hi H v w ok rv rw_ Q q => by
  cases rw_
  refine ⟨rfl, ?_⟩
  rw [rep_isN rv]
  exact q _ M _ Hi H ⟨rfl, rfl⟩ (Same.refl _) ok (.bl _)⟩
theorem Cmp.eq {op : CmpOp} {x y : Val} {b b' : Bool} (h : Cmp X op M x y b) (e : b = b') : Cmp X op M x y b' := e ▸ h
/-- a comparison as a value, as a test -/
theorem ae_cmp {op : CmpOp} {k : Bool} (ha : aV X a Γ M d1) (hb : aV X b Γ M d2) (hc : Cmp X op M d1 d2 k) (h : P (.bl k) M) (hm : behindInMarks op b = false := by first | exact nomark _ | rfl) : aE X (.Compare a [op] [b] pos) Γ M P := fun Hi H σ ok en Q q => by
  obtain ⟨r, ho, hr⟩ := hc
  refine ⟨_, pe_cmpR ho pe_we pe_we hm, ?_⟩
  refine ha Hi H σ ok en _ fun x M1 v Hi1 H1 h1 s1 ok1 r1 => ?_
  obtain ⟨rfl, rfl⟩ := h1
  refine hb Hi1 H1 σ ok1 (en.mono s1) _ fun y M2 w Hi2 H2 h2 s2 ok2 r2 => ?_
  obtain ⟨rfl, rfl⟩ := h2
  exact hr Hi2 H2 v w ok2 (r1.mono s2) r2 Q fun z M' v' Hi3 H3 h3 s3 ok3 r3 => by
    obtain ⟨rfl, rfl⟩ := h3
    exact q _ _ v' Hi3 H3 h ((s1.trans s2).trans s3) ok3 r3
theorem at_cmp {op : CmpOp} {k : Bool} {P : Bool → Mem → Prop} (ha : aV X a Γ M d1) (hb : aV X b Γ M d2) (hc : Cmp X op M d1 d2 k) (h : P k M) (hm : behindInMarks op b = false := by first | exact nomark _ | rfl) : aT X (.Compare a [op] [b] pos) Γ M P := fun Hi H σ ok en Q q => by
  obtain ⟨r, ho, hr⟩ := hc
  refine ⟨_, pt_cmpR ho pe_we pe_we hm, ?_⟩
  refine ha Hi H σ ok en _ fun x M1 v Hi1 H1 h1 s1 ok1 r1 => ?_
  obtain ⟨rfl, rfl⟩ := h1
  refine hb Hi1 H1 σ ok1 (en.mono s1) _ fun y M2 w Hi2 H2 h2 s2 ok2 r2 => ?_
  obtain ⟨rfl, rfl⟩ := h2
  exact hr Hi2 H2 v w ok2 (r1.mono s2) r2 _ fun z M' v' Hi3 H3 h3 s3 ok3 r3 => by
    obtain ⟨rfl, rfl⟩ := h3
    cases r3
    exact ⟨k, rfl, q _ _ Hi3 H3 h ((s1.trans s2).trans s3) ok3⟩
theorem at_chain {op op' : CmpOp} {k1 k2 : Bool} {P : Bool → Mem → Prop} (ha : aV X a Γ M d1) (hb : aV X b Γ M d2) (hc : aV X c Γ M d3) (h1 : Cmp X op M d1 d2 k1) (h2 : Cmp X op' M d2 d3 k2) (h : P (k1 && k2) M) (hm : lastMarks [op, op'] [b, c] = false := by with_unfolding_all rfl) :
    aT X (.Compare a [op, op'] [b, c] pos) Γ M P := fun Hi H σ ok en Q q => by
  obtain ⟨r, ho, hr⟩ := h1
  obtain ⟨r', ho', hr'⟩ := h2
  refine ⟨_, pt_chain ho ho' pe_we pe_we pe_we hm, ?_⟩
  refine ha Hi H σ ok en _ fun x M1 v Hi1 H1 h1 s1 ok1 r1 => ?_
  obtain ⟨rfl, rfl⟩ := h1
  refine hb Hi1 H1 σ ok1 (en.mono s1) _ fun y M2 w Hi2 H2 h2 s2 ok2 r2 => ?_
  obtain ⟨rfl, rfl⟩ := h2
  refine hr Hi2 H2 v w ok2 (r1.mono s2) r2 _ fun z M' v' Hi3 H3 h3 s3 ok3 r3 => ?_
  obtain ⟨rfl, rfl⟩ := h3
  cases r3
  refine ⟨k1, rfl, ?_⟩
  have s13 := (s1.trans s2).trans s3
  cases k1 with
  | false => exact iteF ⟨false, rfl, q _ _ Hi3 H3 h s13 ok3⟩
  | true =>
    refine iteT (hc Hi3 H3 σ ok3 (en.mono s13) _ fun y4 M4 w4 Hi4 H4 h4 s4 ok4 r4 => ?_)
    obtain ⟨rfl, rfl⟩ := h4
    exact hr' Hi4 H4 w w4 ok4 (r2.mono (s3.trans s4)) r4 _ fun z M' v' Hi5 H5 h5 s5 ok5 r5 => by
      obtain ⟨rfl, rfl⟩ := h5
      cases r5
      exact ⟨_, rfl, q _ _ Hi5 H5 h ((s13.trans s4).trans s5) ok5⟩
/-! ### tests -/
theorem at_val {P : Bool → Mem → Prop} (h : aE X e Γ M fun x M' => ∃ k, x = .bl k ∧ P k M') (he : ∀ whole, isTrue e X.env whole = (do let v ← whole; standAt e.pos; holding [v] (truthy v)) := by intro _; rfl) : aT X e Γ M P := fun Hi H σ ok en Q q => by
  refine ⟨_, pt_val pe_we he, ?_⟩
  refine h Hi H σ ok en _ fun x M1 v Hi1 H1 h1 s1 ok1 r1 => ?_
  obtain ⟨k, rfl, p⟩ := h1
  cases r1
  exact ⟨k, rfl, q _ _ Hi1 H1 p s1 ok1⟩
theorem at_not {P : Bool → Mem → Prop} (h : aT X a Γ M fun x M' => P (!x) M') : aT X (.UnaryOp .Not a pos) Γ M P := fun Hi H σ ok en Q q => by
  refine ⟨_, pt_not pt_wt, ?_⟩
  exact h Hi H σ ok en _ fun x M1 Hi1 H1 h1 s1 ok1 => q _ _ Hi1 H1 h1 s1 ok1
def WW (X : Cx) (e : Expr) : TT := fun σ H Q => ∃ t, PW X e t ∧ t σ H Q
theorem pw_ww : PW X e (WW X e) := ⟨fun whole pins s σ H Q I ⟨t, p, h⟩ => p.run whole pins s σ H Q I h⟩
def aW (X : Cx) (e : Expr) (Γ : Gam) (M : Mem) (P : Bool → Mem → Prop) : Prop := ∀ Hi H σ, Ok X.K Hi M H → EnvR X.K Hi Γ σ → ∀ Q, PostT X.K Hi P Q → WW X e σ H Q
theorem at_w {P : Bool → Mem → Prop} (h : aW X e Γ M P) : aT X e Γ M P := fun Hi H σ ok en Q q => by
  obtain ⟨t, p, z⟩ := h Hi H σ ok en Q q
  exact ⟨t, p.pt, z⟩
theorem aw_and1 {P : Bool → Mem → Prop} (h : aT X a Γ M P) : aW X (.BoolOp .And [a] pos) Γ M P := fun Hi H σ ok en Q q => ⟨_, pw_and1 pt_wt, h Hi H σ ok en Q q⟩
theorem aw_or1 {P : Bool → Mem → Prop} (h : aT X a Γ M P) : aW X (.BoolOp .Or [a] pos) Γ M P := fun Hi H σ ok en Q q => ⟨_, pw_or1 pt_wt, h Hi H σ ok en Q q⟩
theorem aw_and {P : Bool → Mem → Prop} {rest : List Expr} (h : aT X a Γ M fun x M' => (x = true → aW X (.BoolOp .And (b :: rest) pos) Γ M' P) ∧ (x = false → P false M')) : aW X (.BoolOp .And (a :: b :: rest) pos) Γ M P := fun Hi H σ ok en Q q => by
  refine ⟨_, pw_and pt_wt pw_ww, ?_⟩
  refine h Hi H σ ok en _ fun x M1 Hi1 H1 h1 s1 ok1 => ?_
  cases x with
  | true => exact iteT (h1.1 rfl Hi1 H1 σ ok1 (en.mono s1) _ (q.up s1))
  | false => exact iteF (q _ _ Hi1 H1 (h1.2 rfl) s1 ok1)
theorem aw_or {P : Bool → Mem → Prop} {rest : List Expr} (h : aT X a Γ M fun x M' => (x = true → P true M') ∧ (x = false → aW X (.BoolOp .Or (b :: rest) pos) Γ M' P)) : aW X (.BoolOp .Or (a :: b :: rest) pos) Γ M P := fun Hi H σ ok en Q q => by
  refine ⟨_, pw_or pt_wt pw_ww, ?_⟩
  refine h Hi H σ ok en _ fun x M1 Hi1 H1 h1 s1 ok1 => ?_
  cases x with
  | false => exact iteF (h1.2 rfl Hi1 H1 σ ok1 (en.mono s1) _ (q.up s1))
  | true => exact iteT (q _ _ Hi1 H1 (h1.1 rfl) s1 ok1)
/-- as values -/
theorem ae_and {rest : List Expr} (h : aE X a Γ M fun x M' => ∃ k, x = .bl k ∧ (k = true → aE X (.BoolOp .And (b :: rest) pos) Γ M' P) ∧ (k = false → P (.bl false) M')) : aE X (.BoolOp .And (a :: b :: rest) pos) Γ M P := fun Hi H σ ok en Q q => by
  refine ⟨_, pe_and pe_we pe_we, ?_⟩
  refine h Hi H σ ok en _ fun x M1 v Hi1 H1 h1 s1 ok1 r1 => ?_
  obtain ⟨k, rfl, h2, h3⟩ := h1
  cases r1
  refine ⟨k, rfl, ?_⟩
  cases k with
  | true => exact iteT (h2 rfl Hi1 H1 σ ok1 (en.mono s1) _ (q.up s1))
  | false => exact iteF (q _ _ _ Hi1 H1 (h3 rfl) s1 ok1 (.bl _))
theorem ae_or {rest : List Expr} (h : aE X a Γ M fun x M' => ∃ k, x = .bl k ∧ (k = true → P (.bl true) M') ∧ (k = false → aE X (.BoolOp .Or (b :: rest) pos) Γ M' P)) : aE X (.BoolOp .Or (a :: b :: rest) pos) Γ M P := fun Hi H σ ok en Q q => by
  refine ⟨_, pe_or pe_we pe_we, ?_⟩
  refine h Hi H σ ok en _ fun x M1 v Hi1 H1 h1 s1 ok1 r1 => ?_
  obtain ⟨k, rfl, h2, h3⟩ := h1
  cases r1
  refine ⟨k, rfl, ?_⟩
  cases k with
  | false => exact iteF (h3 rfl Hi1 H1 σ ok1 (en.mono s1) _ (q.up s1))
  | true => exact iteT (q _ _ _ Hi1 H1 (h2 rfl) s1 ok1 (.bl _))
theorem ae_one {op} (h : aE X a Γ M P) : aE X (.BoolOp op [a] pos) Γ M P := fun Hi H σ ok en Q q => ⟨_, pe_one pe_we, h Hi H σ ok en Q q⟩
theorem ae_if (h : aT X c Γ M fun x M' => (x = true → aE X a Γ M' P) ∧ (x = false → aE X b Γ M' P)) : aE X (.IfExp c a b pos) Γ M P := fun Hi H σ ok en Q q => by
  refine ⟨_, pe_ifExp pt_wt pe_we pe_we, ?_⟩
  refine h Hi H σ ok en _ fun x M1 Hi1 H1 h1 s1 ok1 => ?_
  cases x with
  | true => exact iteT (h1.1 rfl Hi1 H1 σ ok1 (en.mono s1) _ (q.up s1))
  | false => exact iteF (h1.2 rfl Hi1 H1 σ ok1 (en.mono s1) _ (q.up s1))
/-- truth of a pure test in two ways -/
theorem ae_ifd {p : Prop} [Decidable p] (hc : aB X c Γ M (decide p)) (h1 : p → aE X a Γ M P) (h2 : ¬ p → aE X b Γ M P) : aE X (.IfExp c a b pos) Γ M P :=
  ae_if (hc.val ⟨fun z => h1 (of_decide_eq_true z), fun z => h2 (of_decide_eq_false z)⟩)
/-! ### arguments, displays -/
theorem aa_nil {P : List Val → Mem → Prop} (h : P [] M) : aA X [] Γ M P := fun Hi H σ ok en Q q => ⟨_, pa_nil, q _ _ _ Hi H h (Same.refl _) ok .nil⟩
theorem aa_cons {P : List Val → Mem → Prop} (h : aE X e Γ M fun x M1 => aA X es Γ M1 fun xs M2 => P (x :: xs) M2) (hs : starEach (e :: es) X.env = (false, eval e X.env) :: starEach es X.env := by rfl) : aA X (e :: es) Γ M P := fun Hi H σ ok en Q q => by
  refine ⟨_, pa_cons pe_we pa_wa hs, ?_⟩
  refine h Hi H σ ok en _ fun x M1 v Hi1 H1 h1 s1 ok1 r1 => ?_
  exact h1 Hi1 H1 σ ok1 (en.mono s1) _ fun xs M2 vs Hi2 H2 h2 s2 ok2 r2 => q _ _ _ Hi2 H2 h2 (s1.trans s2) ok2 (.cons (r1.mono s2) r2)
theorem avs_nil : aVs X [] Γ M [] := aa_nil ⟨rfl, rfl⟩
theorem avs_cons {ds : List Val} (h : aV X e Γ M d) (hr : aVs X es Γ M ds) (hs : starEach (e :: es) X.env = (false, eval e X.env) :: starEach es X.env := by rfl) : aVs X (e :: es) Γ M (d :: ds) :=
  aa_cons (h.val (hr.val ⟨rfl, rfl⟩)) hs
theorem ae_tup {x1} (h : aA X es Γ M fun xs M' => xs.length ≤ sizeLine ∧ P (.tup xs) M') : aE X (.Tuple es x1 pos) Γ M P := fun Hi H σ ok en Q q => by
  refine ⟨_, pe_tup pa_wa, ?_⟩
  refine h Hi H σ ok en _ fun xs M1 vs Hi1 H1 h1 s1 ok1 r1 => ?_
  refine ⟨r1.length ▸ h1.1, fun p hp => ?_⟩
  have s2 := same_upd (o := .tup vs) (ok1.none hp)
  exact q _ _ _ _ _ h1.2 (s1.trans s2) (ok1.imm hp) (.tup (SqT.of upd_same) (r1.mono s2))
theorem av_tup {x1} {ds : List Val} (h : aVs X es Γ M ds) (hl : ds.length ≤ sizeLine) : aV X (.Tuple es x1 pos) Γ M (.tup ds) := ae_tup (h.val ⟨hl, rfl, rfl⟩)
/-- a list that will not change -/
theorem ae_lst (h : aA X es Γ M fun xs M' => xs.length ≤ sizeLine ∧ P (.lst xs) M') : aE X (.List es pos) Γ M P := fun Hi H σ ok en Q q => by
  refine ⟨_, pe_lst pa_wa, ?_⟩
  refine h Hi H σ ok en _ fun xs M1 vs Hi1 H1 h1 s1 ok1 r1 => ?_
  refine ⟨r1.length ▸ h1.1, fun p hp => ?_⟩
  have s2 := same_upd (o := .lst vs) (ok1.none hp)
  exact q _ _ _ _ _ h1.2 (s1.trans s2) (ok1.imm hp) (.lst (SqL.of upd_same) (r1.mono s2))
/-- a list that will change: a new cell -/
theorem ae_lstC (h : aA X es Γ M fun xs M' => xs.length ≤ sizeLine ∧ ∀ p, P (.ptr p) ((p, .lst xs) :: M')) : aE X (.List es pos) Γ M P := fun Hi H σ ok en Q q => by
  refine ⟨_, pe_lst pa_wa, ?_⟩
  refine h Hi H σ ok en _ fun xs M1 vs Hi1 H1 h1 s1 ok1 r1 => ?_
  refine ⟨r1.length ▸ h1.1, fun p hp => ?_⟩
  exact q _ _ _ _ _ (h1.2 p) s1 (ok1.new hp ⟨vs, rfl, r1⟩) (.ptr p)
/-! ### places -/
theorem rep_at {K : PySem.W.Frag} {H : Hp} {ds : List Val} {vs : List V} (r : RepA K H ds vs) {i : Int} {d : Val} (h : atI ds i = some d) : ∃ v, atI vs i = some v ∧ Rep K H d v := by
  unfold atI at h ⊢
  rw [← r.length]
  cases e : ixN ds.length i with
  | none => rw [e] at h; cases h
  | some j =>
    rw [e] at h
    exact r.get h
/-- xs[i], t[i] -/
theorem ae_ixL {xs : List Val} (ha : aV X a Γ M d1) (hb : aV X b Γ M (.int i)) (hv : Vw M d1 (.lst xs)) (h : ∃ d, atI xs i = some d ∧ P d M) (hs : PlainIx b := by exact fun _ _ => rfl) : aE X (.Subscript a b pos) Γ M P := fun Hi H σ ok en Q q => by
  obtain ⟨d, hd, p⟩ := h
  refine ⟨_, pe_ix ix_list pe_we pe_we hs, ?_⟩
  refine ha Hi H σ ok en _ fun x M1 v Hi1 H1 h1 s1 ok1 r1 => ?_
  obtain ⟨rfl, rfl⟩ := h1
  refine hb Hi1 H1 σ ok1 (en.mono s1) _ fun y M2 w Hi2 H2 h2 s2 ok2 r2 => ?_
  obtain ⟨rfl, rfl⟩ := h2
  cases r2
  cases hv with
  | self =>
    cases r1.mono s2 with
    | lst hq ra =>
      obtain ⟨z, hz, rz⟩ := rep_at ra hd
      exact ⟨_, _, i, z, rfl, rfl, ok2.im.seq hq, hz, q _ _ z Hi2 H2 p (s1.trans s2) ok2 rz⟩
  | lst j hm =>
    obtain ⟨_, o, ho, xs', rfl, ra⟩ := ok2.get hm
    cases r1
    obtain ⟨z, hz, rz⟩ := rep_at ra hd
    exact ⟨_, _, i, z, rfl, rfl, SqL.of ho, hz, q _ _ z Hi2 H2 p (s1.trans s2) ok2 rz⟩
theorem ae_ixT {xs : List Val} (ha : aV X a Γ M (.tup xs)) (hb : aV X b Γ M (.int i)) (h : ∃ d, atI xs i = some d ∧ P d M) (hs : PlainIx b := by exact fun _ _ => rfl) : aE X (.Subscript a b pos) Γ M P := fun Hi H σ ok en Q q => by
  obtain ⟨d, hd, p⟩ := h
  refine ⟨_, pe_ix ix_tup pe_we pe_we hs, ?_⟩
  refine ha Hi H σ ok en _ fun x M1 v Hi1 H1 h1 s1 ok1 r1 => ?_
  obtain ⟨rfl, rfl⟩ := h1
  refine hb Hi1 H1 σ ok1 (en.mono s1) _ fun y M2 w Hi2 H2 h2 s2 ok2 r2 => ?_
  obtain ⟨rfl, rfl⟩ := h2
  cases r2
  cases r1.mono s2 with
  | tup hq ra =>
    obtain ⟨z, hz, rz⟩ := rep_at ra hd
    exact ⟨_, _, i, z, rfl, rfl, sameT ok2.im hq, hz, q _ _ z Hi2 H2 p (s1.trans s2) ok2 rz⟩
theorem av_ixL {xs : List Val} (ha : aV X a Γ M d1) (hb : aV X b Γ M (.int i)) (hv : Vw M d1 (.lst xs)) (hd : atI xs i = some d) (hs : PlainIx b := by exact fun _ _ => rfl) : aV X (.Subscript a b pos) Γ M d := ae_ixL ha hb hv ⟨d, hd, rfl, rfl⟩ hs
theorem av_ixT {xs : List Val} (ha : aV X a Γ M (.tup xs)) (hb : aV X b Γ M (.int i)) (hd : atI xs i = some d) (hs : PlainIx b := by exact fun _ _ => rfl) : aV X (.Subscript a b pos) Γ M d := ae_ixT ha hb ⟨d, hd, rfl, rfl⟩ hs
end
end Ab
namespace Ab
open PySem PySem.Spec PyProof.Rows L2
section
variable {X : Cx} {Γ : Gam} {M : Mem} {P : Val → Mem → Prop} {e a b c o : Expr} {es : List Expr} {pos p1 p2 apos : Pos} {k : AK} {d d1 d2 d3 : Val} {i j : Int} {x f m : Str}
/-- a new list's cell that will not change -/
theorem ae_frz (h : aE X e Γ M fun d M' => ∃ p xs M'', d = .ptr p ∧ M' = (p, .lst xs) :: M'' ∧ P (.lst xs) M'') : aE X e Γ M P := fun Hi H σ ok en Q q => by
  refine h Hi H σ ok en _ fun d M1 v Hi1 H1 h1 s1 ok1 r1 => ?_
  obtain ⟨p, xs, M2, rfl, rfl, hp⟩ := h1
  obtain ⟨e0, o, ho, vs, rfl, ra⟩ := ok1.ce p _ List.mem_cons_self
  cases r1
  have s2 := same_upd (o := .lst vs) e0
  exact q _ _ _ _ _ hp (s1.trans s2) (ok1.freeze ho) (.lst (SqL.of upd_same) (ra.mono s2))
/-! ### calls of built-ins -/
def RA (X : Cx) (r : List V → Hp → VK → Prop) (xs : List Val) (M : Mem) (P : Val → Mem → Prop) : Prop := ∀ Hi H vs, Ok X.K Hi M H → RepA X.K Hi xs vs → ∀ Q, Post X.K Hi P Q → r vs H Q
theorem ae_callB {id : String} {r : List V → Hp → VK → Prop} (hc : CallR X (.builtin id) r) (hm : X.mg x = none) (hv : bootBuiltins x = some (.builtin id)) (h : aA X (e :: es) Γ M fun xs M' => RA X r xs M' P)
    (hg : Gl X x := by rfl) (hn : x ≠ "__name__" := by decide) (hdb : (x == ("__debug__" : Str)) = false := by decide)
    (he : starEach (e :: es) X.env = (false, eval e X.env) :: starEach es X.env := by rfl) (hpl : (backTo pos (starEach es X.env)).any (·.1) = false := by rfl) : aE X (.Call (.Name x p1) (e :: es) [] pos) Γ M P := fun Hi H σ ok en Q q => by
  refine ⟨_, pe_callB hc hg hm hv pa_wa hn hdb he hpl, ?_⟩
  exact h Hi H σ ok en _ fun xs M1 vs Hi1 H1 h1 s1 ok1 r1 => h1 Hi1 H1 vs ok1 r1 Q (q.up s1)
theorem ae_callTy {T : String} {r : List V → Hp → VK → Prop} (hc : CallR X (.type T) r) (hm : X.mg x = none) (hv : bootBuiltins x = some (.type T)) (h : aA X (e :: es) Γ M fun xs M' => RA X r xs M' P)
    (hg : Gl X x := by rfl) (hn : x ≠ "__name__" := by decide) (hdb : (x == ("__debug__" : Str)) = false := by decide)
    (he : starEach (e :: es) X.env = (false, eval e X.env) :: starEach es X.env := by rfl) (hpl : (backTo pos (starEach es X.env)).any (·.1) = false := by rfl) : aE X (.Call (.Name x p1) (e :: es) [] pos) Γ M P := fun Hi H σ ok en Q q => by
  refine ⟨_, pe_callTy hc hg hm hv pa_wa hn hdb he hpl, ?_⟩
  exact h Hi H σ ok en _ fun xs M1 vs Hi1 H1 h1 s1 ok1 r1 => h1 Hi1 H1 vs ok1 r1 Q (q.up s1)
/-- what a list or tuple value is -/
inductive Sq (M : Mem) : Val → List Val → Prop
  | l {d : Val} {xs : List Val} : Vw M d (.lst xs) → Sq M d xs
  | t {xs : List Val} : Sq M (.tup xs) xs
theorem Sq.rep {K : PySem.W.Frag} {Hi H : Hp} {d : Val} {xs : List Val} {v : V} (h : Sq M d xs) (ok : Ok K Hi M H) (r : Rep K Hi d v) : ∃ p ys, v = .ref p ∧ (SqL K H p ys ∨ SqT K H p ys) ∧ RepA K Hi xs ys := by
  cases h with
  | l h =>
    cases h with
    | self => cases r with
      | lst hq ra => exact ⟨_, _, rfl, .inl (ok.im.seq hq), ra⟩
    | lst i hm =>
      obtain ⟨_, o, ho, ys, rfl, ra⟩ := ok.get hm
      cases r
      exact ⟨_, _, rfl, .inl (SqL.of ho), ra⟩
  | t => cases r with
    | tup hq ra => exact ⟨_, _, rfl, .inr (sameT ok.im hq), ra⟩
theorem Vw.repL {K : PySem.W.Frag} {Hi H : Hp} {d : Val} {xs : List Val} {v : V} (h : Vw M d (.lst xs)) (ok : Ok K Hi M H) (r : Rep K Hi d v) : ∃ p ys, v = .ref p ∧ SqL K H p ys ∧ RepA K Hi xs ys := by
  cases h with
  | self => cases r with
    | lst hq ra => exact ⟨_, _, rfl, ok.im.seq hq, ra⟩
  | lst i hm =>
    obtain ⟨_, o, ho, ys, rfl, ra⟩ := ok.get hm
    cases r
    exact ⟨_, _, rfl, SqL.of ho, ra⟩
theorem ae_len {xs : List Val} (hm : X.mg "len" = none) (ha : aV X a Γ M d) (hs : Sq M d xs) (h : P (.int xs.length) M) (hg : Gl X "len" := by rfl) (hst : starEach [a] X.env = [(false, eval a X.env)] := by rfl) : aE X (.Call (.Name "len" p1) [a] [] pos) Γ M P :=
  ae_callB call_len_seq hm PySem.boot_len (aa_cons (ha.val (aa_nil fun Hi H vs ok r Q q => by
    cases r with
    | cons r1 r2 =>
      cases r2
      obtain ⟨p, ys, rfl, hq, ra⟩ := hs.rep ok r1
      refine ⟨p, ys, rfl, hq, ?_⟩
      rw [← ra.length]
      exact q _ _ _ Hi H h (Same.refl _) ok (.int _))) hst) hg (he := hst) (hpl := rfl)
theorem av_len {xs : List Val} (hm : X.mg "len" = none) (ha : aV X a Γ M d) (hs : Sq M d xs) (hg : Gl X "len" := by rfl) (hst : starEach [a] X.env = [(false, eval a X.env)] := by rfl) : aV X (.Call (.Name "len" p1) [a] [] pos) Γ M (.int xs.length) := ae_len hm ha hs ⟨rfl, rfl⟩ hg hst
/-- list(x): a new cell -/
theorem ae_list (hm : X.mg "list" = none) (ha : aE X a Γ M fun d M' => ∃ xs, Sq M' d xs ∧ ∀ p, P (.ptr p) ((p, .lst xs) :: M')) (hg : Gl X "list" := by rfl) (hst : starEach [a] X.env = [(false, eval a X.env)] := by rfl) : aE X (.Call (.Name "list" p1) [a] [] pos) Γ M P :=
  ae_callTy call_list_of hm (by decide +kernel) (aa_cons (ha.mono fun d M' ⟨xs, hs, h⟩ => aa_nil fun Hi H vs ok r Q q => by
    cases r with
    | cons r1 r2 =>
      cases r2
      obtain ⟨p, ys, rfl, hq, ra⟩ := hs.rep ok r1
      exact ⟨p, ys, rfl, hq, fun l hl => q _ _ _ _ _ (h l) (Same.refl _) (ok.new hl ⟨ys, rfl, ra⟩) (.ptr l)⟩) hst) hg (he := hst) (hpl := rfl)
/-- tuple(x) -/
theorem ae_tuple (hm : X.mg "tuple" = none) (ha : aE X a Γ M fun d M' => ∃ xs, Sq M' d xs ∧ P (.tup xs) M') (hg : Gl X "tuple" := by rfl) (hst : starEach [a] X.env = [(false, eval a X.env)] := by rfl) : aE X (.Call (.Name "tuple" p1) [a] [] pos) Γ M P :=
  ae_callTy call_tuple_of hm (by decide +kernel) (aa_cons (ha.mono fun d M' ⟨xs, hs, h⟩ => aa_nil fun Hi H vs ok r Q q => by
    cases r with
    | cons r1 r2 =>
      cases r2
      cases hs with
      | l hs =>
        obtain ⟨p, ys, rfl, hq, ra⟩ := hs.repL ok r1
        refine ⟨p, ys, rfl, .inl ⟨hq, fun l hl => ?_⟩⟩
        have s2 := same_upd (o := .tup ys) (ok.none hl)
        exact q _ _ _ _ _ h s2 (ok.imm hl) (.tup (SqT.of upd_same) (ra.mono s2))
      | t =>
        cases r1 with
        | tup hq ra => exact ⟨_, _, rfl, .inr ⟨sameT ok.im hq, q _ _ _ Hi H h (Same.refl _) ok (.tup hq ra)⟩⟩) hst) hg (he := hst) (hpl := rfl)
/-! ### slices -/
def aO (X : Cx) (e : Option Expr) (Γ : Gam) (M : Mem) (o : Option Int) : Prop := ∀ Hi H σ, Ok X.K Hi M H → EnvR X.K Hi Γ σ → ∀ Q : Option Int → Hp → Prop, (∀ Hi' H', Same Hi Hi' → Ok X.K Hi' M H' → Q o H') → ∃ t, PO X e t ∧ t σ H Q
theorem ao_none : aO X none Γ M none := fun Hi H σ ok en Q q => ⟨_, po_none, q Hi H (Same.refl _) ok⟩
theorem ao_some (h : aV X e Γ M (.int i)) : aO X (some e) Γ M (some i) := fun Hi H σ ok en Q q => by
  refine ⟨_, po_some pe_we, ?_⟩
  refine h Hi H σ ok en _ fun x M1 v Hi1 H1 h1 s1 ok1 r1 => ?_
  obtain ⟨rfl, rfl⟩ := h1
  cases r1
  exact ⟨i, rfl, q Hi1 H1 s1 ok1⟩
def WO (X : Cx) (e : Option Expr) : TO := fun σ H Q => ∃ t, PO X e t ∧ t σ H Q
theorem po_wo {e : Option Expr} : PO X e (WO X e) := ⟨fun pins s σ H Q I ⟨t, p, h⟩ => p.run pins s σ H Q I h⟩
def cutA (xs : List Val) (lo hi : Option Int) : List Val := (xs.drop (HT.sIx xs.length 0 lo)).take (HT.sIx xs.length xs.length hi - HT.sIx xs.length 0 lo)
theorem rep_cut {K : PySem.W.Frag} {H : Hp} {xs : List Val} {vs : List V} (r : RepA K H xs vs) (lo hi : Option Int) : RepA K H (cutA xs lo hi) (cutV vs lo hi) := by
  unfold cutA cutV
  rw [← r.length]
  exact (r.drop _).take _
theorem ae_sliceL {xs : List Val} {elo ehi : Option Expr} {lo hi : Option Int} (ha : aV X a Γ M d) (hl : aO X elo Γ M lo) (hh : aO X ehi Γ M hi) (hv : Vw M d (.lst xs)) (h : ∀ p, P (.ptr p) ((p, .lst (cutA xs lo hi)) :: M)) : aE X (.Subscript a (.Slice elo ehi none p2) pos) Γ M P := fun Hi H σ ok en Q q => by
  refine ⟨_, pe_slice sl_list pe_we po_wo po_wo, ?_⟩
  refine ha Hi H σ ok en _ fun x M1 v Hi1 H1 h1 s1 ok1 r1 => ?_
  obtain ⟨rfl, rfl⟩ := h1
  refine hl Hi1 H1 σ ok1 (en.mono s1) _ fun Hi2 H2 s2 ok2 => ?_
  refine hh Hi2 H2 σ ok2 (en.mono (s1.trans s2)) _ fun Hi3 H3 s3 ok3 => ?_
  have s13 := (s1.trans s2).trans s3
  obtain ⟨p, ys, rfl, hq, ra⟩ := hv.repL ok3 (r1.mono (s2.trans s3))
  exact ⟨p, ys, rfl, hq, fun l hl => q _ _ _ _ _ (h l) s13 (ok3.new hl ⟨_, rfl, rep_cut ra lo hi⟩) (.ptr l)⟩
theorem ae_sliceT {xs : List Val} {elo ehi : Option Expr} {lo hi : Option Int} (ha : aV X a Γ M (.tup xs)) (hl : aO X elo Γ M lo) (hh : aO X ehi Γ M hi) (h : P (.tup (cutA xs lo hi)) M) : aE X (.Subscript a (.Slice elo ehi none p2) pos) Γ M P := fun Hi H σ ok en Q q => by
  refine ⟨_, pe_slice sl_tupA pe_we po_wo po_wo, ?_⟩
  refine ha Hi H σ ok en _ fun x M1 v Hi1 H1 h1 s1 ok1 r1 => ?_
  obtain ⟨rfl, rfl⟩ := h1
  refine hl Hi1 H1 σ ok1 (en.mono s1) _ fun Hi2 H2 s2 ok2 => ?_
  refine hh Hi2 H2 σ ok2 (en.mono (s1.trans s2)) _ fun Hi3 H3 s3 ok3 => ?_
  have s13 := (s1.trans s2).trans s3
  cases r1.mono (s2.trans s3) with
  | @tup p ys _ hq ra =>
    refine ⟨p, ys, rfl, sameT ok3.im hq, fun hw => ?_, fun hw l hl => ?_⟩
    · have e : cutA xs lo hi = xs := by
        unfold cutA
        rw [ra.length, hw.1, hw.2]
        rw [← ra.length]
        simp
      rw [e] at h
      exact q _ _ _ Hi3 H3 h s13 ok3 (.tup hq ra)
    · have s4 := same_upd (o := .tup (cutV ys lo hi)) (ok3.none hl)
      exact q _ _ _ _ _ h (s13.trans s4) (ok3.imm hl) (.tup (SqT.of upd_same) ((rep_cut ra lo hi).mono s4))
/-! ### fields -/
/-- an instance: one that will not change, or a cell -/
inductive Ob (M : Mem) (C : Addr) : Val → List (Str × Val) → Prop
  | im (fs : List (Str × Val)) : Ob M C (.obj C fs) fs
  | ce (i : Nat) {p : Addr} {fs : List (Str × Val)} : M[i]? = some (p, .ins C fs) → Ob M C (.ptr p) fs
theorem Ob.rep {K : PySem.W.Frag} {Hi H : Hp} {C : Addr} {d : Val} {fs : List (Str × Val)} {v : V} (h : Ob M C d fs) (ok : Ok K Hi M H) (r : Rep K Hi d v) : ∃ p dx gs, v = .ref p ∧ H p = some (.ins C dx gs) ∧ RepF K Hi fs gs := by
  cases h with
  | im => cases r with
    | obj hq ra => exact ⟨_, _, _, rfl, ok.im _ _ hq, ra⟩
  | ce i hm =>
    obtain ⟨_, o, ho, dx, gs, rfl, ra⟩ := ok.get hm
    cases r
    exact ⟨_, _, _, rfl, ho, ra⟩
theorem ae_fld {C : Addr} (c : Cls X.K C) (n : NoAttr X.K C f) (ha : aE X a Γ M fun d M' => ∃ fs v, Ob M' C d fs ∧ fs.lookup f = some v ∧ P v M') (hb : attributeBase a f X.env (eval a X.env) = eval a X.env := by rfl) : aE X (.Attribute a f pos) Γ M P := fun Hi H σ ok en Q q => by
  refine ⟨_, pe_fld pe_we hb, ?_⟩
  refine ha Hi H σ ok en _ fun x M1 v Hi1 H1 h1 s1 ok1 r1 => ?_
  obtain ⟨fs, z, ho, hf, hp⟩ := h1
  obtain ⟨p, dx, gs, rfl, hq, ra⟩ := ho.rep ok1 r1
  obtain ⟨w, hw, rw_⟩ := ra.lookup hf
  exact ⟨p, C, dx, gs, w, rfl, hq, c, n, hw, q _ _ w Hi1 H1 hp s1 ok1 rw_⟩
theorem av_fld {C : Addr} {fs : List (Str × Val)} (c : Cls X.K C) (n : NoAttr X.K C f) (ha : aV X a Γ M d) (ho : Ob M C d fs) (hf : fs.lookup f = some d1) (hb : attributeBase a f X.env (eval a X.env) = eval a X.env := by rfl) : aV X (.Attribute a f pos) Γ M d1 :=
  ae_fld c n (ha.val ⟨fs, d1, ho, hf, rfl, rfl⟩) hb
/-! ### dicts -/
theorem ae_dget {n : Nat} {p : Addr} {kvs : List (Key × Val)} (hu : X.A.units + 1 < cLine) (ha : aV X a Γ M (.ptr p)) (hb : aV X b Γ M (.str x)) (hm : M[n]? = some (p, .dk kvs)) (h : ∃ d, dGet kvs (.inr x) = some d ∧ P d M) (hs : NoSl b := by exact fun _ _ => rfl) : aE X (.Subscript a b pos) Γ M P := fun Hi H σ ok en Q q => by
  obtain ⟨d, hd, hp⟩ := h
  refine ⟨_, pe_dget hu pe_we pe_we hs, ?_⟩
  refine ha Hi H σ ok en _ fun x M1 v Hi1 H1 h1 s1 ok1 r1 => ?_
  obtain ⟨rfl, rfl⟩ := h1
  refine hb Hi1 H1 σ ok1 (en.mono s1) _ fun y M2 w Hi2 H2 h2 s2 ok2 r2 => ?_
  obtain ⟨rfl, rfl⟩ := h2
  cases r1
  cases r2
  obtain ⟨_, o, ho, ks, rfl, rk⟩ := ok2.get hm
  obtain ⟨z, hz, rz⟩ := rk.get hd
  exact ⟨p, z, rfl, .inl ⟨ks, .inr _, .inl ho, rfl, hz.symm⟩, q _ _ z Hi2 H2 hp (s1.trans s2) ok2 rz⟩
theorem av_dget {n : Nat} {p : Addr} {kvs : List (Key × Val)} (hu : X.A.units + 1 < cLine) (ha : aV X a Γ M (.ptr p)) (hb : aV X b Γ M (.str x)) (hm : M[n]? = some (p, .dk kvs)) (hd : dGet kvs (.inr x) = some d) (hs : NoSl b := by exact fun _ _ => rfl) : aV X (.Subscript a b pos) Γ M d := ae_dget hu ha hb hm ⟨d, hd, rfl, rfl⟩ hs
theorem as_dput {n : Nat} {p : Addr} {kvs : List (Key × Val)} {ppos : Pos} (hu : X.A.units + 1 < cLine) (ha : aV X a Γ M (.ptr p)) (hb : aV X b Γ M (.str x)) (he : aV X e Γ M d) (hm : M[n]? = some (p, .dk kvs)) (hl : kvs.length < sizeLine) (h : k.nx Γ (M.set n (p, .dk (dPut kvs (.inr x) d))))
    (hs : swapsWith e (some (.Subscript a b ppos)) pos.line X.env = pure false := by rfl) : aS X (.Assign [.Subscript a b ppos] e pos) Γ M k := fun Hi H σ ok en D q => by
  refine ⟨_, ps_dput hu pe_we pe_we pe_we hs, ?_⟩
  refine he Hi H σ ok en _ fun x0 M0 v0 Hi0 H0 h0 s0 ok0 r0 => ?_
  obtain ⟨rfl, rfl⟩ := h0
  refine ha Hi0 H0 σ ok0 (en.mono s0) _ fun x M1 v Hi1 H1 h1 s1 ok1 r1 => ?_
  obtain ⟨rfl, rfl⟩ := h1
  refine hb Hi1 H1 σ ok1 (en.mono (s0.trans s1)) _ fun y M2 w Hi2 H2 h2 s2 ok2 r2 => ?_
  obtain ⟨rfl, rfl⟩ := h2
  cases r1
  cases r2
  obtain ⟨_, o, ho, ks, rfl, rk⟩ := ok2.get hm
  have s02 := (s0.trans s1).trans s2
  exact ⟨p, _, rfl, .inl ⟨ks, .inr _, ho, rfl, by rw [← rk.length]; exact hl, rfl⟩, q.nx _ _ σ Hi2 _ h s02 (ok2.set hm ⟨_, rfl, rk.put (r0.mono (s1.trans s2))⟩) (en.mono s02)⟩
end
end Ab
namespace Ab
open PySem PySem.Spec PyProof.Rows L2
section
variable {X : Cx} {Γ : Gam} {M : Mem} {P : Val → Mem → Prop} {e a b c o : Expr} {es : List Expr} {pos p1 p2 apos : Pos} {k : AK} {d d1 d2 d3 : Val} {i j : Int} {x y f m : Str} {st : Stmt} {sts : List Stmt}
/-! ### blocks -/
theorem as_nil (h : k.nx Γ M) : aSs X [] Γ M k := fun Hi H σ ok en D q => ⟨_, pss_nil, q.nx Γ M σ Hi H h (Same.refl _) ok en⟩
theorem as_cons (h : aS X st Γ M { k with nx := fun Γ' M' => aSs X sts Γ' M' k }) : aSs X (st :: sts) Γ M k := fun Hi H σ ok en D q => by
  refine ⟨_, pss_cons ps_ws pss_wb, ?_⟩
  exact h Hi H σ ok en { D with nx := WB X sts D } ⟨fun Γ' M' σ' Hi' H' hn s ok' en' => hn Hi' H' σ' ok' en' D (q.up s), q.rt, q.bk, q.ct⟩
theorem as_one (h : aS X st Γ M k) : aSs X [st] Γ M k := fun Hi H σ ok en D q => ⟨_, pss_one ps_ws, h Hi H σ ok en D q⟩
theorem aSs.mono {k' : AK} (h : aSs X sts Γ M k) (f1 : ∀ Γ M, k.nx Γ M → k'.nx Γ M) (f2 : ∀ d M, k.rt d M → k'.rt d M) (f3 : ∀ Γ M, k.bk Γ M → k'.bk Γ M) (f4 : ∀ Γ M, k.ct Γ M → k'.ct Γ M) : aSs X sts Γ M k' := fun Hi H σ ok en D q =>
  h Hi H σ ok en D ⟨fun Γ M σ Hi' H' p => q.nx Γ M σ Hi' H' (f1 Γ M p), fun d M v Hi' H' p => q.rt d M v Hi' H' (f2 d M p), fun Γ M σ Hi' H' p => q.bk Γ M σ Hi' H' (f3 Γ M p), fun Γ M σ Hi' H' p => q.ct Γ M σ Hi' H' (f4 Γ M p)⟩
/-- the list in a slot's cell will change no more -/
theorem as_frz (i : Nat) {p : Addr} {xs : List Val} (hΓ : Γ[i]? = some (some (.ptr p))) (h : aSs X sts (Γ.set i (some (.lst xs))) M k) : aSs X sts Γ ((p, .lst xs) :: M) k := fun Hi H σ ok en D q => by
  obtain ⟨e0, o, ho, vs, rfl, ra⟩ := ok.ce p _ List.mem_cons_self
  have s2 := same_upd (o := .lst vs) e0
  obtain ⟨v, hv, rv⟩ := en.2 i _ hΓ
  cases rv
  have en2 := (en.mono s2).set (i := i) (d := .lst xs) (v := .ref p) (.lst (SqL.of upd_same) (ra.mono s2))
  have e : σ.set i (some (V.ref p)) = σ := by
    apply List.ext_getElem?
    intro j
    by_cases hij : i = j
    · subst hij
      rw [List.getElem?_set_self (List.getElem?_eq_some_iff.mp hv).1, hv]
    · rw [List.getElem?_set_ne hij]
  rw [e] at en2
  exact h _ H σ (ok.freeze ho) en2 D (q.up s2)
/-- forget a cell, slots -/
theorem as_drop {c : Addr × Cell} (h : aSs X sts Γ M k) : aSs X sts Γ (c :: M) k := fun Hi H σ ok en D q => h Hi H σ (Ok.tail (p := c.1) (c := c.2) ok) en D q
/-! ### statements -/
theorem as_expr (h : aE X e Γ M fun _ M' => k.nx Γ M') (hs : swapsWith e none pos.line X.env = pure false := by rfl) : aS X (.Expr e pos) Γ M k := fun Hi H σ ok en D q => by
  refine ⟨_, ps_expr pe_we hs, ?_⟩
  exact h Hi H σ ok en _ fun x M1 v Hi1 H1 h1 s1 ok1 r1 => q.nx _ _ σ Hi1 H1 h1 s1 ok1 (en.mono s1)
theorem as_ret (h : aE X e Γ M k.rt) : aS X (.Return (some e) pos) Γ M k := fun Hi H σ ok en D q => by
  refine ⟨_, ps_ret pe_we, ?_⟩
  exact h Hi H σ ok en _ fun x M1 v Hi1 H1 h1 s1 ok1 r1 => q.rt _ _ v Hi1 H1 h1 s1 ok1 r1
theorem as_if {s1 s2 : List Stmt} (h : aT X c Γ M fun b M' => (b = true → aSs X s1 Γ M' k) ∧ (b = false → aSs X s2 Γ M' k)) : aS X (.If c s1 s2 pos) Γ M k := fun Hi H σ ok en D q => by
  refine ⟨_, ps_if pt_wt pss_wb pss_wb, ?_⟩
  refine h Hi H σ ok en _ fun x M1 Hi1 H1 h1 s1 ok1 => ?_
  cases x with
  | true => exact iteT (h1.1 rfl Hi1 H1 σ ok1 (en.mono s1) D (q.up s1))
  | false => exact iteF (h1.2 rfl Hi1 H1 σ ok1 (en.mono s1) D (q.up s1))
/-! ### targets -/
def WG (X : Cx) (tg : Expr) : TG := fun v σ H Q => ∃ t, PG X tg t ∧ t v σ H Q
theorem pg_wg : PG X e (WG X e) := ⟨fun pins s σ H v u Q I r ⟨t, p, h⟩ => p.run pins s σ H v u Q I r h⟩
def aG (X : Cx) (tg : Expr) (d : Val) (Γ : Gam) (M : Mem) (R : Gam → Mem → Prop) : Prop := ∀ Hi H σ v, Ok X.K Hi M H → EnvR X.K Hi Γ σ → Rep X.K Hi d v → ∀ Q : L2.St → Hp → Prop, (∀ Γ' M' σ' Hi' H', R Γ' M' → Same Hi Hi' → Ok X.K Hi' M' H' → EnvR X.K Hi' Γ' σ' → Q σ' H') → WG X tg v σ H Q
theorem ag_name {R : Gam → Mem → Prop} (n : Nat) (hN : X.N.Nodup) (h : R (Γ.set n (some d)) M) (hi : X.N[n]? = some x := by rfl) (hx : Loc X.env.scope x := by first | exact Or.inl rfl | exact Or.inr rfl) (hf : X.fn x = true ∨ X.env.scope.names.lookup x = some .local := by first | exact .inl rfl | exact .inr rfl | assumption) :
    aG X (.Name x pos) d Γ M R := fun Hi H σ v ok en r Q q => ⟨_, pg_name hN hi hx hf, q _ _ _ Hi H h (Same.refl _) ok (en.set r)⟩
def aGs (X : Cx) (tgs : List Expr) (ds : List Val) (Γ : Gam) (M : Mem) (R : Gam → Mem → Prop) : Prop := ∀ Hi H σ vs, Ok X.K Hi M H → EnvR X.K Hi Γ σ → RepA X.K Hi ds vs → ∀ Q : L2.St → Hp → Prop, (∀ Γ' M' σ' Hi' H', R Γ' M' → Same Hi Hi' → Ok X.K Hi' M' H' → EnvR X.K Hi' Γ' σ' → Q σ' H') → ∃ t, PGs X tgs t ∧ t vs σ H Q
def WGs (X : Cx) (tgs : List Expr) : TGs := fun v σ H Q => ∃ t, PGs X tgs t ∧ t v σ H Q
theorem pgs_wgs : PGs X es (WGs X es) := ⟨fun pins s σ H v u Q I r ⟨t, p, h⟩ => p.run pins s σ H v u Q I r h⟩
theorem ags_nil {R : Gam → Mem → Prop} (h : R Γ M) : aGs X [] [] Γ M R := fun Hi H σ vs ok en r Q q => by
  cases r
  exact ⟨_, pgs_nil, rfl, q _ _ _ Hi H h (Same.refl _) ok en⟩
theorem ags_cons {R : Gam → Mem → Prop} {ds : List Val} (h : aG X e d Γ M fun Γ' M' => aGs X es ds Γ' M' R) (hs : (assignEach (e :: es) X.env).map (·.2) = assign e X.env :: (assignEach es X.env).map (·.2) := by rfl) : aGs X (e :: es) (d :: ds) Γ M R := fun Hi H σ vs ok en r Q q => by
  cases r with
  | cons r1 r2 =>
    refine ⟨_, pgs_cons pg_wg pgs_wgs hs, _, _, rfl, ?_⟩
    refine h Hi H σ _ ok en r1 _ fun Γ' M' σ' Hi' H' h1 s1 ok1 en1 => ?_
    exact h1 Hi' H' σ' _ ok1 en1 (r2.mono s1) Q fun Γ2 M2 σ2 Hi2 H2 h2 s2 ok2 en2 => q _ _ _ Hi2 H2 h2 (s1.trans s2) ok2 en2
theorem ag_tup {kk : Nat} {R : Gam → Mem → Prop} {ds : List Val} (hc : X.calm = true) (h : aGs X es ds Γ M R) (hl : (assignEach es X.env).length = ds.length := by rfl) (hst : (assignEach es X.env).findIdx? (·.1) = none := by rfl) : aG X (.Tuple es kk pos) (.tup ds) Γ M R := fun Hi H σ v ok en r Q q => by
  cases r with
  | tup hq ra => exact ⟨_, pg_tup hc pgs_wgs rfl hst, _, _, rfl, sameT ok.im hq, ra.length.symm.trans hl.symm, h Hi H σ _ ok en ra Q q⟩
theorem as_asg {tg : Expr} (he : aE X e Γ M fun d M' => aG X tg d Γ M' k.nx) (hs : swapsWithSole [tg] e pos.line X.env = pure false := by rfl) (hw : swappedStores [tg] e X.env = pure none := by rfl) (h1 : (assignEach [tg] X.env).map (·.2) = [assign tg X.env] := by rfl) : aS X (.Assign [tg] e pos) Γ M k := fun Hi H σ ok en D q => by
  refine ⟨_, ps_asg pe_we pg_wg hs hw h1, ?_⟩
  refine he Hi H σ ok en _ fun x M1 v Hi1 H1 h1 s1 ok1 r1 => ?_
  exact h1 Hi1 H1 σ v ok1 (en.mono s1) r1 _ fun Γ2 M2 σ2 Hi2 H2 h2 s2 ok2 en2 => q.nx _ _ _ Hi2 H2 h2 (s1.trans s2) ok2 en2
theorem as_set {ps : Pos} (n : Nat) (hN : X.N.Nodup) (he : aE X e Γ M fun d M' => k.nx (Γ.set n (some d)) M') (hi : X.N[n]? = some x := by rfl) (hx : Loc X.env.scope x := by first | exact Or.inl rfl | exact Or.inr rfl)
    (hs : swapsWith e (some (.Name x ps)) pos.line X.env = pure false := by rfl) (hf : X.fn x = true ∨ X.env.scope.names.lookup x = some .local := by first | exact .inl rfl | exact .inr rfl | assumption) : aS X (.Assign [.Name x ps] e pos) Γ M k := fun Hi H σ ok en D q => by
  refine ⟨_, ps_set hN hi hx pe_we hs hf, ?_⟩
  exact he Hi H σ ok en _ fun x M1 v Hi1 H1 h1 s1 ok1 r1 => q.nx _ _ _ Hi1 H1 h1 s1 ok1 ((en.mono s1).set r1)
/-- a, b = e1, e2 -/
theorem as_par {px py pt : Pos} {kt k2 pt2} (n m : Nat) (hN : X.N.Nodup) (hc : X.calm = true) (hnm : n ≠ m) (he : aA X [a, b] Γ M fun ds M' => ∃ d1 d2, ds = [d1, d2] ∧ k.nx ((Γ.set n (some d1)).set m (some d2)) M')
    (hi : X.N[n]? = some x := by rfl) (hj : X.N[m]? = some y := by rfl) (hx : X.env.scope.names.lookup x = some .local := by rfl) (hy : X.env.scope.names.lookup y = some .local := by rfl)
    (hw : swappedStores [.Tuple [.Name x px, .Name y py] kt pt] (.Tuple [a, b] k2 pt2) X.env = pure (some [x, y]) := by rfl)
    (hs : swapsWithSole [.Tuple [.Name x px, .Name y py] kt pt] (.Tuple [a, b] k2 pt2) pos.line X.env = pure false := by rfl) : aS X (.Assign [.Tuple [.Name x px, .Name y py] kt pt] (.Tuple [a, b] k2 pt2) pos) Γ M k := fun Hi H σ ok en D q => by
  refine ⟨_, ps_par hc hN hi hj hnm hx hy pa_wa hw hs, ?_⟩
  refine he Hi H σ ok en _ fun ds M1 vs Hi1 H1 h1 s1 ok1 r1 => ?_
  obtain ⟨d1, d2, rfl, h2⟩ := h1
  cases r1 with
  | cons r1 r2 =>
    cases r2 with
    | cons r2 r3 =>
      cases r3
      exact ⟨_, _, rfl, q.nx _ _ _ Hi1 H1 h2 s1 ok1 (((en.mono s1).set r1).set r2)⟩
/-- x += e, whole numbers -/
theorem as_augI {op : Operator} {g : Int → Int → Int} {ps : Pos} (n : Nat) (hN : X.N.Nodup) (ho : PIp X op (ipI g)) (hΓ : Γ[n]? = some (some (.int i))) (he : aE X e Γ M fun d M' => ∃ j, d = .int j ∧ k.nx (Γ.set n (some (.int (g i j)))) M') (hi : X.N[n]? = some x := by rfl) (hx : Loc X.env.scope x := by first | exact Or.inl rfl | exact Or.inr rfl)
    (hf : X.fn x = true ∨ X.env.scope.names.lookup x = some .local := by first | exact .inl rfl | exact .inr rfl | assumption) : aS X (.AugAssign (.Name x ps) op e pos) Γ M k := fun Hi H σ ok en D q => by
  refine ⟨_, ps_aug hN hi hx pe_we ho hf, ?_⟩
  obtain ⟨v, hv, rv⟩ := en.2 n _ hΓ
  cases rv
  refine ⟨_, hv, ?_⟩
  refine he Hi H σ ok en _ fun x M1 v Hi1 H1 h1 s1 ok1 r1 => ?_
  obtain ⟨j, rfl, h2⟩ := h1
  cases r1
  exact ⟨i, j, rfl, rfl, q.nx _ _ _ Hi1 H1 h2 s1 ok1 ((en.mono s1).set (.int _))⟩
/-- xs[i] = e -/
theorem ag_sub {n : Nat} {p : Addr} {xs : List Val} {jj : Nat} {R : Gam → Mem → Prop} (ha : aV X a Γ M (.ptr p)) (hb : aV X b Γ M (.int i)) (hm : M[n]? = some (p, .lst xs)) (hj : ixN xs.length i = some jj) (h : R Γ (M.set n (p, .lst (xs.set jj d))))
    (hsl : ∀ v, assign (.Subscript a b pos) X.env v = (do
      let ov ← holding [v] (eval a X.env)
      let iv ← holding [v, ov] (eval b X.env)
      standAt pos
      holding [v, ov, iv] (setItem ov iv v)
      release [v, ov, iv] []) := by intro _; rfl) : aG X (.Subscript a b pos) d Γ M R := fun Hi H σ v ok en r Q q => by
  refine ⟨_, pg_sub pe_we pe_we set_list hsl, ?_⟩
  refine ha Hi H σ ok en _ fun x M1 v1 Hi1 H1 h1 s1 ok1 r1 => ?_
  obtain ⟨rfl, rfl⟩ := h1
  refine hb Hi1 H1 σ ok1 (en.mono s1) _ fun y M2 w Hi2 H2 h2 s2 ok2 r2 => ?_
  obtain ⟨rfl, rfl⟩ := h2
  cases r1
  cases r2
  obtain ⟨_, o, ho, ys, rfl, ra⟩ := ok2.get hm
  have s12 := s1.trans s2
  exact ⟨p, ys, i, jj, rfl, rfl, ho, by rw [← ra.length]; exact hj, q _ _ _ Hi2 _ h s12 (ok2.set hm ⟨_, rfl, ra.set (r.mono s12) jj⟩) (en.mono s12)⟩
/-! ### fields stored -/
theorem as_fld {C : Addr} {ps : Pos} (c : Cls X.K C) (na : NoAttr X.K C f) (he : aE X e Γ M fun d M' => aE X a Γ M' fun o M2 => ∃ n p fs, o = .ptr p ∧ M2[n]? = some (p, .ins C fs) ∧ fs.length < 1000 ∧ k.nx Γ (M2.set n (p, .ins C (putV f d fs))))
    (hs : swapsWith e (some (.Attribute a f ps)) pos.line X.env = pure false := by rfl) : aS X (.Assign [.Attribute a f ps] e pos) Γ M k := fun Hi H σ ok en D q => by
  refine ⟨_, ps_fld pe_we pe_we hs, ?_⟩
  refine he Hi H σ ok en _ fun d M1 v Hi1 H1 h1 s1 ok1 r1 => ?_
  refine h1 Hi1 H1 σ ok1 (en.mono s1) _ fun o M2 w Hi2 H2 h2 s2 ok2 r2 => ?_
  obtain ⟨n, p, fs, rfl, hm, hl, hk⟩ := h2
  cases r2
  obtain ⟨_, o, ho, dx, gs, rfl, rf⟩ := ok2.get hm
  refine ⟨p, C, dx, gs, rfl, ho, c, na, by rw [← rf.length]; exact hl, ?_⟩
  have s12 := s1.trans s2
  exact q.nx _ _ σ Hi2 _ hk s12 (ok2.set hm ⟨dx, _, rfl, rf.put (r1.mono s2)⟩) (en.mono s12)
/-! ### append -/
theorem ae_append {n0 : Nat} {p : Addr} {xs0 : List Val} (ha : aV X a Γ M (.ptr p)) (hm0 : M[n0]? = some (p, .lst xs0)) (he : aE X e Γ M fun y M2 => ∃ n xs, M2[n]? = some (p, .lst xs) ∧ xs.length < sizeLine ∧ P .non (M2.set n (p, .lst (xs ++ [y]))))
    (hbase : attributeBase a "append" X.env (eval a X.env) = eval a X.env := by rfl)
    (hfew : ((backTo pos (starEach [e] X.env)).all (fun x => !x.1) && (backToKw pos (keywordEach [] X.env)).all (fun x => x.1.isSome)
      && decide (([e] : List Expr).length + ([] : List Keyword).length + (if ([] : List Keyword).isEmpty then 0 else 1) < 30)) = true := by rfl)
    (hline : (apos.endLine == pos.line) = true := by rfl) (hs : starEach [e] X.env = (false, eval e X.env) :: starEach [] X.env := by rfl) : aE X (.Call (.Attribute a "append" apos) [e] [] pos) Γ M P := fun Hi H σ ok en Q q => by
  refine ⟨_, pe_bm PySem.F.plainAttrs_list PySem.F.slot_list_append PySem.F.type_list_append mt_append pe_we (pa_cons pe_we pa_nil hs) hbase hfew hline hs rfl, ?_⟩
  refine ha Hi H σ ok en _ fun d M1 v Hi1 H1 h1 s1 ok1 r1 => ?_
  obtain ⟨rfl, rfl⟩ := h1
  cases r1
  obtain ⟨_, o, ho, ys, rfl, ra⟩ := ok1.get hm0
  refine ⟨.inl ⟨rfl, _, SqL.of ho⟩, ?_⟩
  refine he Hi1 H1 σ ok1 (en.mono s1) _ fun y M2 w Hi2 H2 h2 s2 ok2 r2 => ?_
  obtain ⟨n, xs, hm, hl, hp⟩ := h2
  obtain ⟨_, o, ho2, zs, rfl, rz⟩ := ok2.get hm
  exact ⟨p, zs, w, rfl, rfl, ho2, by rw [← rz.length]; exact hl, q _ _ _ Hi2 _ hp (s1.trans s2) (ok2.set hm ⟨_, rfl, rz.append (.cons r2 .nil)⟩) .non⟩
/-! ### loops -/
def WI (X : Cx) (tg iter : Expr) : TI := fun σ H R => ∃ t, PI X tg iter t ∧ t σ H R
theorem pi_wi {tg iter : Expr} : PI X tg iter (WI X tg iter) := ⟨fun pins s σ H R I ⟨t, p, h⟩ => p.run pins s σ H R I h⟩
/-- n turns, the i-th gives it i; while G holds of the cells -/
def aI (X : Cx) (tg iter : Expr) (Γ : Gam) (M : Mem) (n : Nat) (it : Nat → Val) (G : Mem → Prop) (P : Mem → Prop) : Prop := ∀ Hi H σ, Ok X.K Hi M H → EnvR X.K Hi Γ σ → ∀ R : It → Hp → Prop,
  (∀ J M1 Hi1 H1, P M1 → Same Hi Hi1 → Ok X.K Hi1 M1 H1 →
    Walk J n (fun H' => ∃ Hi' M', Same Hi1 Hi' ∧ Ok X.K Hi' M' H' ∧ G M') (fun i H' v H'' => ∀ Hi' M', Same Hi1 Hi' → Ok X.K Hi' M' H' → G M' → ∃ Hi'', Same Hi' Hi'' ∧ Ok X.K Hi'' M' H'' ∧ Rep X.K Hi'' (it i) v) → R J H1) → WI X tg iter σ H R
theorem as_for {tg iter : Expr} {body : List Stmt} {n : Nat} {it : Nat → Val} {G : Mem → Prop} (I : Nat → Gam → Mem → Prop) (hp : PassesOwn (model X.prog X.w) X.A X.env X.xe) (hc : X.calm = true) (hi : aI X tg iter Γ M n it G (I 0 Γ)) (hG : ∀ i Γ M, i ≤ n → I i Γ M → G M)
    (hs : ∀ i Γ M, i < n → I i Γ M → aG X tg (it i) Γ M fun Γ2 M2 => aSs X body Γ2 M2 { k with nx := I (i + 1), ct := I (i + 1), bk := k.nx }) (hd : ∀ Γ M, I n Γ M → k.nx Γ M)
    (hf : ∀ x, foldedSetIterable iter X.env x = pure x := by intro _; rfl) : aS X (.For tg iter body [] pos) Γ M k := fun Hi H σ ok en D q => by
  refine ⟨_, ps_for hp hc pi_wi pg_wg pss_wb hf, ?_⟩
  refine hi Hi H σ ok en _ fun J M1 Hi1 H1 h1 s1 ok1 w => ?_
  refine for_it w (fun i σ' H' => ∃ Γ' M' Hi', I i Γ' M' ∧ Same Hi1 Hi' ∧ Ok X.K Hi' M' H' ∧ EnvR X.K Hi' Γ' σ') ⟨Γ, M1, Hi1, h1, Same.refl _, ok1, en.mono s1⟩ ?_ ?_ ?_
  · rintro i σ' H' hi ⟨Γ', M', Hi', h2, s2, ok2, en2⟩
    exact ⟨Hi', M', s2, ok2, hG i Γ' M' hi h2⟩
  · rintro i v σ' H' H'' hi ⟨Γ', M', Hi', h2, s2, ok2, en2⟩ hy
    obtain ⟨Hi3, s3, ok3, r3⟩ := hy Hi' M' s2 ok2 (hG i Γ' M' (Nat.le_of_lt hi) h2)
    have s13 := (s1.trans s2).trans s3
    refine hs i Γ' M' hi h2 Hi3 H'' σ' v ok3 (en2.mono s3) r3 _ fun Γ4 M4 σ4 Hi4 H4 h4 s4 ok4 en4 => ?_
    have s24 := (s2.trans s3).trans s4
    exact h4 Hi4 H4 σ4 ok4 en4 _ ⟨fun Γ5 M5 σ5 Hi5 H5 h5 s5 ok5 en5 => ⟨Γ5, M5, Hi5, h5, s24.trans s5, ok5, en5⟩, (q.up (s13.trans s4)).rt, (q.up (s13.trans s4)).nx, fun Γ5 M5 σ5 Hi5 H5 h5 s5 ok5 en5 => ⟨Γ5, M5, Hi5, h5, s24.trans s5, ok5, en5⟩⟩
  · rintro σ' H' ⟨Γ', M', Hi', h2, s2, ok2, en2⟩
    exact q.nx Γ' M' σ' Hi' H' (hd Γ' M' h2) (s1.trans s2) ok2 en2
theorem as_while {body : List Stmt} (I : Nat → Gam → Mem → Prop) (n : Nat) (hp : PassesOwn (model X.prog X.w) X.A X.env X.xe) (h0 : I n Γ M)
    (hs : ∀ n Γ M, I n Γ M → aT X c Γ M fun b M1 => (b = true → aSs X body Γ M1 { k with nx := fun Γ' M' => ∃ m, m < n ∧ I m Γ' M', ct := fun Γ' M' => ∃ m, m < n ∧ I m Γ' M', bk := k.nx }) ∧ (b = false → k.nx Γ M1)) : aS X (.While c body [] pos) Γ M k := fun Hi H σ ok en D q => by
  refine ⟨_, ps_while hp pt_wt pss_wb, ?_⟩
  refine ⟨fun m σ' H' => ∃ Γ' M' Hi', I m Γ' M' ∧ Same Hi Hi' ∧ Ok X.K Hi' M' H' ∧ EnvR X.K Hi' Γ' σ', ⟨n, Γ, M, Hi, h0, Same.refl _, ok, en⟩, ?_⟩
  rintro m σ' H' ⟨Γ', M', Hi', h2, s2, ok2, en2⟩
  refine hs m Γ' M' h2 Hi' H' σ' ok2 en2 _ fun b M3 Hi3 H3 h3 s3 ok3 => ?_
  cases b with
  | true =>
    refine iteT ⟨fun σ5 H5 => ∃ Γ5 M5 Hi5, (∃ m', m' < m ∧ I m' Γ5 M5) ∧ Same Hi3 Hi5 ∧ Ok X.K Hi5 M5 H5 ∧ EnvR X.K Hi5 Γ5 σ5, ?_, ?_⟩
    · rintro σ5 H5 ⟨Γ5, M5, Hi5, ⟨m', hl, h5⟩, s5, ok5, en5⟩
      exact ⟨m', hl, Γ5, M5, Hi5, h5, (s2.trans s3).trans s5, ok5, en5⟩
    · have q3 := q.up (s2.trans s3)
      exact h3.1 rfl Hi3 H3 σ' ok3 (en2.mono s3) _ ⟨fun Γ5 M5 σ5 Hi5 H5 h5 s5 ok5 en5 => ⟨Γ5, M5, Hi5, h5, s5, ok5, en5⟩, q3.rt, q3.nx, fun Γ5 M5 σ5 Hi5 H5 h5 s5 ok5 en5 => ⟨Γ5, M5, Hi5, h5, s5, ok5, en5⟩⟩
  | false => exact iteF (q.nx Γ' M3 σ' Hi3 H3 (h3.2 rfl) (s2.trans s3) ok3 (en2.mono s3))
/-! ### what is walked -/
theorem Sq.at {K : PySem.W.Frag} {H : Hp} {ds : List Val} {vs : List V} {i : Nat} {v : V} (r : RepA K H ds vs) (h : vs[i]? = some v) : Rep K H (ds.getD i .non) v := by
  obtain ⟨d, h1, h2⟩ := r.getV h
  rw [List.getD_eq_getElem?_getD, h1]
  exact h2
theorem ai_lst {tg : Expr} {R : Mem → Prop} {xs : List Val} (ha : aE X a Γ M fun d M' => d = .lst xs ∧ R M') : aI X tg a Γ M xs.length (fun i => xs.getD i .non) (fun _ => True) R := fun Hi H σ ok en R' q => by
  refine ⟨_, pi_list pe_we, ?_⟩
  refine ha Hi H σ ok en _ fun d M1 v Hi1 H1 h1 s1 ok1 r1 => ?_
  obtain ⟨rfl, hp⟩ := h1
  cases r1 with
  | @lst p ys _ hq ra =>
    refine ⟨p, rfl, ⟨ys, ok1.im.seq hq⟩, q _ M1 Hi1 H1 hp s1 ok1 ?_⟩
    rw [ra.length]
    refine walk_list.mono (fun H' hG => ?_) fun i H' v H'' hi hG hy Hi' M' s2 ok2 _ => ?_
    · obtain ⟨Hi', M', s2, ok2, _⟩ := hG
      exact ok2.im.seq (s2.seq hq)
    · obtain ⟨rfl, hv⟩ := hy
      exact ⟨Hi', Same.refl _, ok2, (Sq.at ra hv).mono s2⟩
theorem ai_tup {tg : Expr} {R : Mem → Prop} {xs : List Val} (ha : aE X a Γ M fun d M' => d = .tup xs ∧ R M') : aI X tg a Γ M xs.length (fun i => xs.getD i .non) (fun _ => True) R := fun Hi H σ ok en R' q => by
  refine ⟨_, pi_tup pe_we, ?_⟩
  refine ha Hi H σ ok en _ fun d M1 v Hi1 H1 h1 s1 ok1 r1 => ?_
  obtain ⟨rfl, hp⟩ := h1
  cases r1 with
  | @tup p ys _ hq ra =>
    refine ⟨p, rfl, ⟨ys, sameT ok1.im hq⟩, q _ M1 Hi1 H1 hp s1 ok1 ?_⟩
    rw [ra.length]
    refine walk_tup.mono (fun H' hG => ?_) fun i H' v H'' hi hG hy Hi' M' s2 ok2 _ => ?_
    · obtain ⟨Hi', M', s2, ok2, _⟩ := hG
      exact sameT ok2.im (sameT s2 hq)
    · obtain ⟨rfl, hv⟩ := hy
      exact ⟨Hi', Same.refl _, ok2, (Sq.at ra hv).mono s2⟩
theorem ai_range1 {tg : Expr} {R : Mem → Prop} {n : Nat} (hm : X.mg "range" = none) (ha : aE X a Γ M fun d M' => ∃ j : Int, d = .int j ∧ j.toNat = n ∧ -(2 ^ 62) ≤ j ∧ j < 2 ^ 62 ∧ R M') (hg : Gl X "range" := by rfl) (hs : starEach [a] X.env = [(false, eval a X.env)] := by rfl) :
    aI X tg (.Call (.Name "range" p1) [a] [] pos) Γ M n (fun i => .int (0 + i)) (fun _ => True) R := fun Hi H σ ok en R' q => by
  refine ⟨_, pi_range1 hg hm (pa_cons pe_we pa_nil hs) hs, ?_⟩
  refine ha Hi H σ ok en _ fun d M1 v Hi1 H1 h1 s1 ok1 r1 => ?_
  obtain ⟨j, rfl, rfl, hl, hh, hp⟩ := h1
  cases r1
  refine ⟨j, rfl, hl, hh, q _ M1 Hi1 H1 hp s1 ok1 ?_⟩
  refine walk_range.mono (fun _ _ => trivial) fun i H' v H'' hi hG hy Hi' M' s2 ok2 _ => ?_
  obtain ⟨rfl, rfl⟩ := hy
  exact ⟨Hi', Same.refl _, ok2, .int _⟩
theorem ai_range2 {tg : Expr} {R : Mem → Prop} {n : Nat} {lo : Int} (hm : X.mg "range" = none) (ha : aA X [a, b] Γ M fun ds M' => ∃ hi : Int, ds = [.int lo, .int hi] ∧ (hi - lo).toNat = n ∧ (-(2 ^ 62) ≤ lo ∧ lo < 2 ^ 62 ∧ -(2 ^ 62) ≤ hi ∧ hi < 2 ^ 62) ∧ R M') (hg : Gl X "range" := by rfl)
    (hs : starEach [a, b] X.env = [(false, eval a X.env), (false, eval b X.env)] := by rfl) (hs2 : starEach [b] X.env = [(false, eval b X.env)] := by rfl) :
    aI X tg (.Call (.Name "range" p1) [a, b] [] pos) Γ M n (fun i => .int (lo + i)) (fun _ => True) R := fun Hi H σ ok en R' q => by
  refine ⟨_, pi_range2 hg hm pa_wa hs hs2, ?_⟩
  refine ha Hi H σ ok en _ fun d M1 v Hi1 H1 h1 s1 ok1 r1 => ?_
  obtain ⟨hi, rfl, rfl, hb, hp⟩ := h1
  cases r1 with
  | cons r1 r2 =>
    cases r2 with
    | cons r2 r3 =>
      cases r3
      cases r1
      cases r2
      refine ⟨lo, hi, rfl, hb, q _ M1 Hi1 H1 hp s1 ok1 ?_⟩
      refine walk_range.mono (fun _ _ => trivial) fun i H' v H'' hi hG hy Hi' M' s2 ok2 _ => ?_
      obtain ⟨rfl, rfl⟩ := hy
      exact ⟨Hi', Same.refl _, ok2, .int _⟩
theorem ai_enumL {elts : List Expr} {kk : Nat} {tpos : Pos} {R : Mem → Prop} {xs : List Val} (hm : X.mg "enumerate" = none) (ha : aE X a Γ M fun d M' => d = .lst xs ∧ R M') (hg : Gl X "enumerate" := by rfl) (hs : starEach [a] X.env = [(false, eval a X.env)] := by rfl) :
    aI X (.Tuple elts kk tpos) (.Call (.Name "enumerate" p1) [a] [] pos) Γ M xs.length (fun i => .tup [.int i, xs.getD i .non]) (fun _ => True) R := fun Hi H σ ok en R' q => by
  refine ⟨_, pi_enum hg hm (pa_cons pe_we pa_nil hs) hs, ?_⟩
  refine ha Hi H σ ok en _ fun d M1 v Hi1 H1 h1 s1 ok1 r1 => ?_
  obtain ⟨rfl, hp⟩ := h1
  cases r1 with
  | @lst p ys _ hq ra =>
    refine ⟨p, ys, rfl, ok1.im.seq hq, q _ M1 Hi1 H1 hp s1 ok1 ?_⟩
    rw [ra.length]
    refine walk_enum.mono (fun H' hG => ?_) fun i H' v H'' hi hG hy Hi' M' s2 ok2 _ => ?_
    · obtain ⟨Hi', M', s2, ok2, _⟩ := hG
      exact ok2.im.seq (s2.seq hq)
    · obtain ⟨T, x, y, rfl, hT, rfl, hx, hy⟩ := hy
      cases hx
      have s3 := same_upd (o := .tup [.int (i : Nat), y]) (ok2.none hT)
      exact ⟨_, s3, ok2.imm hT, .tup (SqT.of upd_same) (.cons (.int _) (.cons ((Sq.at ra hy).mono (s2.trans s3)) .nil))⟩
end
end Ab
namespace Ab
open PySem PySem.Spec PyProof.Rows L2
/-! ### promises -/
/-- positional arguments, cells, what follows -/
abbrev ASp := List Val → Mem → (Val → Mem → Prop) → Prop
/-- .. and the keywords' values -/
abbrev ASx := List Val → List Val → Mem → (Val → Mem → Prop) → Prop
def spA (K : PySem.W.Frag) (s : ASp) : Sp := fun vs H Q _ => ∃ Hi M ds P, RepA K Hi ds vs ∧ Ok K Hi M H ∧ s ds M P ∧ Post K Hi P Q
def spX (K : PySem.W.Frag) (s : ASx) (vs zs : List V) (H : Hp) (Q : VK) : Prop := ∃ Hi M ds es P, RepA K Hi ds vs ∧ RepA K Hi es zs ∧ Ok K Hi M H ∧ s ds es M P ∧ Post K Hi P Q
/-- the end of a def: cells of its own are forgotten, or will change no more -/
inductive Ret (P : Val → Mem → Prop) : Val → Mem → Prop
  | ok {d : Val} {M : Mem} : P d M → Ret P d M
  | drop {d : Val} {M : Mem} {c : Addr × Cell} : Ret P d M → Ret P d (c :: M)
  | frz {p : Addr} {xs : List Val} {M : Mem} : Ret P (.lst xs) M → Ret P (.ptr p) ((p, .lst xs) :: M)
  | obj {p C : Addr} {fs : List (Str × Val)} {M : Mem} : Ret P (.obj C fs) M → Ret P (.ptr p) ((p, .ins C fs) :: M)
  | tr {d : Val} {M M' : Mem} : (∀ K Hi H, Ok K Hi M H → Ok K Hi M' H) → Ret P d M' → Ret P d M
theorem Ret.post {K : PySem.W.Frag} {P : Val → Mem → Prop} {Q : VK} {d : Val} {M : Mem} (h : Ret P d M) : ∀ {Hi Hi' H' : Hp} {v : V}, Post K Hi P Q → Same Hi Hi' → Ok K Hi' M H' → Rep K Hi' d v → Q v H' := by
  induction h with
  | ok hp => exact fun q s ok r => q _ _ _ _ _ hp s ok r
  | drop _ ih => exact fun q s ok r => ih q s (Ok.tail ok) r
  | tr t _ ih => exact fun q s ok r => ih q s (t _ _ _ ok) r
  | frz _ ih =>
    intro Hi Hi' H' v q s ok r
    obtain ⟨e0, o, ho, vs, rfl, ra⟩ := ok.ce _ _ List.mem_cons_self
    cases r
    have s2 := same_upd (o := .lst vs) e0
    exact ih q (s.trans s2) (ok.freeze ho) (.lst (SqL.of upd_same) (ra.mono s2))
  | @obj p C fs M _ ih =>
    intro Hi Hi' H' v q s ok r
    obtain ⟨e0, o, ho, dx, gs, rfl, ra⟩ := ok.ce _ _ List.mem_cons_self
    cases r
    have s2 := same_upd (o := .ins C dx gs) e0
    exact ih q (s.trans s2) (ok.freeze ho) (.obj upd_same (ra.mono s2))
/-- the slots at a def's entry -/
def gam (N : List Str) (ds : List Val) : Gam := ds.map some ++ List.replicate (N.length - ds.length) none
theorem env_start {K : PySem.W.Frag} {H : Hp} {N : List Str} {ds : List Val} {vs : List V} (r : RepA K H ds vs) : EnvR K H (gam N ds) (L2.start N vs) := by
  refine ⟨by simp [gam, L2.start, r.length], fun i d h => ?_⟩
  unfold gam at h
  unfold L2.start
  by_cases hi : i < ds.length
  · rw [List.getElem?_append_left (by simpa using hi), List.getElem?_map] at h
    obtain ⟨d', h1, h2⟩ := Option.map_eq_some_iff.mp h
    cases h2
    obtain ⟨v, h3, h4⟩ := r.get h1
    refine ⟨v, ?_, h4⟩
    rw [List.getElem?_append_left (by rw [List.length_map, ← r.length]; exact hi), List.getElem?_map, h3]
    rfl
  · rw [List.getElem?_append_right (by simpa using Nat.le_of_not_lt hi)] at h
    have := List.mem_of_getElem? h
    rw [List.mem_replicate] at this
    cases this.2
abbrev kOf (P : Val → Mem → Prop) : AK := { nx := fun _ M => Ret P .non M, rt := Ret P }
/-- the context of a def's body -/
abbrev bcx (P : Program) (w : World) (K : PySem.W.Frag) (mg : Str → Option Value) (base : Heap) (N : List Str) (qual : Str) (sc : Scope) (f : Addr) (cdv : Value) (A : Around) (outer : List Env) (s : Shared) (H : Hp) (E : XK) : Cx := (cxOf CX0 P w K mg base N qual sc f cdv A outer s H E).nox
/-- room for k calls, nothing guarded -/
structure Rm (k : Nat) (A : Around) : Prop where
  room : Room k A
  gd : A.guards = some []
theorem Rm.mono {j k : Nat} {A : Around} (r : Rm k A) (h : j ≤ k) : Rm j A := ⟨r.room.mono h, r.gd⟩
theorem Rm.deeper {k : Nat} {A : Around} (r : Rm (k + 1) A) (env : Env) : Rm k (A.deeper env) := ⟨r.room.deeper env, r.gd⟩
theorem Rm.in1 {k : Nat} {A : Around} (r : Rm (k + 1) A) : Rm k A.in1 := ⟨r.room.in1, r.gd⟩
theorem Rm.make {k : Nat} {A : Around} (r : Rm (k + 1) A) (C : Addr) (us : List Value) (kw : List (Str × Value)) : Rm k (A.under (.builtin "type.__call__" ⟨.ref C :: us, kw⟩)) := ⟨r.room.make C us kw, by
  show pushGuards (Code.builtin "type.__call__" ⟨.ref C :: us, kw⟩).guards A.guards = some []
  rw [r.gd]
  first | rfl | simp [Code.guards, pushGuards]⟩
theorem Rm.u1 {k : Nat} {A : Around} (r : Rm k A) : A.units + 1 < cLine := hu_of r.room
theorem Rm.u64 {k : Nat} {A : Around} (r : Rm k A) : A.units + 64 < cLine := Nat.lt_of_le_of_lt (by omega) r.room.un
section
variable {P : Program} {w : World} {K : PySem.W.Frag} {mg : Str → Option Value} {base : Heap}
theorem body_of {N : List Str} {qual : Str} {sc : Scope} {f : Addr} {cdv : Value} {A : Around} {outer : List Env} {s : Shared} {H : Hp} {E : XK} {body : List Stmt} {s0 : ASp} {vs : List V} {Q : VK}
    (hb : ∀ ds M R, s0 ds M R → aSs (bcx P w K mg base N qual sc f cdv A outer s H E) body (gam N ds) M (kOf R)) (h : spA K s0 vs H Q E) :
    ∃ t, PSs (bcx P w K mg base N qual sc f cdv A outer s H E) body t ∧ t { nx := fun _ H' => Q .non H', rt := Q } (L2.start N vs) H := by
  obtain ⟨Hi, M, ds, R, r, ok, hs, q⟩ := h
  refine hb ds M R hs Hi H _ ok (env_start r) _ ⟨fun Γ M' σ Hi' H' h1 s1 ok1 _ => h1.post q s1 ok1 .non, fun d M' v Hi' H' h1 s1 ok1 r1 => h1.post q s1 ok1 r1, fun _ _ _ _ _ z => z.elim, fun _ _ _ _ _ z => z.elim⟩
/-- a def by its call: ks the keywords of the call -/
structure FnX (P : Program) (w : World) (K : PySem.W.Frag) (mg : Str → Option Value) (base : Heap) (k : Nat) (f : Addr) (ks : List Str) (sp : List V → List V → Hp → VK → Prop) : Prop where
  run : ∀ (A : Around) (outer : List Env) (s : Shared) (H : Hp) (us ws : List Value) (vs zs : List V) (Q : VK), Rm k A → Env0 P w K mg base A outer s H → Vals vs us → Vals zs ws → zs.length = ks.length → sp vs zs H Q →
    codeAny (model P w) A (.call (.ref f) ⟨us, ks.zip ws⟩) (CR CX0 outer P w H s Q E0) s
theorem FnX.mono {j k : Nat} {f : Addr} {ks : List Str} {sp : List V → List V → Hp → VK → Prop} (F : FnX P w K mg base j f ks sp) (h : j ≤ k) : FnX P w K mg base k f ks sp := ⟨fun A outer s H us ws vs zs Q hr => F.run A outer s H us ws vs zs Q (hr.mono h)⟩
/-- what a def's body must do, in every context in which it may be called -/
abbrev BodyOk (P : Program) (w : World) (K : PySem.W.Frag) (mg : Str → Option Value) (base : Heap) (k : Nat) (f : Addr) (N : List Str) (qual : Str) (sc : Scope) (body : List Stmt) (s0 : ASp) : Prop :=
  ∀ cdv A outer s H E, Rm k (A.deeper (envOfC qual sc s.heap.objs.size f cdv)) → ∀ ds M R, s0 ds M R → aSs (bcx P w K mg base N qual sc f cdv A outer s H E) body (gam N ds) M (kOf R)
theorem fnx_kbn {x qual : Str} {params : Arguments} {body : List Stmt} {sc : Scope} {dvs : List V} {kws : List (Str × V)} {f : Addr} {fd : FuncData} {N ps ks : List Str} {k n : Nat} {s0 : ASp} {g : List Value → List Value → List Value} {gV : List V → List V → List V} (gA : List Val → List Val → List Val)
    (F : FunD K x qual params body sc dvs kws f fd) (S : FnScope N ps sc) (b : KBn K fd ps n ks g gV)
    (hrel : ∀ H ds vs es zs, RepA K H ds vs → RepA K H es zs → ds.length = n → es.length = ks.length → RepA K H (gA ds es) (gV vs zs)) (len : ∀ ds M R, s0 ds M R → ds.length = ps.length)
    (hb : BodyOk P w K mg base k f N qual sc body s0) : FnX P w K mg base (k + 1) f ks (spX K fun ds es M R => ds.length = n ∧ s0 (gA ds es) M R) := by
  refine ⟨fun A outer s H us ws vs zs Q hr e0 r rz hz ⟨Hi, M, ds, es, R, ra, re, ok, ⟨hn, hs⟩, q⟩ => ?_⟩
  obtain ⟨oc, od, dV, kV, doc, pm, an, cdv, ct, osl, rfl, lk, hcd, _, _⟩ := F.ex
  have KX : K.In s.heap := e0.mod.kin.keeps fun b o e => (e0.bs b o e).1
  have hbt := b.to s us ws KX (by rw [← r.length, ← ra.length]; exact hn) (by rw [← rz.length]; exact hz)
  have rg := hrel Hi ds vs es zs ra re hn (re.length.trans hz)
  have hl : (gV vs zs).length = ps.length := rg.length.symm.trans (len _ _ _ hs)
  refine StX.run_bnd (CX := CX0) (E := E0) (G := fun vs' H2 => vs' = gV vs zs ∧ H2 = H) lk hcd S hr.room e0 (fun A' Ex Q' h => ?_) fun s2 H2 vs' hG hr' => ?_
  · exact hbt _ _ _ _ (h s H (gV vs zs) (g us ws) e0 Un.refl rfl (fun _ _ z => z) (b.rel r rz) hl ⟨rfl, rfl⟩)
  · obtain ⟨rfl, rfl⟩ := hG
    obtain ⟨t, p, z⟩ := body_of (hb cdv A outer s2 H2 E0 (hr.deeper _)) (Q := Q) (vs := gV vs zs) ⟨Hi, M, gA ds es, R, rg, ok, hs, q⟩
    exact ⟨t, p.nox, z⟩
theorem fun_d {x qual : Str} {st : Stmt} {f : Addr} {fd : FuncData} (F : Fun K x qual st f fd) : FunD K x qual (defArgs st) (defBody st) (defScope st) [] [] f fd := by
  obtain ⟨⟨oc, od, kV, doc, pm, an, cdv, ct, osl, rfl, lk, hcd⟩, kp⟩ := F
  exact ⟨⟨oc, od, .none, kV, doc, pm, an, cdv, ct, osl, rfl, lk, hcd, .inl ⟨rfl, rfl⟩, .inl rfl⟩, kp⟩
end
/-! ### calls -/
section
variable {X : Cx} {Γ : Gam} {M : Mem} {P : Val → Mem → Prop} {e a b c o : Expr} {es : List Expr} {kws : List Keyword} {pos p1 p2 apos kpos : Pos} {k : AK} {d d1 d2 d3 : Val} {i j : Int} {x y m : Str} {n : Nat} {f C : Addr} {ks : List Str} {sx : ASx} {nm : Option Str}
theorem run_x {pins : List (Addr × Obj)} {σ : L2.St} {H : Hp} {s : Shared} {Q : VK} {us ws : List Value} {vs zs : List V} {sp : List V → List V → Hp → VK → Prop} (F : FnX X.prog X.w X.K X.mg X.base n f ks sp) (hr : Rm n X.A)
    (I : Inv X pins σ H s) (r : Vals vs us) (rz : Vals zs ws) (l2 : zs.length = ks.length) (h : sp vs zs H Q) : wpAny (model X.prog X.w) X.A (call (.ref f) us (ks.zip ws)) (EP X pins σ Q) X.xe s := by
  refine wpAny_call (codeAny_mono (F.run X.A X.stack s H us ws vs zs Q hr I.env0 r rz l2 h) fun r s' hq => ?_)
  cases r with
  | error e => exact False.elim hq
  | ok fl =>
    cases fl with
    | ret u => exact I.after hq
    | next => exact False.elim hq
    | brk => exact False.elim hq
    | cont => exact False.elim hq
def aKw (X : Cx) (kws : List Keyword) (Γ : Gam) (M : Mem) (P : List Val → Mem → Prop) : Prop := ∀ Hi H σ, Ok X.K Hi M H → EnvR X.K Hi Γ σ → ∀ Q, PostA X.K Hi P Q → ∃ t, PK X kws t ∧ t σ H Q
def WK (X : Cx) (kws : List Keyword) : TA := fun σ H Q => ∃ t, PK X kws t ∧ t σ H Q
theorem pk_wk : PK X kws (WK X kws) := ⟨fun pos pins s σ H Q I ⟨t, p, h⟩ => p.run pos pins s σ H Q I h⟩
theorem ak_nil {P : List Val → Mem → Prop} (h : P [] M) : aKw X [] Γ M P := fun Hi H σ ok en Q q => ⟨_, pk_nil, q _ _ _ Hi H h (Same.refl _) ok .nil⟩
theorem ak_cons {P : List Val → Mem → Prop} (h : aE X e Γ M fun x M1 => aKw X kws Γ M1 fun xs M2 => P (x :: xs) M2) : aKw X (⟨nm, e, kpos⟩ :: kws) Γ M P := fun Hi H σ ok en Q q => by
  refine ⟨_, pk_cons pe_we pk_wk, ?_⟩
  refine h Hi H σ ok en _ fun x M1 v Hi1 H1 h1 s1 ok1 r1 => ?_
  exact h1 Hi1 H1 σ ok1 (en.mono s1) _ fun xs M2 vs Hi2 H2 h2 s2 ok2 r2 => q _ _ _ Hi2 H2 h2 (s1.trans s2) ok2 (.cons (r1.mono s2) r2)
/-- f(e, .., k = v, ..) -/
theorem ae_call (F : FnX X.prog X.w X.K X.mg X.base n f ks (spX X.K sx)) (hr : Rm n X.A) (hm : X.mg x = some (.ref f)) (hk : PySem.W.keepIn X.K (.ref f) = true) (h : aA X (e :: es) Γ M fun ds M1 => aKw X kws Γ M1 fun zs M2 => zs.length = ks.length ∧ sx ds zs M2 P)
    (hg : Gl X x := by rfl) (hall : (backToKw pos (keywordEach kws X.env)).all (·.1.isSome) = true := by rfl) (hks : (backToKw pos (keywordEach kws X.env)).filterMap (·.1) = ks := by rfl) (hdb : (x == ("__debug__" : Str)) = false := by decide)
    (he : starEach (e :: es) X.env = (false, eval e X.env) :: starEach es X.env := by rfl) (hpl : ((backTo pos (starEach (e :: es) X.env)).any (·.1) || (backToKw pos (keywordEach kws X.env)).any (·.1.isNone)) = false := by rfl) : aE X (.Call (.Name x p1) (e :: es) kws pos) Γ M P := fun Hi H σ ok en Q q => by
  refine ⟨fun σ H Q => WA X (e :: es) σ H fun vs H1 => WK X kws σ H1 fun zs H2 => zs.length = ks.length ∧ spX X.K sx vs zs H2 Q, ⟨fun pins s σ H Q I h => ?_⟩, ?_⟩
  · refine wpAny_Call_Name_kw (ld_glob I hg hm ?_ hdb)
    refine PySem.W.callWith_KW (h₀ := X.base) I.ok.mod.kin hk hall (thn (pa_wa.run pos pins s σ H _ I h) fun us s1 ⟨vs, H1, I1, r, q⟩ => ?_) hpl he
    refine thn (pk_wk.run pos pins s1 σ H1 _ I1 q) fun ws s2 ⟨zs, H2, I2, rz, l2, q2⟩ => ⟨I2.kIn, ?_⟩
    rw [hks]
    exact run_x F hr I2 r rz l2 q2
  · refine h Hi H σ ok en _ fun ds M1 vs Hi1 H1 h1 s1 ok1 r1 => ?_
    refine h1 Hi1 H1 σ ok1 (en.mono s1) _ fun zs M2 ws Hi2 H2 h2 s2 ok2 r2 => ?_
    exact ⟨r2.length.symm.trans h2.1, Hi2, M2, ds, zs, P, r1.mono s2, r2, ok2, h2.2, q.up (s1.trans s2)⟩
/-- o.m(e, .., k = v, ..) -/
theorem ae_meth {pl : Sem Bool} {fs : List (Str × Val)} (c : Cls X.K C) (hm : Meth X.K C m f) (F : FnX X.prog X.w X.K X.mg X.base n f ks (spX X.K sx)) (hr : Rm n X.A) (ho : aV X o Γ M d) (hob : Ob M C d fs) (hl : fs.lookup m = none)
    (h : aA X (e :: es) Γ M fun ds M1 => aKw X kws Γ M1 fun zs M2 => zs.length = ks.length ∧ sx (d :: ds) zs M2 P)
    (hall : (backToKw pos (keywordEach kws X.env)).all (·.1.isSome) = true := by rfl) (hks : (backToKw pos (keywordEach kws X.env)).filterMap (·.1) = ks := by rfl)
    (he : starEach (e :: es) X.env = (false, eval e X.env) :: starEach es X.env := by rfl) (hpl : ((backTo pos (starEach (e :: es) X.env)).any (·.1) || (backToKw pos (keywordEach kws X.env)).any (·.1.isNone)) = false := by rfl)
    (ht : eval (.Call (.Attribute o m apos) (e :: es) kws pos) X.env = (do
      let ov ← eval o X.env
      standAt apos.atName
      let (f, first) ← holding [ov] (getMethod ov m pl)
      callWith pos f first (backTo pos (starEach (e :: es) X.env)) (backToKw pos (keywordEach kws X.env))) := by rfl) : aE X (.Call (.Attribute o m apos) (e :: es) kws pos) Γ M P := fun Hi H σ ok en Q q => by
  refine ⟨fun σ H Q => WE X o σ H fun x H0 => ∃ a dx fs, x = .ref a ∧ H0 a = some (.ins C dx fs) ∧ fs.lookup m = none ∧ WA X (e :: es) σ H0 fun vs H1 => WK X kws σ H1 fun zs H2 => zs.length = ks.length ∧ spX X.K sx (x :: vs) zs H2 Q, ⟨fun pins s σ H Q I h => ?_⟩, ?_⟩
  · refine PySem.W.methodCall_KW (pl := pl) (thn (pe_we.run pins s σ H _ I h) fun u s1 ⟨x, H1, I1, rx, a, dx, fs, ex, ea, l, q⟩ => ?_) ht
    subst ex
    obtain rfl : u = Value.ref a := rx
    refine getmeth_ok I1 ea c hm l ?_
    refine PySem.W.callWith_KW (first := [.ref a]) (h₀ := X.base) I.ok.mod.kin hm.kp hall (thn (pa_wa.run pos pins s1 σ H1 _ I1 q) fun us s2 ⟨vs, H2, I2, r, q2⟩ => ?_) hpl he
    refine thn (pk_wk.run pos pins s2 σ H2 _ I2 q2) fun ws s3 ⟨zs, H3, I3, rz, l2, q3⟩ => ⟨I3.kIn, ?_⟩
    rw [hks]
    exact run_x (us := .ref a :: us) (vs := .ref a :: vs) F hr I3 (.cons rfl r) rz l2 q3
  · refine ho Hi H σ ok en _ fun x M0 v0 Hi0 H0 h0 s0 ok0 r0 => ?_
    obtain ⟨rfl, rfl⟩ := h0
    obtain ⟨p, dx, gs, rfl, hp, rf⟩ := hob.rep ok0 r0
    refine ⟨p, dx, gs, rfl, hp, rf.none hl, ?_⟩
    refine h Hi0 H0 σ ok0 (en.mono s0) _ fun ds M1 vs Hi1 H1 h1 s1 ok1 r1 => ?_
    refine h1 Hi1 H1 σ ok1 (en.mono (s0.trans s1)) _ fun zs M2 ws Hi2 H2 h2 s2 ok2 r2 => ?_
    exact ⟨r2.length.symm.trans h2.1, Hi2, M2, _ :: ds, zs, P, .cons (r0.mono (s1.trans s2)) (r1.mono s2), r2, ok2, h2.2, q.up ((s0.trans s1).trans s2)⟩
theorem ae_meth0 {pl : Sem Bool} {fs : List (Str × Val)} (c : Cls X.K C) (hm : Meth X.K C m f) (F : FnX X.prog X.w X.K X.mg X.base n f ks (spX X.K sx)) (hr : Rm n X.A) (ho : aV X o Γ M d) (hob : Ob M C d fs) (hl : fs.lookup m = none)
    (h : aKw X kws Γ M fun zs M2 => zs.length = ks.length ∧ sx [d] zs M2 P)
    (hall : (backToKw pos (keywordEach kws X.env)).all (·.1.isSome) = true := by rfl) (hks : (backToKw pos (keywordEach kws X.env)).filterMap (·.1) = ks := by rfl)
    (hpl : ((backTo pos (starEach [] X.env)).any (·.1) || (backToKw pos (keywordEach kws X.env)).any (·.1.isNone)) = false := by rfl)
    (ht : eval (.Call (.Attribute o m apos) [] kws pos) X.env = (do
      let ov ← eval o X.env
      standAt apos.atName
      let (f, first) ← holding [ov] (getMethod ov m pl)
      callWith pos f first (backTo pos (starEach [] X.env)) (backToKw pos (keywordEach kws X.env))) := by rfl) : aE X (.Call (.Attribute o m apos) [] kws pos) Γ M P := fun Hi H σ ok en Q q => by
  refine ⟨fun σ H Q => WE X o σ H fun x H0 => ∃ a dx fs, x = .ref a ∧ H0 a = some (.ins C dx fs) ∧ fs.lookup m = none ∧ WK X kws σ H0 fun zs H2 => zs.length = ks.length ∧ spX X.K sx [x] zs H2 Q, ⟨fun pins s σ H Q I h => ?_⟩, ?_⟩
  · refine PySem.W.methodCall_KW (pl := pl) (thn (pe_we.run pins s σ H _ I h) fun u s1 ⟨x, H1, I1, rx, a, dx, fs, ex, ea, l, q⟩ => ?_) ht
    subst ex
    obtain rfl : u = Value.ref a := rx
    refine getmeth_ok I1 ea c hm l ?_
    refine PySem.W.callWith_KW0 (first := [.ref a]) (h₀ := X.base) I.ok.mod.kin hm.kp hall ?_ hpl
    refine thn (pk_wk.run pos pins s1 σ H1 _ I1 q) fun ws s3 ⟨zs, H3, I3, rz, l2, q3⟩ => ⟨I3.kIn, ?_⟩
    rw [hks]
    exact run_x (us := [.ref a]) (vs := [.ref a]) F hr I3 (.cons rfl .nil) rz l2 q3
  · refine ho Hi H σ ok en _ fun x M0 v0 Hi0 H0 h0 s0 ok0 r0 => ?_
    obtain ⟨rfl, rfl⟩ := h0
    obtain ⟨p, dx, gs, rfl, hp, rf⟩ := hob.rep ok0 r0
    refine ⟨p, dx, gs, rfl, hp, rf.none hl, ?_⟩
    refine h Hi0 H0 σ ok0 (en.mono s0) _ fun zs M2 ws Hi2 H2 h2 s2 ok2 r2 => ?_
    exact ⟨r2.length.symm.trans h2.1, Hi2, M2, [_], zs, P, .cons (r0.mono s2) .nil, r2, ok2, h2.2, q.up (s0.trans s2)⟩
/-- C(e, .., k = v, ..) -/
theorem run_mk {pins : List (Addr × Obj)} {σ : L2.St} {H : Hp} {s : Shared} {Q : VK} {us ws : List Value} {vs zs : List V} {sp : List V → List V → Hp → VK → Prop} (Mk_ : Mk X.K C f) (F : FnX X.prog X.w X.K X.mg X.base n f ks sp) (hr : Rm (n + 1) X.A)
    (I : Inv X pins σ H s) (r : Vals vs us) (rz : Vals zs ws) (l2 : zs.length = ks.length)
    (h : ∀ x dx, H x = none → H dx = none → dx ≠ x → sp (.ref x :: vs) zs (upd (upd H dx (.own x)) x (.ins C dx [])) (fun v H2 => v = .non ∧ Q (.ref x) H2)) :
    wpAny (model X.prog X.w) X.A (call (.ref C) us (ks.zip ws)) (EP X pins σ Q) X.xe s := by
  have hq := h (s.heap.objs.size + 1) s.heap.objs.size (I.hok.fresh (Nat.le_succ _)) (I.hok.fresh (Nat.le_refl _)) (Nat.ne_of_lt (Nat.lt_succ_self _))
  have I2 := Inv.made (C := C) I
  have r1 : Vals (V.ref (s.heap.objs.size + 1) :: vs) (Value.ref (s.heap.objs.size + 1) :: us) := .cons rfl r
  refine wpAny_call (make_map (f := f) I.kIn Mk_.makes Mk_.init (beq_iff_eq.mp Mk_.fn) (codeAny_mono (F.run _ X.stack _ _ (Value.ref (s.heap.objs.size + 1) :: us) ws _ zs _ (hr.make C us (ks.zip ws))
    (I2.env0.make C us (ks.zip ws)) r1 rz l2 hq) fun r s' hq' => ?_))
  cases r with
  | error e => exact False.elim hq'
  | ok fl =>
    cases fl with
    | ret u =>
      obtain ⟨v, H', I3, rv, ev, q3⟩ := I2.after hq'
      subst ev
      exact ⟨rv, ⟨V.ref (s.heap.objs.size + 1), H', I3, rfl, q3⟩⟩
    | next => exact False.elim hq'
    | brk => exact False.elim hq'
    | cont => exact False.elim hq'
theorem ae_make (Mk_ : Mk X.K C f) (F : FnX X.prog X.w X.K X.mg X.base n f ks (spX X.K sx)) (hr : Rm (n + 1) X.A) (hm : X.mg x = some (.ref C))
    (h : aA X (e :: es) Γ M fun ds M1 => aKw X kws Γ M1 fun zs M2 => zs.length = ks.length ∧ ∀ p, p ∉ M2.map (·.1) → sx (.ptr p :: ds) zs ((p, .ins C []) :: M2) (fun v M3 => v = .non ∧ P (.ptr p) M3))
    (hg : Gl X x := by rfl) (hall : (backToKw pos (keywordEach kws X.env)).all (·.1.isSome) = true := by rfl) (hks : (backToKw pos (keywordEach kws X.env)).filterMap (·.1) = ks := by rfl) (hdb : (x == ("__debug__" : Str)) = false := by decide)
    (he : starEach (e :: es) X.env = (false, eval e X.env) :: starEach es X.env := by rfl) (hpl : ((backTo pos (starEach (e :: es) X.env)).any (·.1) || (backToKw pos (keywordEach kws X.env)).any (·.1.isNone)) = false := by rfl) : aE X (.Call (.Name x p1) (e :: es) kws pos) Γ M P := fun Hi H σ ok en Q q => by
  refine ⟨fun σ H Q => WA X (e :: es) σ H fun vs H1 => WK X kws σ H1 fun zs H2 => zs.length = ks.length ∧ ∀ x dx, H2 x = none → H2 dx = none → dx ≠ x → spX X.K sx (.ref x :: vs) zs (upd (upd H2 dx (.own x)) x (.ins C dx [])) (fun v H3 => v = .non ∧ Q (.ref x) H3), ⟨fun pins s σ H Q I h => ?_⟩, ?_⟩
  · refine wpAny_Call_Name_kw (ld_glob I hg hm ?_ hdb)
    refine PySem.W.callWith_KW (h₀ := X.base) I.ok.mod.kin Mk_.kp hall (thn (pa_wa.run pos pins s σ H _ I h) fun us s1 ⟨vs, H1, I1, r, q⟩ => ?_) hpl he
    refine thn (pk_wk.run pos pins s1 σ H1 _ I1 q) fun ws s2 ⟨zs, H2, I2, rz, l2, q2⟩ => ⟨I2.kIn, ?_⟩
    rw [hks]
    exact run_mk Mk_ F hr I2 r rz l2 q2
  · refine h Hi H σ ok en _ fun ds M1 vs Hi1 H1 h1 s1 ok1 r1 => ?_
    refine h1 Hi1 H1 σ ok1 (en.mono s1) _ fun zs M2 ws Hi2 H2 h2 s2 ok2 r2 => ?_
    refine ⟨r2.length.symm.trans h2.1, fun x dx hx hdx hne => ?_⟩
    have s3 := same_upd (o := .own x) (ok2.none hdx)
    have ok3 : Ok X.K (upd Hi2 dx (.own x)) M2 (upd H2 dx (.own x)) := ok2.imm hdx
    have hx3 : upd H2 dx (.own x) x = none := by rw [upd_ne hne.symm]; exact hx
    refine ⟨_, (x, .ins C []) :: M2, .ptr x :: ds, zs, _, .cons (.ptr x) (r1.mono (s2.trans s3)), r2.mono s3, ok3.new hx3 ⟨dx, [], rfl, .nil⟩, h2.2 x (ok2.fresh hx), ?_⟩
    rintro d M4 v Hi4 H4 ⟨rfl, hp⟩ s4 ok4 r4
    cases r4
    exact ⟨rfl, q _ _ _ Hi4 H4 hp (((s1.trans s2).trans s3).trans s4) ok4 (.ptr x)⟩
end
end Ab
namespace Ab
open PySem PySem.Spec PyProof.Rows L2
open AutoSeq1 (wpAny_loadPart')
/-! enumerate(tuple) -/
theorem enum_newT (l : Addr) (items : Array Value) (n : Nat) (dct : Option Addr) (sl : Array (Option Value)) :
    Meets (Builtin.«enumerate.__new__» ⟨[.type "enumerate", .ref l], []⟩) (fun _ R s => s.heap.get? l = some { cls := .type "tuple", dict := dct, data := .seq items n, slots := sl } ∧
      R (.ok (.ret (.ref (s.heap.push { cls := .type "tuple_iterator", data := .fields #[.ref l, .int 0 0] }).objs.size)))
        { s with heap := (s.heap.push { cls := .type "tuple_iterator", data := .fields #[.ref l, .int 0 0] }).push { cls := .type "enumerate", data := .fields #[.none, .bool false, .ref s.heap.objs.size, rawInt 0, .none, .none] } }) :=
  .of_wp fun prog w A R s h => by
    obtain ⟨hp, g, d, tk, os⟩ := s
    obtain ⟨hl, h⟩ := h
    have hsub := sub_enumerate
    have hT : Heap.IsTuple (Shared.heap ⟨hp, g, d, tk, os⟩) l items := ⟨_, hl, rfl, n, rfl⟩
    wp_walk using wpAny_loadPart' hl
    refine wpAny_stack_any fun st => wpAny_pure ?_
    split
    · rename_i c _ _ _ _ _
      cases (c == Value.type "enumerate") <;> (wp_walk using wpAny_loadPart' hl, wpAny_pyIter_tuple hT; exact ⟨_, rfl, h⟩)
    · wp_walk using wpAny_loadPart' hl, wpAny_pyIter_tuple hT
      exact ⟨_, rfl, h⟩
section
variable {prog : Program} {w : World} {A : Around} {E : Value → Shared → Prop} {s : Shared}
theorem call_enumT {l : Addr} {items : Array Value} {Q : Value → Shared → Prop} (hL : s.heap.IsTuple l items)
    (h : ∀ h', IsEnum h' (s.heap.objs.size + 1) s.heap.objs.size 0 .none → h'.IsTupleIter s.heap.objs.size l 0 →
      (∀ b o, s.heap.get? b = some o → h'.get? b = some o) → Q (.ref (s.heap.objs.size + 1)) { s with heap := h' }) :
    wpAny (model prog w) A (call (.type "enumerate") [.ref l]) Q E s := by
  obtain ⟨⟨c, dct, dt, sl⟩, hl, hc, n, hd⟩ := hL
  obtain rfl : c = .type "tuple" := hc
  obtain rfl : dt = .seq items n := hd
  refine callType_new F.called_enumerate (by decide) (F.typeCall_enumerate_1 _) (F.newCall_enumerate_1 _) (fun obj => F.args_object_init_2 obj _) F.entry_enumerate_new (enum_newT l items n dct sl) ⟨hl, ?_⟩
  have hz : (s.heap.push { cls := .type "tuple_iterator", data := .fields #[.ref l, .int 0 0] }).objs.size = s.heap.objs.size + 1 := Heap.size_push ..
  show _ ∧ _
  rw [hz]
  have he : IsEnum ((s.heap.push { cls := .type "tuple_iterator", data := .fields #[.ref l, .int 0 0] }).push
      { cls := .type "enumerate", data := .fields #[.none, .bool false, .ref s.heap.objs.size, rawInt 0, .none, .none] }) (s.heap.objs.size + 1) s.heap.objs.size 0 .none := by
    have q := Heap.get?_push_size (s.heap.push { cls := .type "tuple_iterator", data := .fields #[.ref l, .int 0 0] })
      (o := { cls := .type "enumerate", data := .fields #[.none, .bool false, .ref s.heap.objs.size, rawInt 0, .none, .none] }) rfl
    rw [hz] at q
    exact q
  exact ⟨⟨_, he, rfl⟩, h _ he ⟨_, Heap.get?_push_of_some _ (Heap.get?_push_size _ rfl), rfl, rfl⟩ fun b o x => Heap.get?_push_of_some _ (Heap.get?_push_of_some _ x)⟩
end
/-- the tuple at a, each item in a new pair -/
def IteT (K : PySem.W.Frag) (a : Addr) : It where
  go := fun i H => ∃ (xs : List V) (x : V), SqT K H a xs ∧ xs[i]? = some x
  yld := fun i H v H' => ∃ T x, v = .ref T ∧ H T = none ∧ H' = upd H T (.tup [.int (i : Nat), x]) ∧ ∀ xs, SqT K H a xs → xs[i]? = some x
  stop := fun i H => ∃ xs : List V, SqT K H a xs ∧ xs.length = i
theorem turn_enumT {P : Program} {w : World} {K : PySem.W.Frag} {elts : List Expr} {kk : Nat} {tpos : Pos} (a e it : Addr) :
    Turn P w K (.Tuple elts kk tpos) (IteT K a) [e, it] e (fun i h => (∃ old, IsEnum h e it ((i : Nat) : Int) old) ∧ h.IsTupleIter it a i ∧ e ≠ it) where
  mem := by simp
  obj := fun i h st b hb => by
    obtain ⟨⟨old, he⟩, ⟨o, ho, hc, hd⟩, _⟩ := st
    have e' : b = e ∨ b = it := by simpa using hb
    rcases e' with z | z
    · rw [z]; exact ⟨_, he, fun v q => nomatch q⟩
    · rw [z]; exact ⟨o, ho, fun v q => by rw [hd] at q; cases q⟩
  keep := fun i h h' st k => let ⟨⟨old, he⟩, hi, hne⟩ := st; ⟨⟨old, k e (by simp) _ he⟩, hi.at fun o q => k it (by simp) o q, hne⟩
  item := by
    intro X hP hw hK hc i pins s σ H E I hf st hg
    subst hP hw hK
    obtain ⟨⟨old, he⟩, hit, hne⟩ := st
    obtain ⟨xs, x, hq, hx⟩ := hg
    obtain ⟨its, rv, p, hz⟩ := I.tuple hq
    have hl := rv.length
    have hlt : i < its.toArray.size := by
      have := (List.getElem?_eq_some_iff.mp hx).1
      simp
      omega
    have hel : e < s.heap.objs.size := Heap.lt_size he
    have hil : it < s.heap.objs.size := by obtain ⟨_, q, _⟩ := hit; exact Heap.lt_size q
    have hta : a ≠ it := fun z => by
      subst z
      obtain ⟨o1, h1, h2, _⟩ := p
      obtain ⟨o2, h3, h4, _⟩ := hit
      rw [h1] at h3
      cases h3
      rw [h2] at h4
      exact absurd h4 (by decide)
    have hte : e ≠ a := fun z => by
      subst z
      obtain ⟨o1, h1, h2, _⟩ := p
      rw [he] at h1
      cases h1
      exact absurd (show Value.type "enumerate" = Value.type "tuple" from h2) (by decide)
    refine wpAny_pyNext_enum_itemC (c := (i : Int)) (Draws.tuple (show X.A.in1.handled = none from I.ok.hd hc) it a hta its.toArray) he ⟨hit, p⟩ hlt hne (by simp [hne, hte]) fun u h' tk hu ho hst' hT hsz hk => ?_
    have ru : RelV x u := by
      obtain ⟨u', hu', ru'⟩ := rv.get hx
      have : its.toArray[i]? = some u' := by simpa using hu'
      rw [this] at hu
      cases hu
      exact ru'
    refine ⟨_, rfl, wpAny_letOwnedTupleGo_enum (s := { s with heap := h', toks := tk + 1 }) ho fun h'' he' sb => ?_⟩
    have hT2 : h''.get? s.heap.objs.size = some { cls := .type "tuple", data := .seq #[.int i tk, u] } := (sb.2 _ (Nat.ne_of_gt hel)).trans hT
    have new : ObjOk X.prog X.w (upd H s.heap.objs.size (.tup [.int (i : Nat), x])) h'' s.heap.objs.size (.tup [.int (i : Nat), x]) :=
      ⟨by show 2 ≤ sizeLine; decide, [.int i tk, u], .cons ⟨_, rfl⟩ (.cons ru .nil), ⟨_, hT2, rfl, _, rfl⟩⟩
    have I1 : Inv X pins σ (upd H s.heap.objs.size (.tup [.int (i : Nat), x])) { s with heap := h'', toks := tk + 1 } :=
      I.turnedNew (ch := [e, it]) (fun b ob hb q => (sb.2 b (fun z => hb (by simp [z]))).trans (hk b ob (fun z => hb (by simp [z])) (fun z => hb (by simp [z])) q)) hf (Nat.le_refl _) new
    refine ⟨.ref s.heap.objs.size, _, I1, rfl, ⟨_, x, rfl, I.hok.fresh (Nat.le_refl _), rfl, fun ys hy => by rw [I.tuple_inj hy hq]; exact hx⟩, ⟨⟨u, ?_⟩, hst'.1.at fun o q => (sb.2 it (Ne.symm hne)).trans q, hne⟩, fun b hb => ?_⟩
    · rw [show ((i + 1 : Nat) : Int) = (i : Int) + 1 by omega]
      exact he'
    · have hb' : b < s.heap.objs.size := by
        have e' : b = e ∨ b = it := by simpa using hb
        rcases e' with z | z
        · rw [z]; exact hel
        · rw [z]; exact hil
      rw [upd_ne (Nat.ne_of_lt hb')]
      exact (hf b hb).1
  done := by
    intro X hP hw hK hc i pins s σ H E I hf st hg
    subst hP hw hK
    obtain ⟨⟨old, he⟩, hit, hne⟩ := st
    obtain ⟨xs, hq, hx⟩ := hg
    obtain ⟨its, rv, p, hz⟩ := I.tuple hq
    obtain ⟨f0, f1, f2, f3, f4, f5⟩ := hf it (by simp)
    have hl := rv.length
    have hi : its.toArray.size = i := by
      simp
      omega
    have hta : a ≠ it := fun z => by
      subst z
      obtain ⟨o1, h1, h2, _⟩ := p
      obtain ⟨o2, h3, h4, _⟩ := hit
      rw [h1] at h3
      cases h3
      rw [h2] at h4
      exact absurd h4 (by decide)
    refine wpAny_pyNext_enum_endD (Draws.tuple (show X.A.in1.handled = none from I.ok.hd hc) it a hta its.toArray) he (by rw [hi]; exact ⟨hit, p⟩) fun h' eb => ⟨rfl, I.turned (t' := s.toks) (fun b o hb q => eb b o hb q) f0 f1 f3 f4 f5⟩
  self := fun A i s Q E st h => let ⟨⟨_, he⟩, _⟩ := st; wpAny_pyIter_enum he h
def iEnumT (K : PySem.W.Frag) (ta : TA) : TI := fun σ H R => ta σ H fun vs H1 => ∃ a xs, vs = [.ref a] ∧ SqT K H1 a xs ∧ R (IteT K a) H1
theorem pi_enumT {X : Cx} {e : Expr} {ta : TA} {p pos tpos : Pos} {elts : List Expr} {kk : Nat} (hg : Gl X "enumerate") (hm : X.mg "enumerate" = none) (ha : PA X [e] ta) (hs : starEach [e] X.env = [(false, eval e X.env)] := by rfl) :
    PI X (.Tuple elts kk tpos) (.Call (.Name "enumerate" p) [e] [] pos) (iEnumT X.K ta) := by
  refine ⟨fun pins s σ H R I h => Call_ (ld_blt I hg hm boot_enumerate (PyProof.Rows.callWith_type1 (thn (ha.run pos pins s σ H _ I h) fun us s1 ⟨vs, H1, I1, r1, q1⟩ => ?_) hs rfl))⟩
  obtain ⟨a, xs, rfl, hq, q⟩ := q1
  cases r1 with
  | cons r rr =>
    cases rr
    cases r
    obtain ⟨its, rv, p', hz⟩ := I1.tuple hq
    refine call_enumT p' fun h' he hit hk => wpAny_pyIter_enum he ?_
    have I2 : Inv X pins σ H1 { s1 with heap := h' } := I1.kept (t' := s1.toks) hk
    refine ⟨s1.heap.objs.size + 1, [s1.heap.objs.size + 1, s1.heap.objs.size], _, _, H1, rfl, I2, turn_enumT a (s1.heap.objs.size + 1) s1.heap.objs.size, ⟨⟨.none, he⟩, hit, Nat.succ_ne_self _⟩, fun b hb => ?_, q⟩
    have e' : b = s1.heap.objs.size + 1 ∨ b = s1.heap.objs.size := by simpa using hb
    have hle : s1.heap.objs.size ≤ b := by
      rcases e' with z | z
      · exact z ▸ Nat.le_succ _
      · exact z ▸ Nat.le_refl _
    exact I1.fpOk hle (I1.hok.fresh hle)
theorem walk_enumT {K : PySem.W.Frag} {a : Addr} {xs : List V} : Walk (IteT K a) xs.length (fun H => SqT K H a xs) (YPair (fun i => some (.int (i : Nat))) (fun i => xs[i]?)) := by
  refine ⟨fun i _ hi q => ⟨xs, xs[i], q, by simp [hi]⟩, fun _ q => ⟨xs, q, rfl⟩, fun i H v H' _ q y => ?_⟩
  obtain ⟨T, x, h1, h2, h3, h4⟩ := y
  exact ⟨T, .int (i : Nat), x, h1, h2, h3, rfl, h4 xs q⟩
section
variable {X : Cx} {Γ : Gam} {M : Mem} {a : Expr} {pos p1 : Pos}
theorem ai_enumT {elts : List Expr} {kk : Nat} {tpos : Pos} {R : Mem → Prop} {xs : List Val} (hm : X.mg "enumerate" = none) (ha : aE X a Γ M fun d M' => d = .tup xs ∧ R M') (hg : Gl X "enumerate" := by rfl) (hs : starEach [a] X.env = [(false, eval a X.env)] := by rfl) :
    aI X (.Tuple elts kk tpos) (.Call (.Name "enumerate" p1) [a] [] pos) Γ M xs.length (fun i => .tup [.int i, xs.getD i .non]) (fun _ => True) R := fun Hi H σ ok en R' q => by
  refine ⟨_, pi_enumT hg hm (pa_cons pe_we pa_nil hs) hs, ?_⟩
  refine ha Hi H σ ok en _ fun d M1 v Hi1 H1 h1 s1 ok1 r1 => ?_
  obtain ⟨rfl, hp⟩ := h1
  cases r1 with
  | @tup p ys _ hq ra =>
    refine ⟨p, ys, rfl, sameT ok1.im hq, q _ M1 Hi1 H1 hp s1 ok1 ?_⟩
    rw [ra.length]
    refine walk_enumT.mono (fun H' hG => ?_) fun i H' v H'' hi hG hy Hi' M' s2 ok2 _ => ?_
    · obtain ⟨Hi', M', s2, ok2, _⟩ := hG
      exact sameT ok2.im (sameT s2 hq)
    · obtain ⟨T, x, y, rfl, hT, rfl, hx, hy⟩ := hy
      cases hx
      have s3 := same_upd (o := .tup [.int (i : Nat), y]) (ok2.none hT)
      exact ⟨_, s3, ok2.imm hT, .tup (SqT.of upd_same) (.cons (.int _) (.cons ((Sq.at ra hy).mono (s2.trans s3)) .nil))⟩
end
end Ab
namespace Ab
open PySem PySem.Spec PyProof.Rows L2
/-! ### comprehensions -/
theorem wipe_set (n : Nat) (x : Option V) : ∀ (vs : List Nat) (σ : L2.St), wipe (σ.set n x) vs = if n ∈ vs then wipe σ vs else (wipe σ vs).set n x
  | [], σ => by simp [wipe]
  | v :: vs, σ => by
    unfold wipe
    rw [wipe_set n x vs σ]
    by_cases h : n ∈ vs
    · rw [if_pos h, if_pos (List.mem_cons_of_mem _ h)]
    · rw [if_neg h]
      by_cases e : n = v
      · subst e
        rw [if_pos List.mem_cons_self, List.set_set]
      · rw [if_neg (by simp [e, h]), List.set_comm _ _ e]
def wipeG (Γ : Gam) : List Nat → Gam
  | [] => Γ
  | v :: vs => (wipeG Γ vs).set v none
theorem env_none {K : PySem.W.Frag} {H : Hp} {Γ : Gam} {σ : L2.St} (n : Nat) (h : EnvR K H Γ σ) : EnvR K H (Γ.set n none) (σ.set n none) := by
  refine ⟨by rw [List.length_set, List.length_set]; exact h.1, fun j e q => ?_⟩
  by_cases hij : n = j
  · subst hij
    by_cases hl : n < Γ.length
    · rw [List.getElem?_set_self hl] at q
      cases q
    · rw [List.getElem?_eq_none_iff.mpr (by rw [List.length_set]; omega)] at q
      cases q
  · rw [List.getElem?_set_ne hij] at q
    obtain ⟨w, h1, h2⟩ := h.2 j e q
    exact ⟨w, by rw [List.getElem?_set_ne hij]; exact h1, h2⟩
theorem env_wipe {K : PySem.W.Frag} {H : Hp} {Γ : Gam} {σ : L2.St} (h : EnvR K H Γ σ) : ∀ vs : List Nat, EnvR K H (wipeG Γ vs) (wipe σ vs)
  | [] => h
  | v :: vs => env_none v (env_wipe h vs)
section
variable {X : Cx} {Γ : Gam} {M : Mem} {P : Val → Mem → Prop} {e a b c o : Expr} {es : List Expr} {kws : List Keyword} {pos p1 p2 apos kpos : Pos} {k : AK} {d d1 d2 d3 : Val} {i j : Int} {x y m : Str} {n : Nat} {f C : Addr}
/-- a target within a comprehension: slots of vs alone -/
def aGw (X : Cx) (vs : List Nat) (tg : Expr) (d : Val) (Γ : Gam) (M : Mem) (R : Gam → Mem → Prop) : Prop := ∀ Hi H σ v, Ok X.K Hi M H → EnvR X.K Hi Γ σ → Rep X.K Hi d v → ∀ Q : L2.St → Hp → Prop, (∀ Γ' M' σ' Hi' H', R Γ' M' → Same Hi Hi' → Ok X.K Hi' M' H' → EnvR X.K Hi' Γ' σ' → wipe σ' vs = wipe σ vs → Q σ' H') → WG X tg v σ H Q
theorem agw_name {vs : List Nat} {R : Gam → Mem → Prop} (n : Nat) (hN : X.N.Nodup) (h : R (Γ.set n (some d)) M) (hn : n ∈ vs := by decide) (hi : X.N[n]? = some x := by rfl) (hx : Loc X.env.scope x := by first | exact Or.inl rfl | exact Or.inr rfl) (hf : X.fn x = true ∨ X.env.scope.names.lookup x = some .local := by first | exact .inl rfl | exact .inr rfl | assumption) :
    aGw X vs (.Name x pos) d Γ M R := fun Hi H σ v ok en r Q q => ⟨_, pg_name hN hi hx hf, q _ _ _ Hi H h (Same.refl _) ok (en.set r) (by rw [wipe_set, if_pos hn])⟩
def aGws (X : Cx) (vs : List Nat) (tgs : List Expr) (ds : List Val) (Γ : Gam) (M : Mem) (R : Gam → Mem → Prop) : Prop := ∀ Hi H σ ws, Ok X.K Hi M H → EnvR X.K Hi Γ σ → RepA X.K Hi ds ws → ∀ Q : L2.St → Hp → Prop, (∀ Γ' M' σ' Hi' H', R Γ' M' → Same Hi Hi' → Ok X.K Hi' M' H' → EnvR X.K Hi' Γ' σ' → wipe σ' vs = wipe σ vs → Q σ' H') → ∃ t, PGs X tgs t ∧ t ws σ H Q
theorem agws_nil {vs : List Nat} {R : Gam → Mem → Prop} (h : R Γ M) : aGws X vs [] [] Γ M R := fun Hi H σ ws ok en r Q q => by
  cases r
  exact ⟨_, pgs_nil, rfl, q _ _ _ Hi H h (Same.refl _) ok en rfl⟩
theorem agws_cons {vs : List Nat} {R : Gam → Mem → Prop} {ds : List Val} (h : aGw X vs e d Γ M fun Γ' M' => aGws X vs es ds Γ' M' R) (hs : (assignEach (e :: es) X.env).map (·.2) = assign e X.env :: (assignEach es X.env).map (·.2) := by rfl) : aGws X vs (e :: es) (d :: ds) Γ M R := fun Hi H σ ws ok en r Q q => by
  cases r with
  | cons r1 r2 =>
    refine ⟨_, pgs_cons pg_wg pgs_wgs hs, _, _, rfl, ?_⟩
    refine h Hi H σ _ ok en r1 _ fun Γ' M' σ' Hi' H' h1 s1 ok1 en1 w1 => ?_
    exact h1 Hi' H' σ' _ ok1 en1 (r2.mono s1) Q fun Γ2 M2 σ2 Hi2 H2 h2 s2 ok2 en2 w2 => q _ _ _ Hi2 H2 h2 (s1.trans s2) ok2 en2 (w2.trans w1)
theorem agw_tup {vs : List Nat} {kk : Nat} {R : Gam → Mem → Prop} {ds : List Val} (hc : X.calm = true) (h : aGws X vs es ds Γ M R) (hl : (assignEach es X.env).length = ds.length := by rfl) (hst : (assignEach es X.env).findIdx? (·.1) = none := by rfl) : aGw X vs (.Tuple es kk pos) (.tup ds) Γ M R := fun Hi H σ v ok en r Q q => by
  cases r with
  | tup hq ra => exact ⟨_, pg_tup hc pgs_wgs rfl hst, _, _, rfl, sameT ok.im hq, ra.length.symm.trans hl.symm, h Hi H σ _ ok en ra Q q⟩
def aTs (X : Cx) (ifs : List Expr) (Γ : Gam) (M : Mem) (P : Bool → Mem → Prop) : Prop := ∀ Hi H σ, Ok X.K Hi M H → EnvR X.K Hi Γ σ → ∀ Q, PostT X.K Hi P Q → ∃ t, PTs X ifs t ∧ t σ H Q
def WTs (X : Cx) (ifs : List Expr) : TT := fun σ H Q => ∃ t, PTs X ifs t ∧ t σ H Q
theorem pts_wts {ifs : List Expr} : PTs X ifs (WTs X ifs) := ⟨fun pins s σ H Q I ⟨t, p, h⟩ => p.run pins s σ H Q I h⟩
theorem ats_nil {P : Bool → Mem → Prop} (h : P true M) : aTs X [] Γ M P := fun Hi H σ ok en Q q => ⟨_, pts_nil, q _ _ Hi H h (Same.refl _) ok⟩
theorem ats_one {P : Bool → Mem → Prop} (h : aT X c Γ M P) : aTs X [c] Γ M P := fun Hi H σ ok en Q q => ⟨_, pts_one pt_wt, h Hi H σ ok en Q q⟩
/-- a comprehension's block -/
abbrev bx (X : Cx) (scope : Scope) (s : Shared) (H : Hp) (C : Addr) (cl : List (Str × Addr)) (fp : List Addr) : Cx := X.blk s H scope (compEnvC scope cl C X.env) fp
def bE (X : Cx) (scope : Scope) (e : Expr) (Γ : Gam) (M : Mem) (P : Val → Mem → Prop) : Prop := ∀ s H C cl fp, aE (bx X scope s H C cl fp) e Γ M P
def bTs (X : Cx) (scope : Scope) (es : List Expr) (Γ : Gam) (M : Mem) (P : Bool → Mem → Prop) : Prop := ∀ s H C cl fp, aTs (bx X scope s H C cl fp) es Γ M P
def bG (X : Cx) (scope : Scope) (vs : List Nat) (tg : Expr) (d : Val) (Γ : Gam) (M : Mem) (R : Gam → Mem → Prop) : Prop := ∀ s H C cl fp, aGw (bx X scope s H C cl fp) vs tg d Γ M R
theorem lc_read {tg iter elt : Expr} {ifs : List Expr} {scope : Scope} {vs : List Nat} {n : Nat} {it : Nat → Val} {G : Mem → Prop} (J : Nat → List Val → Mem → Prop)
    (hi : aI X tg iter Γ M n it G (J 0 [])) (hG : ∀ i acc M, i ≤ n → J i acc M → G M) (hGd : ∀ c M, G M → G (c :: M))
    (hs : ∀ i acc M D, i < n → acc.length ≤ i → J i acc M → bG X scope vs tg (it i) (wipeG Γ vs) ((D, .lst acc) :: M) fun Γ2 M2 => bTs X scope ifs Γ2 M2 fun b M3 =>
      (b = true → bE X scope elt Γ2 M3 fun y M4 => ∃ M5, M4 = (D, .lst acc) :: M5 ∧ J (i + 1) (acc ++ [y]) M5) ∧ (b = false → ∃ M5, M3 = (D, .lst acc) :: M5 ∧ J (i + 1) acc M5))
    (hn : n ≤ 100000) (hd : ∀ D acc M, J n acc M → P (.ptr D) ((D, .lst acc) :: M)) {Hi H : Hp} {σ : L2.St} (ok : Ok X.K Hi M H) (en : EnvR X.K Hi Γ σ) {Q : VK} (q : Post X.K Hi P Q) :
    tLc (WI X tg iter) (fun v σ H Q => ∀ s H' C cl fp, WG (bx X scope s H' C cl fp) tg v σ H Q) (fun σ H Q => ∀ s H' C cl fp, WTs (bx X scope s H' C cl fp) ifs σ H Q) (fun σ H Q => ∀ s H' C cl fp, WE (bx X scope s H' C cl fp) elt σ H Q) vs σ H Q := by
  refine hi Hi H σ ok en _ fun J' M1 Hi1 H1 h1 s1 ok1 w => ?_
  intro D hD
  refine lc_it (g := fun v σ H Q => ∀ s H' C cl fp, WG (bx X scope s H' C cl fp) tg v σ H Q) (tt := fun σ H Q => ∀ s H' C cl fp, WTs (bx X scope s H' C cl fp) ifs σ H Q) (te := fun σ H Q => ∀ s H' C cl fp, WE (bx X scope s H' C cl fp) elt σ H Q) (vs := vs) (σ := σ) (Qd := fun H => Q (V.ref D) H)
    w (fun i H' => ∃ acc M' Hi', J i acc M' ∧ acc.length ≤ i ∧ Same Hi1 Hi' ∧ Ok X.K Hi' ((D, .lst acc) :: M') H') ⟨[], M1, Hi1, h1, Nat.le_refl _, Same.refl _, ok1.new hD ⟨[], rfl, .nil⟩⟩ ?_ ?_ ?_
  · rintro i H' hi ⟨acc, M', Hi', h2, _, s2, ok2⟩
    exact ⟨Hi', M', s2, ok2.tail, hG i acc M' hi h2⟩
  · rintro i v H' H'' hi ⟨acc, M', Hi', h2, hl, s2, ok2⟩ hy
    obtain ⟨Hi3, s3, ok3, r3⟩ := hy Hi' ((D, .lst acc) :: M') s2 ok2 (hGd _ _ (hG i acc M' (Nat.le_of_lt hi) h2))
    intro s0 H0 C0 cl0 fp0
    have s13 := s2.trans s3
    refine hs i acc M' D hi hl h2 s0 H0 C0 cl0 fp0 Hi3 H'' (wipe σ vs) v ok3 (env_wipe (en.mono (s1.trans s13)) vs) r3 _ fun Γ4 M4 σ4 Hi4 H4 h4 s4 ok4 en4 w4 => ⟨?_, ?_⟩
    · rw [w4]
      clear w4 en4
      have idem : ∀ (us : List Nat) (τ : L2.St), wipe (wipe τ us) us = wipe τ us := by
        intro us
        induction us with
        | nil => intro τ; rfl
        | cons u us ih =>
          intro τ
          show (wipe ((wipe τ us).set u none) us).set u none = (wipe τ us).set u none
          rw [wipe_set]
          by_cases hu : u ∈ us
          · rw [if_pos hu, ih]
          · rw [if_neg hu, ih, List.set_set]
      exact idem vs σ
    · intro s5 H5 C5 cl5 fp5
      refine h4 s5 H5 C5 cl5 fp5 Hi4 H4 σ4 ok4 en4 _ fun b M6 Hi6 H6 h6 s6 ok6 => ?_
      cases b with
      | true =>
        refine iteT fun s7 H7 C7 cl7 fp7 => ?_
        refine h6.1 rfl s7 H7 C7 cl7 fp7 Hi6 H6 σ4 ok6 (en4.mono s6) _ fun y M8 v8 Hi8 H8 h8 s8 ok8 r8 => ?_
        obtain ⟨M9, rfl, h9⟩ := h8
        obtain ⟨_, o, ho, xs, rfl, ra⟩ := ok8.ce D _ List.mem_cons_self
        refine ⟨xs, ho, ?_, ?_⟩
        · rw [← ra.length]
          exact Nat.lt_of_lt_of_le (Nat.lt_of_le_of_lt hl (Nat.lt_of_lt_of_le hi hn)) (by decide)
        · exact ⟨acc ++ [y], M9, Hi8, h9, by rw [List.length_append]; exact Nat.succ_le_succ hl, ((s13.trans s4).trans s6).trans s8, ok8.set (i := 0) rfl ⟨_, rfl, ra.append (.cons r8 .nil)⟩⟩
      | false =>
        obtain ⟨M9, rfl, h9⟩ := h6.2 rfl
        exact iteF ⟨acc, M9, Hi6, h9, Nat.le_succ_of_le hl, (s13.trans s4).trans s6, ok6⟩
  · rintro H' ⟨acc, M', Hi', h2, hl, s2, ok2⟩
    exact q _ _ _ Hi' H' (hd D acc M' h2) (s1.trans s2) ok2 (.ptr D)
/-- [elt for tg in iter if ..]: a new cell -/
theorem ae_lcC {tg iter elt : Expr} {ifs : List Expr} {scope : Scope} (own : List (Str × Nat)) {n : Nat} {it : Nat → Val} {G : Mem → Prop} (J : Nat → List Val → Mem → Prop) (hc : X.calm = true) (hN : X.N.Nodup) (ok : BlkOk X.N X.env.scope scope own)
    (hi : aI X tg iter Γ M n it G (J 0 [])) (hG : ∀ i acc M, i ≤ n → J i acc M → G M) (hGd : ∀ c M, G M → G (c :: M))
    (hs : ∀ i acc M D, i < n → acc.length ≤ i → J i acc M → bG X scope (own.map (·.2)) tg (it i) (wipeG Γ (own.map (·.2))) ((D, .lst acc) :: M) fun Γ2 M2 => bTs X scope ifs Γ2 M2 fun b M3 =>
      (b = true → bE X scope elt Γ2 M3 fun y M4 => ∃ M5, M4 = (D, .lst acc) :: M5 ∧ J (i + 1) (acc ++ [y]) M5) ∧ (b = false → ∃ M5, M3 = (D, .lst acc) :: M5 ∧ J (i + 1) acc M5))
    (hn : n ≤ 100000) (hd : ∀ D acc M, J n acc M → P (.ptr D) ((D, .lst acc) :: M)) (hf : ∀ x, foldedSetIterable iter X.env x = pure x := by intro _; rfl) :
    aE X (.ListComp elt [⟨tg, iter, ifs, 0⟩] scope pos) Γ M P := fun Hi H σ ok' en Q q =>
  ⟨_, pe_lc hc hN pi_wi ok (fun s H C cl fp => ⟨fun pins s' σ H v u Q I r h => pg_wg.run pins s' σ H v u Q I r (h _ _ _ _ _)⟩) (fun s H C cl fp => ⟨fun pins s' σ H Q I h => pts_wts.run pins s' σ H Q I (h _ _ _ _ _)⟩) (fun s H C cl fp => ⟨fun pins s' σ H Q I h => pe_we.run pins s' σ H Q I (h _ _ _ _ _)⟩) hf,
    lc_read J hi hG hGd hs hn hd ok' en q⟩
end
end Ab
namespace Ab
open PySem PySem.Spec PyProof.Rows L2
section
variable {X : Cx} {Γ : Gam} {M : Mem} {P : Val → Mem → Prop} {e a b c o : Expr} {es : List Expr} {kws : List Keyword} {pos p1 p2 apos kpos : Pos} {k : AK} {d d1 d2 d3 : Val} {i j : Int} {x y m : Str} {n : Nat} {f C : Addr}
/-! ### a class's own things -/
/-- o.f, f a property -/
theorem ae_prop {fl : Str} {p g : Addr} {fs : List (Str × Val)} {sx : ASx} (c : Cls X.K C) (hp : PropOf X.K C fl p g) (F : FnX X.prog X.w X.K X.mg X.base n g [] (spX X.K sx)) (hr : Rm (n + 1) X.A) (ho : aV X o Γ M d) (hob : Ob M C d fs) (h : sx [d] [] M P)
    (hb : attributeBase o fl X.env (eval o X.env) = eval o X.env := by rfl) : aE X (.Attribute o fl pos) Γ M P := fun Hi H σ ok en Q q => by
  refine ⟨fun σ H Q => WE X o σ H fun x H1 => ∃ a dx fs, x = .ref a ∧ H1 a = some (.ins C dx fs) ∧ spX X.K sx [.ref a] [] H1 Q, ⟨fun pins s σ H Q I h => ?_⟩, ?_⟩
  · refine attr_of hb (thn (pe_we.run pins s σ H _ I h) fun u s1 ⟨x, H1, I1, rx, a, dx, fs, ex, ea, q⟩ => ?_)
    subst ex
    obtain rfl : u = Value.ref a := rx
    obtain ⟨mA, O, _, _, _, _⟩ := ins_get I1.hok ea
    obtain ⟨od, J, _⟩ := O.look
    obtain ⟨rest, hrec⟩ := hp.rec_
    have I2 := I1.tok (s1.toks + 1)
    have hc : (PySem.W.clsIn X.K C).isSome = true := by
      obtain ⟨cd, hc, _⟩ := PySem.W.any_some c.hd
      rw [hc]
      rfl
    refine PySem.W.get_bind I1.kIn J (PySem.W.plainGet_of (c.get fl)).1 (PySem.W.findObj_data hc hp.at_ hp.get hp.tak) (PySem.W.plainGet_of (c.get fl)).2 (wpAny_call (PySem.W.prop_get (s := { s1 with toks := s1.toks + 1 }) I1.kIn hrec ?_))
    refine codeAny_mono (F.run X.A.in1 X.stack { s1 with toks := s1.toks + 1 } H1 [.ref a] [] [.ref a] [] Q hr.in1 I2.env0.in1 (.cons rfl .nil) .nil rfl q) fun r s' hq => ?_
    cases r with
    | error er => exact False.elim hq
    | ok fl =>
      cases fl with
      | ret u =>
        obtain ⟨v, H', I3, rv, q3⟩ := I2.after hq
        show wpAny _ _ (handedOut u) _ _ _
        rw [PySem.W.handedOut_of (handed_of rv)]
        exact wpAny_pure ⟨v, H', I3, rv, q3⟩
      | next => exact False.elim hq
      | brk => exact False.elim hq
      | cont => exact False.elim hq
  · refine ho Hi H σ ok en _ fun x M0 v0 Hi0 H0 h0 s0 ok0 r0 => ?_
    obtain ⟨rfl, rfl⟩ := h0
    obtain ⟨p, dx, gs, rfl, hp, rf⟩ := hob.rep ok0 r0
    exact ⟨p, dx, gs, rfl, hp, Hi0, _, [_], [], P, .cons r0 .nil, .nil, ok0, h, q.up s0⟩
/-- C.m is a staticmethod: its record at p, its def at g -/
structure SMet (K : PySem.W.Frag) (C : Addr) (mc : Value) (m : Str) (p g : Addr) : Prop where
  at_ : PySem.W.findCls K (.ref C) mc m = some (.get (.builtin "staticmethod.__get__") (.ref p) .none (.ref C))
  rc : ∃ rest, PySem.W.recIn K p "staticmethod" = some (.ref g :: rest)
  kp : PySem.W.keepIn K (.ref g) = true
theorem ae_smeth {mc : Value} {p g : Addr} {pl : Sem Bool} {ks : List Str} {sx : ASx} (r : ClX.CRead X.K C mc) (sm : SMet X.K C mc m p g) (F : FnX X.prog X.w X.K X.mg X.base n g ks (spX X.K sx)) (hr : Rm n X.A) (ho : aV X o Γ M (.ptr C))
    (h : aA X (e :: es) Γ M fun ds M1 => aKw X kws Γ M1 fun zs M2 => zs.length = ks.length ∧ sx ds zs M2 P)
    (hall : (backToKw pos (keywordEach kws X.env)).all (·.1.isSome) = true := by rfl) (hks : (backToKw pos (keywordEach kws X.env)).filterMap (·.1) = ks := by rfl)
    (he : starEach (e :: es) X.env = (false, eval e X.env) :: starEach es X.env := by rfl) (hpl : ((backTo pos (starEach (e :: es) X.env)).any (·.1) || (backToKw pos (keywordEach kws X.env)).any (·.1.isNone)) = false := by rfl)
    (ht : eval (.Call (.Attribute o m apos) (e :: es) kws pos) X.env = (do
      let ov ← eval o X.env
      standAt apos.atName
      let (f, first) ← holding [ov] (getMethod ov m pl)
      callWith pos f first (backTo pos (starEach (e :: es) X.env)) (backToKw pos (keywordEach kws X.env))) := by rfl) : aE X (.Call (.Attribute o m apos) (e :: es) kws pos) Γ M P := fun Hi H σ ok en Q q => by
  refine ⟨fun σ H Q => WE X o σ H fun x H0 => x = .ref C ∧ WA X (e :: es) σ H0 fun vs H1 => WK X kws σ H1 fun zs H2 => zs.length = ks.length ∧ spX X.K sx vs zs H2 Q, ⟨fun pins s σ H Q I h => ?_⟩, ?_⟩
  · refine PySem.W.methodCall_KW (pl := pl) (thn (pe_we.run pins s σ H _ I h) fun u s1 ⟨x, H1, I1, rx, ex, q⟩ => ?_) ht
    subst ex
    obtain rfl : u = Value.ref C := rx
    obtain ⟨rest, hp⟩ := sm.rc
    refine PySem.W.method_cls I1.kIn r.ga (PySem.W.cls_bind I1.kIn r.rd sm.at_ (wpAny_call (PySem.W.sm_get (s := { s1 with toks := s1.toks + 1 }) I1.kIn hp (PySem.W.handed_on rfl ?_))))
    have I2 := I1.tok (s1.toks + 1)
    refine PySem.W.callWith_KW (first := []) (h₀ := X.base) I.ok.mod.kin sm.kp hall (thn (pa_wa.run pos pins _ σ H1 _ I2 q) fun us s2 ⟨vs, H2, I3, r, q2⟩ => ?_) hpl he
    refine thn (pk_wk.run pos pins s2 σ H2 _ I3 q2) fun ws s3 ⟨zs, H3, I4, rz, l2, q3⟩ => ⟨I4.kIn, ?_⟩
    rw [hks]
    exact run_x F hr I4 r rz l2 q3
  · refine ho Hi H σ ok en _ fun x M0 v0 Hi0 H0 h0 s0 ok0 r0 => ?_
    obtain ⟨rfl, rfl⟩ := h0
    cases r0
    refine ⟨rfl, ?_⟩
    refine h Hi0 H0 σ ok0 (en.mono s0) _ fun ds M1 vs Hi1 H1 h1 s1 ok1 r1 => ?_
    refine h1 Hi1 H1 σ ok1 (en.mono (s0.trans s1)) _ fun zs M2 ws Hi2 H2 h2 s2 ok2 r2 => ?_
    exact ⟨r2.length.symm.trans h2.1, Hi2, M2, ds, zs, P, r1.mono s2, r2, ok2, h2.2, q.up ((s0.trans s1).trans s2)⟩
/-! ### isinstance -/
/-- a value's type -/
inductive TyV (K : PySem.W.Frag) (M : Mem) : Val → Value → Prop
  | non : TyV K M .non (.type "NoneType")
  | bl (b : Bool) : TyV K M (.bl b) (.type "bool")
  | int (i : Int) : TyV K M (.int i) (.type "int")
  | str (x : Str) : TyV K M (.str x) (.type "str")
  | tup (xs : List Val) : TyV K M (.tup xs) (.type "tuple")
  | lst {d : Val} {xs : List Val} : Vw M d (.lst xs) → TyV K M d (.type "list")
  | ob {C : Addr} {d : Val} {fs : List (Str × Val)} : Ob M C d fs → Cls K C → PySem.W.findIn K (.ref C) "__class__" = some (some (.builtin "object.__class__")) → PySem.W.specialIn K (.builtin "object.__class__") "__get__" = some (some (.builtin "getset_descriptor.__get__")) →
      PySem.W.takesIn K (.builtin "object.__class__") = some true → PySem.W.mroIn K C (.type "object") = some true → TyV K M d (.ref C)
theorem tyx_l {K : PySem.W.Frag} {H : Hp} {p : Addr} {xs : List V} (h : SqL K H p xs) : TyX K H (.ref p) (.type "list") := by
  rcases h with (h | ⟨o, h⟩) | h
  · exact .base (.lst h)
  · exact .base (.frz h)
  · obtain ⟨its, _, o, e, c, _⟩ := h
    exact .kList e c
theorem tyx_t {K : PySem.W.Frag} {H : Hp} {p : Addr} {xs : List V} (h : SqT K H p xs) : TyX K H (.ref p) (.type "tuple") := by
  rcases h with (h | ⟨o, h⟩) | h
  · exact .base (.tup h)
  · exact .fTuple h
  · obtain ⟨its, _, o, e, c, _⟩ := h
    exact .kTuple e c
theorem TyV.tyx {K : PySem.W.Frag} {Hi H : Hp} {t : Value} {v : V} (h : TyV K M d t) (ok : Ok K Hi M H) (r : Rep K Hi d v) : TyX K H v t := by
  cases h with
  | non => cases r; exact .base .non
  | bl b => cases r; exact .base (.bl b)
  | int b => cases r; exact .base (.int b)
  | str b => cases r; exact .base (.str b)
  | tup xs => cases r with
    | tup hq ra => exact tyx_t (sameT ok.im hq)
  | lst hv =>
    obtain ⟨p, ys, rfl, hq, _⟩ := hv.repL ok r
    exact tyx_l hq
  | ob ho c h1 h2 h3 h4 =>
    obtain ⟨p, dx, gs, rfl, hq, _⟩ := ho.rep ok r
    exact .base (.ins hq c h1 h2 h3 h4)
/-- a class as a value -/
inductive ClV : Val → Value → Prop
  | ty (n : String) : ClV (.ty n) (.type n)
  | own (C : Addr) : ClV (.ptr C) (.ref C)
theorem ae_isi {t u : Value} {bb : Bool} (hm : X.mg "isinstance" = none) (ha : aV X a Γ M d1) (hb : aV X b Γ M d2) (hc : ClV d2 u) (ht : TyV X.K M d1 t) (hk : PySem.W.kitOne X.K t u = some bb) (h : P (.bl bb) M) (hg : Gl X "isinstance" := by rfl)
    (hs : starEach [a, b] X.env = (false, eval a X.env) :: starEach [b] X.env := by rfl) (hs2 : starEach [b] X.env = (false, eval b X.env) :: starEach [] X.env := by rfl) (hpl : (backTo pos (starEach [b] X.env)).any (·.1) = false := by rfl) : aE X (.Call (.Name "isinstance" p1) [a, b] [] pos) Γ M P :=
  ae_callB call_isi hm (by decide +kernel) (aa_cons (ha.val (aa_cons (hb.val (aa_nil fun Hi H vs ok r Q q => by
    cases r with
    | cons r1 r2 =>
      cases r2 with
      | cons r2 r3 =>
        cases r3
        refine ⟨_, _, t, u, bb, rfl, ?_, ht.tyx ok r1, hk, q _ _ _ Hi H h (Same.refl _) ok (.bl _)⟩
        cases hc with
        | ty n => cases r2; exact .ty n
        | own C => cases r2; exact .own C)) hs2)) hs) hg (he := hs) (hpl := hpl)
/-- a built-in class by its name -/
theorem av_ty {T : String} (hm : X.mg x = none) (hv : bootBuiltins x = some (.type T)) (hg : Gl X x := by rfl) (hn : x ≠ "__name__" := by decide) (hd : (x == ("__debug__" : Str)) = false := by decide) : aV X (.Name x pos) Γ M (.ty T) :=
  ae_c (v := .ty T) (pe_bltn hg hm hv rfl hn hd) (fun _ _ => .ty T) ⟨rfl, rfl⟩
/-! ### all, sum, sorted, min, max -/
theorem ae_all (hm : X.mg "all" = none) (hc : X.calm = true) (ha : aE X a Γ M fun d M' => ∃ bs : List Bool, Vw M' d (.lst (bs.map .bl)) ∧ P (.bl (bs.all id)) M') (hg : Gl X "all" := by rfl) (hst : starEach [a] X.env = [(false, eval a X.env)] := by rfl) : aE X (.Call (.Name "all" p1) [a] [] pos) Γ M P :=
  ae_callB (cr_all hc) hm (by decide +kernel) (aa_cons (ha.mono fun d M' ⟨bs, hv, h⟩ => aa_nil fun Hi H vs ok r Q q => by
    cases r with
    | cons r1 r2 =>
      cases r2
      obtain ⟨p, ys, rfl, hq, ra⟩ := hv.repL ok r1
      rw [ra.bls] at hq
      exact ⟨p, bs, rfl, hq, q _ _ _ Hi H h (Same.refl _) ok (.bl _)⟩) hst) hg (he := hst) (hpl := rfl)
theorem ae_min2 (hm : X.mg "min" = none) (hc : X.calm = true) (ha : aV X a Γ M (.int i)) (hb : aV X b Γ M (.int j)) (h : P (.int (if j < i then j else i)) M) (hg : Gl X "min" := by rfl)
    (hs : starEach [a, b] X.env = (false, eval a X.env) :: starEach [b] X.env := by rfl) (hs2 : starEach [b] X.env = (false, eval b X.env) :: starEach [] X.env := by rfl) (hpl : (backTo pos (starEach [b] X.env)).any (·.1) = false := by rfl) : aE X (.Call (.Name "min" p1) [a, b] [] pos) Γ M P :=
  ae_callB (call_min2 hc) hm (by decide +kernel) (aa_cons (ha.val (aa_cons (hb.val (aa_nil fun Hi H vs ok r Q q => by
    cases r with
    | cons r1 r2 =>
      cases r2 with
      | cons r2 r3 =>
        cases r3
        cases r1
        cases r2
        exact ⟨i, j, rfl, q _ _ _ Hi H h (Same.refl _) ok (.int _)⟩)) hs2)) hs) hg (he := hs) (hpl := hpl)
theorem ae_max2 (hm : X.mg "max" = none) (hc : X.calm = true) (ha : aV X a Γ M (.int i)) (hb : aV X b Γ M (.int j)) (h : P (.int (if j > i then j else i)) M) (hg : Gl X "max" := by rfl)
    (hs : starEach [a, b] X.env = (false, eval a X.env) :: starEach [b] X.env := by rfl) (hs2 : starEach [b] X.env = (false, eval b X.env) :: starEach [] X.env := by rfl) (hpl : (backTo pos (starEach [b] X.env)).any (·.1) = false := by rfl) : aE X (.Call (.Name "max" p1) [a, b] [] pos) Γ M P :=
  ae_callB (call_max2 hc) hm (by decide +kernel) (aa_cons (ha.val (aa_cons (hb.val (aa_nil fun Hi H vs ok r Q q => by
    cases r with
    | cons r1 r2 =>
      cases r2 with
      | cons r2 r3 =>
        cases r3
        cases r1
        cases r2
        exact ⟨i, j, rfl, q _ _ _ Hi H h (Same.refl _) ok (.int _)⟩)) hs2)) hs) hg (he := hs) (hpl := hpl)
/-! ### + and * of lists and tuples -/
def rCatL (K : PySem.W.Frag) : R2 := fun x y H Q => ∃ l b xs zs, x = .ref l ∧ y = .ref b ∧ SqL K H l xs ∧ SqL K H b zs ∧ xs.length + zs.length ≤ sizeLine ∧ ∀ p, H p = none → Q (.ref p) (upd H p (.lst (xs ++ zs)))
theorem op_catL : OpR X (binaryOp .Add) (rCatL X.K) := by
  intro pins s σ H x y v u Q I rx ry h
  obtain ⟨l, b, xs, zs, rfl, rfl, hH, hB, hz, q⟩ := h
  cases rx
  cases ry
  obtain ⟨its, r, pl, z⟩ := I.list hH
  obtain ⟨its2, r2, pl2, z2⟩ := I.list hB
  have l1 := r.length
  have l2 := r2.length
  obtain ⟨⟨cl, dd, da, sl⟩, ho, hc, n, hd⟩ := pl.isList
  obtain ⟨⟨cl2, dd2, da2, sl2⟩, ho2, hc2, n2, hd2⟩ := pl2.isList
  obtain rfl : cl = .type "list" := hc
  obtain rfl : cl2 = .type "list" := hc2
  obtain rfl : da = .seq its.toArray n := hd
  obtain rfl : da2 = .seq its2.toArray n2 := hd2
  refine concat_meets ⟨_, ho, rfl⟩ ⟨_, ho2, rfl⟩ noFill_list_add seq_list_add PySem.F.slot_list_add PySem.F.entry_list_add (PySem.F.args_list_add_2 _ _) (list_addW l b its.toArray its2.toArray n n2 dd dd2 sl sl2 (by rw [List.size_toArray, List.size_toArray]; omega)) ⟨ho, ho2, ?_⟩
  rw [show its.toArray ++ its2.toArray = (its ++ its2).toArray by simp]
  exact ⟨.ref _, _, I.lnew (t' := s.toks) (r.append r2) (by rw [List.length_append]; omega), rfl, q _ I.fresh⟩
theorem rv_catL {xs ys : List Val} (h1 : Vw M d1 (.lst xs)) (h2 : Vw M d2 (.lst ys)) (hl : xs.length + ys.length ≤ sizeLine) (h : ∀ p, P (.ptr p) ((p, .lst (xs ++ ys)) :: M)) : RV X (rCatL X.K) d1 d2 M P := fun Hi H v w ok rv rw_ Q q => by
  obtain ⟨p, us, rfl, hq, ra⟩ := h1.repL ok rv
  obtain ⟨p', ws, rfl, hq', ra'⟩ := h2.repL ok rw_
  exact ⟨p, p', us, ws, rfl, rfl, hq, hq', by rw [← ra.length, ← ra'.length]; exact hl, fun l hl => q _ _ _ _ _ (h l) (Same.refl _) (ok.new hl ⟨_, rfl, ra.append ra'⟩) (.ptr l)⟩
theorem rv_catT {xs ys : List Val} (hl : xs.length + ys.length ≤ sizeLine) (h : P (.tup (xs ++ ys)) M) : RV X (rCatA X.K) (.tup xs) (.tup ys) M P := fun Hi H v w ok rv rw_ Q q => by
  cases rv with
  | @tup p us _ hq ra =>
    cases rw_ with
    | @tup p' ws _ hq' ra' =>
      refine ⟨p, p', us, ws, rfl, rfl, sameT ok.im hq, sameT ok.im hq', by rw [← ra.length, ← ra'.length]; exact hl, fun e => ?_, fun _ e => ?_, fun _ _ l hl => ?_⟩
      · subst e
        cases ra
        exact q _ _ _ Hi H h (Same.refl _) ok (.tup hq' ra')
      · subst e
        cases ra'
        rw [List.append_nil] at h
        exact q _ _ _ Hi H h (Same.refl _) ok (.tup hq ra)
      · have s2 := same_upd (o := .tup (us ++ ws)) (ok.none hl)
        exact q _ _ _ _ _ h s2 (ok.imm hl) (.tup (SqT.of upd_same) ((ra.append ra').mono s2))
end
end Ab
namespace Ab
open PySem PySem.Spec PyProof.Rows L2
section
variable {X : Cx} {Γ : Gam} {M : Mem} {P : Val → Mem → Prop} {e a b c o : Expr} {es : List Expr} {kws : List Keyword} {pos p1 p2 apos kpos : Pos} {k : AK} {d d1 d2 d3 : Val} {i j : Int} {x y m : Str} {n : Nat} {f C : Addr}
/-! ### repr of lists and tuples -/
/-! ### [x] * n -/
theorem rv_repL {xs : List Val} {p : Addr} {jj : Int} {n : Nat} (hm : M[n]? = some (p, .lst xs)) (h1 : 0 ≤ jj) (h2 : jj < 2 ^ 31) (hl : xs.length * jj.toNat ≤ sizeLine) (h : ∀ q, P (.ptr q) ((q, .lst (List.replicate jj.toNat xs).flatten) :: M)) : RV X rRep (.ptr p) (.int jj) M P := fun Hi H v w ok rv rw_ Q q => by
  cases rv
  cases rw_
  obtain ⟨_, o, ho, ys, rfl, ra⟩ := ok.get hm
  refine ⟨p, jj, ys, rfl, rfl, ho, by omega, by omega, by rw [← ra.length]; exact hl, fun l hl => q _ _ _ _ _ (h l) (Same.refl _) (ok.new hl ⟨_, rfl, ?_⟩) (.ptr l)⟩
  have : ∀ m : Nat, RepA X.K Hi (List.replicate m xs).flatten (List.replicate m ys).flatten := by
    intro m
    induction m with
    | zero => exact .nil
    | succ m ih =>
      rw [List.replicate_succ, List.replicate_succ, List.flatten_cons, List.flatten_cons]
      exact ra.append ih
  exact this _
/-! ### dict displays -/
def aPr (X : Cx) (ps : List (Expr × Expr)) (Γ : Gam) (M : Mem) (P : List (Key × Val) → Mem → Prop) : Prop := ∀ Hi H σ, Ok X.K Hi M H → EnvR X.K Hi Γ σ → ∀ Q : List (V × V) → Hp → Prop,
  (∀ kvs M' (ws : List (Key × V)) Hi' H', P kvs M' → Same Hi Hi' → Ok X.K Hi' M' H' → RepK X.K Hi' kvs ws → Q (ws.map fun kv => (kV kv.1, kv.2)) H') → tPairs (ps.map fun p => (WE X p.1, WE X p.2)) σ H Q
theorem ap_nil {P : List (Key × Val) → Mem → Prop} (h : P [] M) : aPr X [] Γ M P := fun Hi H σ ok en Q q => q [] M [] Hi H h (Same.refl _) ok .nil
theorem ap_cons {P : List (Key × Val) → Mem → Prop} {kk : Str} {ps : List (Expr × Expr)} (hk : aV X a Γ M (.str kk)) (hv : aV X e Γ M d) (h : aPr X ps Γ M fun kvs M' => P ((.inr kk, d) :: kvs) M') : aPr X ((a, e) :: ps) Γ M P := fun Hi H σ ok en Q q => by
  refine hk Hi H σ ok en _ fun x M1 v1 Hi1 H1 h1 s1 ok1 r1 => ?_
  obtain ⟨rfl, rfl⟩ := h1
  cases r1
  refine hv Hi1 H1 σ ok1 (en.mono s1) _ fun x M2 v2 Hi2 H2 h2 s2 ok2 r2 => ?_
  obtain ⟨rfl, rfl⟩ := h2
  have s12 := s1.trans s2
  refine h Hi2 H2 σ ok2 (en.mono s12) _ fun kvs M' ws Hi' H' h3 s3 ok3 r3 => ?_
  exact q ((.inr kk, _) :: kvs) M' ((.inr kk, v2) :: ws) Hi' H' h3 (s12.trans s3) ok3 (.cons (r2.mono s3) r3)
def mergeA (kvs more : List (Key × Val)) : List (Key × Val) := more.foldl (fun acc kv => dPut acc kv.1 kv.2) kvs
theorem rep_merge {K : PySem.W.Frag} {H : Hp} : ∀ {more : List (Key × Val)} {ws : List (Key × V)} {kvs : List (Key × Val)} {gs : List (Key × V)}, RepK K H more ws → RepK K H kvs gs → RepK K H (mergeA kvs more) (mergeK gs ws)
  | [], _, _, _, .nil, r => r
  | (kk, dd) :: more, _, _, _, .cons (v := v) (gs := gs) a t, r => by
    show RepK K H (mergeA (dPut _ kk dd) more) (mergeK (putK _ kk v) gs)
    exact rep_merge t (r.put a)
theorem disp_of {ps : List (Expr × Expr)} {keys : List (Option Expr)} {values : List Expr} (hpp : PPs X pos keys values (ps.map fun p => (WE X p.1, WE X p.2))) (hall : keys.all (·.isSome) = true) (hl : keys.length = values.length) (h0 : keys ≠ []) (h15 : keys.length ≤ 15)
    (h : ∀ p, aPr X ps Γ ((p, .dk []) :: M) fun kvs M' => ∃ M2, M' = (p, .dk []) :: M2 ∧ kvs.length ≤ 15 ∧ P (.ptr p) ((p, .dk (mergeA [] kvs)) :: M2)) : aE X (.Dict keys values pos) Γ M P := fun Hi H σ ok en Q q => by
  refine ⟨_, pe_disp hpp hall hl h0 h15, fun p hp => ?_⟩
  refine h p Hi _ σ (ok.new hp ⟨[], rfl, .nil⟩) en _ fun kvs M' ws Hi' H' h1 s1 ok1 r1 => ?_
  obtain ⟨M2, rfl, h15', hP⟩ := h1
  obtain ⟨_, o, ho, gs, rfl, rk⟩ := ok1.ce p _ List.mem_cons_self
  cases rk
  exact ⟨ho, ws, rfl, by rw [← r1.length]; exact h15', q _ _ _ Hi' _ hP s1 (ok1.set (i := 0) rfl ⟨_, rfl, rep_merge r1 .nil⟩) (.ptr p)⟩
theorem ae_dict3 {a1 a2 a3 e1 e2 e3 : Expr} (h : ∀ p, aPr X [(a1, e1), (a2, e2), (a3, e3)] Γ ((p, .dk []) :: M) fun kvs M' => ∃ M2, M' = (p, .dk []) :: M2 ∧ kvs.length ≤ 15 ∧ P (.ptr p) ((p, .dk (mergeA [] kvs)) :: M2)) : aE X (.Dict [some a1, some a2, some a3] [e1, e2, e3] pos) Γ M P :=
  disp_of (pps_cons pe_we pe_we (pps_cons pe_we pe_we (pps_cons pe_we pe_we pps_nil))) rfl rfl (fun z => nomatch z) (Nat.le_of_ble_eq_true rfl) h
/-! ### a, b, c = e1, e2, e3 -/
theorem ps_par3 {n1 n2 n3 : Nat} {x y z : Str} {e1 e2 e3 : Expr} {ta : TA} {px py pz pt : Pos} {kt k2 pt2} (hc : X.calm = true) (hN : X.N.Nodup) (hi : X.N[n1]? = some x) (hj : X.N[n2]? = some y) (hk : X.N[n3]? = some z) (h12 : n1 ≠ n2) (h13 : n1 ≠ n3) (h23 : n2 ≠ n3)
    (hx : X.env.scope.names.lookup x = some .local) (hy : X.env.scope.names.lookup y = some .local) (hz : X.env.scope.names.lookup z = some .local) (ha : PA X [e1, e2, e3] ta)
    (hw : swappedStores [.Tuple [.Name x px, .Name y py, .Name z pz] kt pt] (.Tuple [e1, e2, e3] k2 pt2) X.env = pure (some [x, y, z]))
    (hs : swapsWithSole [.Tuple [.Name x px, .Name y py, .Name z pz] kt pt] (.Tuple [e1, e2, e3] k2 pt2) pos.line X.env = pure false) :
    PS X (.Assign [.Tuple [.Name x px, .Name y py, .Name z pz] kt pt] (.Tuple [e1, e2, e3] k2 pt2) pos) (fun D σ H => ta σ H fun vs H1 => ∃ v1 v2 v3, vs = [v1, v2, v3] ∧ D.nx (((σ.set n1 (some v1)).set n2 (some v2)).set n3 (some v3)) H1) := by
  refine ⟨fun pins s σ H D I h => ?_⟩
  rw [exec_Assign_arm, hs]
  refine wpAny_bind (wpAny_standAt (wpAny_bind (wpAny_pure ?_)))
  rw [if_neg (by decide)]
  refine wpAny_bind (Tuple_ (thn (ha.run _ pins s σ H _ I h) fun us s1 ⟨vs, H1, I1, r1, v1, v2, v3, e1, q1⟩ => ?_))
  subst e1
  obtain ⟨u1, u2, u3, rfl, ru1, ru2, ru3⟩ : ∃ u1 u2 u3, us = [u1, u2, u3] ∧ RelV v1 u1 ∧ RelV v2 u2 ∧ RelV v3 u3 := by
    cases r1 with
    | cons p q =>
      cases q with
      | cons p' q' =>
        cases q' with
        | cons p'' q'' =>
          cases q''
          exact ⟨_, _, _, rfl, p, p', p''⟩
  refine wpAny_newObj_type ?_ (by show 3 ≤ sizeLine; decide)
  have I2 : Inv X pins σ H1 { s1 with heap := s1.heap.push { cls := .type "tuple", data := .seq [u1, u2, u3].toArray } } := I1.kept (t' := s1.toks) fun b o e => Heap.get?_push_of_some _ e
  rw [hw]
  refine wpAny_bind (wpAny_pure ?_)
  show wpAny (model X.prog X.w) X.A (do rule "assign.swapped-stores"; let items ← unpackItems (.ref s1.heap.objs.size) 3 none; assignInOrder [fun v => bindName X.env z v, fun v => bindName X.env y v, fun v => bindName X.env x v] items.reverse; pure Flow.next) _ _ _
  refine wpAny_bind (wpAny_rule (wpAny_bind (unpackItems_tuple (items := #[u1, u2, u3]) (I.ok.hd hc) (IsTup.new s1.heap _) fun h' hx' => ?_)))
  have I3 := I2.kept (h' := h') (t' := s1.toks) fun b o e => hx' b o (Nat.ne_of_lt (Heap.lt_size e)) e
  show wpAny _ _ (assignInOrder [fun v => bindName X.env z v, fun v => bindName X.env y v, fun v => bindName X.env x v] [u3, u2, u1] >>= fun _ => pure Flow.next) _ _ _
  refine wpAny_bind (assignInOrder_cons (wpAny_bindName (store_ok I3 hN hk (.inl hz) ru3 (fun s2 I4 => ?_) (.inr hz))))
  refine assignInOrder_cons (wpAny_bindName (store_ok I4 hN hj (.inl hy) ru2 (fun s3 I5 => ?_) (.inr hy)))
  refine assignInOrder_cons (wpAny_bindName (store_ok I5 hN hi (.inl hx) ru1 (fun s4 I6 => assignInOrder_nil (wpAny_pure ?_)) (.inr hx)))
  have e : ((σ.set n3 (some v3)).set n2 (some v2)).set n1 (some v1) = ((σ.set n1 (some v1)).set n2 (some v2)).set n3 (some v3) := by
    rw [List.set_comm _ _ (Ne.symm h12), List.set_comm _ _ (Ne.symm h13), List.set_comm _ _ (Ne.symm h23)]
  rw [e] at I6
  exact ⟨_, H1, I6, q1⟩
theorem as_par3 {x y z : Str} {e1 e2 e3 : Expr} {px py pz pt : Pos} {kt k2 pt2} (n1 n2 n3 : Nat) (hN : X.N.Nodup) (hc : X.calm = true) (he : aA X [e1, e2, e3] Γ M fun ds M' => ∃ d1 d2 d3, ds = [d1, d2, d3] ∧ k.nx (((Γ.set n1 (some d1)).set n2 (some d2)).set n3 (some d3)) M')
    (h12 : n1 ≠ n2 := by decide) (h13 : n1 ≠ n3 := by decide) (h23 : n2 ≠ n3 := by decide) (hi : X.N[n1]? = some x := by rfl) (hj : X.N[n2]? = some y := by rfl) (hk : X.N[n3]? = some z := by rfl) (hx : X.env.scope.names.lookup x = some .local := by rfl) (hy : X.env.scope.names.lookup y = some .local := by rfl) (hz : X.env.scope.names.lookup z = some .local := by rfl)
    (hw : swappedStores [.Tuple [.Name x px, .Name y py, .Name z pz] kt pt] (.Tuple [e1, e2, e3] k2 pt2) X.env = pure (some [x, y, z]) := by rfl)
    (hs : swapsWithSole [.Tuple [.Name x px, .Name y py, .Name z pz] kt pt] (.Tuple [e1, e2, e3] k2 pt2) pos.line X.env = pure false := by rfl) : aS X (.Assign [.Tuple [.Name x px, .Name y py, .Name z pz] kt pt] (.Tuple [e1, e2, e3] k2 pt2) pos) Γ M k := fun Hi H σ ok en D q => by
  refine ⟨_, ps_par3 hc hN hi hj hk h12 h13 h23 hx hy hz pa_wa hw hs, ?_⟩
  refine he Hi H σ ok en _ fun ds M1 vs Hi1 H1 h1 s1 ok1 r1 => ?_
  obtain ⟨d1, d2, d3, rfl, h2⟩ := h1
  cases r1 with
  | cons r1 r2 =>
    cases r2 with
    | cons r2 r3 =>
      cases r3 with
      | cons r3 r4 =>
        cases r4
        exact ⟨_, _, _, rfl, q.nx _ _ _ Hi1 H1 h2 s1 ok1 ((((en.mono s1).set r1).set r2).set r3)⟩
end
/-! ### a def with a star and keyword-only parameters -/
end Ab
namespace Ab
open PySem PySem.Spec PyProof.Rows L2
/-! the end of a law: its def runs in the claim's own surroundings, where nothing is guarded -/
/-- only the script is known of -/
def hpS (a : Addr) (o : Obj) (xs : List V) : Hp := fun b => if b = a then some (.frz o (.lst xs)) else none
end Ab
namespace Ab
open PySem PySem.Spec PyProof.Rows L2
section
variable {X : Cx} {Γ : Gam} {M : Mem} {P : Val → Mem → Prop} {e a b c o : Expr} {es : List Expr} {pos p1 p2 apos kpos : Pos} {k : AK} {d d1 d2 d3 : Val} {i j : Int} {x y m : Str} {n : Nat} {f C : Addr}
theorem av_neg (h : aV X a Γ M (.int i)) : aV X (.UnaryOp .USub a pos) Γ M (.int (-i)) := fun Hi H σ ok en Q q => by
  refine ⟨_, pe_un un_neg pe_we, ?_⟩
  refine h Hi H σ ok en _ fun x M1 v Hi1 H1 h1 s1 ok1 r1 => ?_
  obtain ⟨rfl, rfl⟩ := h1
  cases r1
  exact ⟨i, rfl, q _ _ _ Hi1 H1 ⟨rfl, rfl⟩ s1 ok1 (.int _)⟩
/-- a comprehension whose items are told by their number, and that changes nothing -/
theorem ae_lcP {tg iter elt : Expr} {scope : Scope} (own : List (Str × Nat)) {n : Nat} {it : Nat → Val} (g : Nat → Val) (hc : X.calm = true) (hN : X.N.Nodup) (ok : BlkOk X.N X.env.scope scope own)
    (hi : aI X tg iter Γ M n it (fun _ => True) (fun M' => M' = M))
    (hs : ∀ i acc D, i < n → bG X scope (own.map (·.2)) tg (it i) (wipeG Γ (own.map (·.2))) ((D, .lst acc) :: M) fun Γ2 M2 => bE X scope elt Γ2 M2 fun y M4 => y = g i ∧ M4 = (D, .lst acc) :: M)
    (hn : n ≤ 100000) (hd : P (.lst ((List.range n).map g)) M) (hf : ∀ x, foldedSetIterable iter X.env x = pure x := by intro _; rfl) :
    aE X (.ListComp elt [⟨tg, iter, [], 0⟩] scope pos) Γ M P := by
  refine ae_frz (ae_lcC (it := it) own (fun i acc M' => M' = M ∧ acc = (List.range i).map g) hc hN ok ?_ (fun _ _ _ _ _ => trivial) (fun _ _ _ => trivial) ?_ hn ?_ hf)
  · intro Hi H σ ok en R q
    exact hi Hi H σ ok en R fun J M1 Hi1 H1 h1 => q J M1 Hi1 H1 ⟨h1, rfl⟩
  · rintro i acc M' D hi' _ ⟨rfl, rfl⟩ s H C cl fp
    intro Hi1 H1 σ1 v1 ok1 en1 r1 Q1 q1
    refine hs i _ D hi' s H C cl fp Hi1 H1 σ1 v1 ok1 en1 r1 Q1 fun Γ2 M2 σ2 Hi2 H2 h2 => q1 Γ2 M2 σ2 Hi2 H2 fun s' H' C' cl' fp' => ats_nil ⟨fun _ s2 H2 C2 cl2 fp2 => (h2 s2 H2 C2 cl2 fp2).mono fun y M4 hy => ?_, fun z => nomatch z⟩
    obtain ⟨rfl, rfl⟩ := hy
    exact ⟨_, rfl, rfl, by rw [List.range_succ, List.map_append]; rfl⟩
  · rintro D acc M' ⟨rfl, rfl⟩
    exact ⟨D, _, _, rfl, rfl, hd⟩
end
end Ab
namespace Ab
open PySem PySem.Spec PyProof.Rows L2
section
variable {X : Cx} {Γ : Gam} {M : Mem} {P : Val → Mem → Prop} {e a b c o : Expr} {es : List Expr} {pos p1 p2 apos kpos : Pos} {k : AK} {d d1 d2 d3 : Val} {i j : Int} {x y m : Str} {n : Nat} {f C : Addr}
/-! ### loops whose turns are known only when what they walk has been reckoned -/
def aJ (X : Cx) (tg iter : Expr) (Γ : Gam) (M : Mem) (P : Nat → (Nat → Val) → Mem → Prop) : Prop := ∀ Hi H σ, Ok X.K Hi M H → EnvR X.K Hi Γ σ → ∀ R : It → Hp → Prop,
  (∀ J n it M1 Hi1 H1, P n it M1 → Same Hi Hi1 → Ok X.K Hi1 M1 H1 →
    Walk J n (fun H' => ∃ Hi' M', Same Hi1 Hi' ∧ Ok X.K Hi' M' H') (fun i H' v H'' => ∀ Hi' M', Same Hi1 Hi' → Ok X.K Hi' M' H' → ∃ Hi'', Same Hi' Hi'' ∧ Ok X.K Hi'' M' H'' ∧ Rep X.K Hi'' (it i) v) → R J H1) → WI X tg iter σ H R
theorem aj_ai {tg iter : Expr} {n : Nat} {it : Nat → Val} {R : Mem → Prop} {P : Nat → (Nat → Val) → Mem → Prop} (h : aI X tg iter Γ M n it (fun _ => True) R) (hp : ∀ M1, R M1 → P n it M1) : aJ X tg iter Γ M P := fun Hi H σ ok en R' q =>
  h Hi H σ ok en R' fun J M1 Hi1 H1 h1 s1 ok1 w => q J n it M1 Hi1 H1 (hp M1 h1) s1 ok1 (w.mono (fun H' ⟨Hi', M', a, b⟩ => ⟨Hi', M', a, b, trivial⟩) fun i H' v H'' _ _ hy Hi' M' a b => hy Hi' M' a b trivial)
theorem aj_range1 {tg : Expr} {P : Nat → (Nat → Val) → Mem → Prop} (hm : X.mg "range" = none) (ha : aE X a Γ M fun d M' => ∃ j : Int, d = .int j ∧ -(2 ^ 62) ≤ j ∧ j < 2 ^ 62 ∧ P j.toNat (fun i => .int (0 + i)) M') (hg : Gl X "range" := by rfl) (hs : starEach [a] X.env = [(false, eval a X.env)] := by rfl) :
    aJ X tg (.Call (.Name "range" p1) [a] [] pos) Γ M P := fun Hi H σ ok en R' q => by
  refine ⟨_, pi_range1 hg hm (pa_cons pe_we pa_nil hs) hs, ?_⟩
  refine ha Hi H σ ok en _ fun d M1 v Hi1 H1 h1 s1 ok1 r1 => ?_
  obtain ⟨j, rfl, hl, hh, hp⟩ := h1
  cases r1
  refine ⟨j, rfl, hl, hh, q _ _ _ M1 Hi1 H1 hp s1 ok1 ?_⟩
  refine walk_range.mono (fun _ _ => trivial) fun i H' v H'' hi hG hy Hi' M' s2 ok2 => ?_
  obtain ⟨rfl, rfl⟩ := hy
  exact ⟨Hi', Same.refl _, ok2, .int _⟩
theorem aj_range2 {tg : Expr} {P : Nat → (Nat → Val) → Mem → Prop} (hm : X.mg "range" = none) (ha : aA X [a, b] Γ M fun ds M' => ∃ lo hi : Int, ds = [.int lo, .int hi] ∧ (-(2 ^ 62) ≤ lo ∧ lo < 2 ^ 62 ∧ -(2 ^ 62) ≤ hi ∧ hi < 2 ^ 62) ∧ P (hi - lo).toNat (fun i => .int (lo + i)) M') (hg : Gl X "range" := by rfl)
    (hs : starEach [a, b] X.env = [(false, eval a X.env), (false, eval b X.env)] := by rfl) (hs2 : starEach [b] X.env = [(false, eval b X.env)] := by rfl) : aJ X tg (.Call (.Name "range" p1) [a, b] [] pos) Γ M P := fun Hi H σ ok en R' q => by
  refine ⟨_, pi_range2 hg hm pa_wa hs hs2, ?_⟩
  refine ha Hi H σ ok en _ fun d M1 v Hi1 H1 h1 s1 ok1 r1 => ?_
  obtain ⟨lo, hi, rfl, hb, hp⟩ := h1
  cases r1 with
  | cons r1 r2 =>
    cases r2 with
    | cons r2 r3 =>
      cases r3
      cases r1
      cases r2
      refine ⟨lo, hi, rfl, hb, q _ _ _ M1 Hi1 H1 hp s1 ok1 ?_⟩
      refine walk_range.mono (fun _ _ => trivial) fun i H' v H'' hi hG hy Hi' M' s2 ok2 => ?_
      obtain ⟨rfl, rfl⟩ := hy
      exact ⟨Hi', Same.refl _, ok2, .int _⟩
/-- a for, its invariant told behind what it walks -/
theorem as_forJ {tg iter : Expr} {body : List Stmt} (hp : PassesOwn (model X.prog X.w) X.A X.env X.xe) (hc : X.calm = true)
    (hi : aJ X tg iter Γ M fun n it M1 => ∃ I : Nat → Gam → Mem → Prop, I 0 Γ M1 ∧ (∀ i Γ M, i < n → I i Γ M → aG X tg (it i) Γ M fun Γ2 M2 => aSs X body Γ2 M2 { k with nx := I (i + 1), ct := I (i + 1), bk := k.nx }) ∧ ∀ Γ M, I n Γ M → k.nx Γ M)
    (hf : ∀ x, foldedSetIterable iter X.env x = pure x := by intro _; rfl) : aS X (.For tg iter body [] pos) Γ M k := fun Hi H σ ok en D q => by
  refine ⟨_, ps_for hp hc pi_wi pg_wg pss_wb hf, ?_⟩
  refine hi Hi H σ ok en _ fun J n it M1 Hi1 H1 h1 s1 ok1 w => ?_
  obtain ⟨I, h0, hs, hd⟩ := h1
  refine for_it w (fun i σ' H' => ∃ Γ' M' Hi', I i Γ' M' ∧ Same Hi1 Hi' ∧ Ok X.K Hi' M' H' ∧ EnvR X.K Hi' Γ' σ') ⟨Γ, M1, Hi1, h0, Same.refl _, ok1, en.mono s1⟩ ?_ ?_ ?_
  · rintro i σ' H' hi ⟨Γ', M', Hi', h2, s2, ok2, en2⟩
    exact ⟨Hi', M', s2, ok2⟩
  · rintro i v σ' H' H'' hi ⟨Γ', M', Hi', h2, s2, ok2, en2⟩ hy
    obtain ⟨Hi3, s3, ok3, r3⟩ := hy Hi' M' s2 ok2
    have s13 := (s1.trans s2).trans s3
    refine hs i Γ' M' hi h2 Hi3 H'' σ' v ok3 (en2.mono s3) r3 _ fun Γ4 M4 σ4 Hi4 H4 h4 s4 ok4 en4 => ?_
    have s24 := (s2.trans s3).trans s4
    exact h4 Hi4 H4 σ4 ok4 en4 _ ⟨fun Γ5 M5 σ5 Hi5 H5 h5 s5 ok5 en5 => ⟨Γ5, M5, Hi5, h5, s24.trans s5, ok5, en5⟩, (q.up (s13.trans s4)).rt, (q.up (s13.trans s4)).nx, fun Γ5 M5 σ5 Hi5 H5 h5 s5 ok5 en5 => ⟨Γ5, M5, Hi5, h5, s24.trans s5, ok5, en5⟩⟩
  · rintro σ' H' ⟨Γ', M', Hi', h2, s2, ok2, en2⟩
    exact q.nx Γ' M' σ' Hi' H' (hd Γ' M' h2) (s1.trans s2) ok2 en2
/-- what a comprehension must show, behind what it walks -/
abbrev LcJ (X : Cx) (scope : Scope) (vs : List Nat) (tg elt : Expr) (ifs : List Expr) (Γ : Gam) (P : Val → Mem → Prop) : Nat → (Nat → Val) → Mem → Prop := fun n it M1 => n ≤ 100000 ∧ ∃ J : Nat → List Val → Mem → Prop, J 0 [] M1 ∧
  (∀ i acc M D, i < n → acc.length ≤ i → J i acc M → bG X scope vs tg (it i) (wipeG Γ vs) ((D, .lst acc) :: M) fun Γ2 M2 => bTs X scope ifs Γ2 M2 fun b M3 =>
    (b = true → bE X scope elt Γ2 M3 fun y M4 => ∃ M5, M4 = (D, .lst acc) :: M5 ∧ J (i + 1) (acc ++ [y]) M5) ∧ (b = false → ∃ M5, M3 = (D, .lst acc) :: M5 ∧ J (i + 1) acc M5)) ∧
  ∀ D acc M, J n acc M → P (.ptr D) ((D, .lst acc) :: M)
theorem lc_readJ {tg iter elt : Expr} {ifs : List Expr} {scope : Scope} {vs : List Nat} (hi : aJ X tg iter Γ M (LcJ X scope vs tg elt ifs Γ P)) {Hi H : Hp} {σ : L2.St} (ok : Ok X.K Hi M H) (en : EnvR X.K Hi Γ σ) {Q : VK} (q : Post X.K Hi P Q) :
    tLc (WI X tg iter) (fun v σ H Q => ∀ s H' C cl fp, WG (bx X scope s H' C cl fp) tg v σ H Q) (fun σ H Q => ∀ s H' C cl fp, WTs (bx X scope s H' C cl fp) ifs σ H Q) (fun σ H Q => ∀ s H' C cl fp, WE (bx X scope s H' C cl fp) elt σ H Q) vs σ H Q := by
  refine hi Hi H σ ok en _ fun J' n it M1 Hi1 H1 h1 s1 ok1 w => ?_
  obtain ⟨hn, J, h0, hs, hd⟩ := h1
  intro D hD
  refine lc_it (g := fun v σ H Q => ∀ s H' C cl fp, WG (bx X scope s H' C cl fp) tg v σ H Q) (tt := fun σ H Q => ∀ s H' C cl fp, WTs (bx X scope s H' C cl fp) ifs σ H Q) (te := fun σ H Q => ∀ s H' C cl fp, WE (bx X scope s H' C cl fp) elt σ H Q) (vs := vs) (σ := σ) (Qd := fun H => Q (V.ref D) H)
    w (fun i H' => ∃ acc M' Hi', J i acc M' ∧ acc.length ≤ i ∧ Same Hi1 Hi' ∧ Ok X.K Hi' ((D, .lst acc) :: M') H') ⟨[], M1, Hi1, h0, Nat.le_refl _, Same.refl _, ok1.new hD ⟨[], rfl, .nil⟩⟩ ?_ ?_ ?_
  · rintro i H' hi ⟨acc, M', Hi', h2, _, s2, ok2⟩
    exact ⟨Hi', M', s2, ok2.tail⟩
  · rintro i v H' H'' hi ⟨acc, M', Hi', h2, hl, s2, ok2⟩ hy
    obtain ⟨Hi3, s3, ok3, r3⟩ := hy Hi' ((D, .lst acc) :: M') s2 ok2
    intro s0 H0 C0 cl0 fp0
    have s13 := s2.trans s3
    refine hs i acc M' D hi hl h2 s0 H0 C0 cl0 fp0 Hi3 H'' (wipe σ vs) v ok3 (env_wipe (en.mono (s1.trans s13)) vs) r3 _ fun Γ4 M4 σ4 Hi4 H4 h4 s4 ok4 en4 w4 => ⟨?_, ?_⟩
    · rw [w4]
      clear w4 en4
      have idem : ∀ (us : List Nat) (τ : L2.St), wipe (wipe τ us) us = wipe τ us := by
        intro us
        induction us with
        | nil => intro τ; rfl
        | cons u us ih =>
          intro τ
          show (wipe ((wipe τ us).set u none) us).set u none = (wipe τ us).set u none
          rw [wipe_set]
          by_cases hu : u ∈ us
          · rw [if_pos hu, ih]
          · rw [if_neg hu, ih, List.set_set]
      exact idem vs σ
    · intro s5 H5 C5 cl5 fp5
      refine h4 s5 H5 C5 cl5 fp5 Hi4 H4 σ4 ok4 en4 _ fun b M6 Hi6 H6 h6 s6 ok6 => ?_
      cases b with
      | true =>
        refine iteT fun s7 H7 C7 cl7 fp7 => ?_
        refine h6.1 rfl s7 H7 C7 cl7 fp7 Hi6 H6 σ4 ok6 (en4.mono s6) _ fun y M8 v8 Hi8 H8 h8 s8 ok8 r8 => ?_
        obtain ⟨M9, rfl, h9⟩ := h8
        obtain ⟨_, o, ho, xs, rfl, ra⟩ := ok8.ce D _ List.mem_cons_self
        refine ⟨xs, ho, ?_, ?_⟩
        · rw [← ra.length]
          exact Nat.lt_of_lt_of_le (Nat.lt_of_le_of_lt hl (Nat.lt_of_lt_of_le hi hn)) (by decide)
        · exact ⟨acc ++ [y], M9, Hi8, h9, by rw [List.length_append]; exact Nat.succ_le_succ hl, ((s13.trans s4).trans s6).trans s8, ok8.set (i := 0) rfl ⟨_, rfl, ra.append (.cons r8 .nil)⟩⟩
      | false =>
        obtain ⟨M9, rfl, h9⟩ := h6.2 rfl
        exact iteF ⟨acc, M9, Hi6, h9, Nat.le_succ_of_le hl, (s13.trans s4).trans s6, ok6⟩
  · rintro H' ⟨acc, M', Hi', h2, hl, s2, ok2⟩
    exact q _ _ _ Hi' H' (hd D acc M' h2) (s1.trans s2) ok2 (.ptr D)
theorem as_lcJ {tg iter elt : Expr} {ifs : List Expr} {scope : Scope} {py spos : Pos} (m : Nat) (own : List (Str × Nat)) (hc : X.calm = true) (hN : X.N.Nodup) (ok : BlkOk X.N X.env.scope scope own)
    (hi : aJ X tg iter Γ M (LcJ X scope (own.map (·.2)) tg elt ifs Γ fun d M' => k.nx (Γ.set m (some d)) M')) (hy : X.N[m]? = some y := by rfl) (hyl : X.env.scope.names.lookup y = some .local := by rfl)
    (hsw : swapsWith (.ListComp elt [⟨tg, iter, ifs, 0⟩] scope pos) (some (.Name y py)) spos.line X.env = pure true := by exact sw_true rfl rfl rfl (by decide +kernel))
    (hf : ∀ x, foldedSetIterable iter X.env x = pure x := by intro _; rfl) :
    aS X (.Assign [.Name y py] (.ListComp elt [⟨tg, iter, ifs, 0⟩] scope pos) spos) Γ M k := fun Hi H σ ok' en D q =>
  ⟨_, ps_setLc hc hN hy hyl hsw pi_wi ok (fun s H C cl fp => ⟨fun pins s' σ H v u Q I r h => pg_wg.run pins s' σ H v u Q I r (h _ _ _ _ _)⟩) (fun s H C cl fp => ⟨fun pins s' σ H Q I h => pts_wts.run pins s' σ H Q I (h _ _ _ _ _)⟩) (fun s H C cl fp => ⟨fun pins s' σ H Q I h => pe_we.run pins s' σ H Q I (h _ _ _ _ _)⟩) hf,
    lc_readJ hi ok' en fun d M' v Hi' H' h' s' ok2 r => q.nx _ _ _ Hi' H' h' s' ok2 ((en.mono s').set r)⟩
end
end Ab
namespace Ab
open PySem PySem.Spec PyProof.Rows L2
section
variable {X : Cx} {Γ : Gam} {M : Mem} {P : Val → Mem → Prop} {e a b c o : Expr} {es : List Expr} {pos p1 p2 apos kpos : Pos} {k : AK} {d d1 d2 d3 : Val} {i j : Int} {x y m : Str} {n : Nat} {f C : Addr}
/-! ### operands that change cells -/
def WC (X : Cx) (g : Value → Value → Sem Value) : R2 := fun x y H Q => ∃ r, OpR X g r ∧ r x y H Q
theorem op_wc {g : Value → Value → Sem Value} : OpR X g (WC X g) := fun pins s σ H x y v u Q I rx ry ⟨r, ho, h⟩ => ho pins s σ H x y v u Q I rx ry h
def BinV (X : Cx) (op : Operator) (M : Mem) (x y : Val) (P : Val → Mem → Prop) : Prop := ∃ r, OpR X (binaryOp op) r ∧ RV X r x y M P
theorem ae_bin {op : Operator} (h : aE X a Γ M fun x M1 => aE X b Γ M1 fun y M2 => BinV X op M2 x y P) : aE X (.BinOp a op b pos) Γ M P :=
  ae_op op_wc (h.mono fun x M1 h1 => h1.mono fun y M2 ⟨r, ho, hr⟩ Hi H v w ok rv rw_ Q q => ⟨r, ho, hr Hi H v w ok rv rw_ Q q⟩)
theorem bv_add (h : P (.int (i + j)) M) : BinV X .Add M (.int i) (.int j) P := ⟨_, op_add, rv_I0 (f := fun i j => .int (i + j)) (fun _ _ => .int _) h⟩
theorem bv_catL {xs ys : List Val} (h1 : Vw M d1 (.lst xs)) (h2 : Vw M d2 (.lst ys)) (hl : xs.length + ys.length ≤ sizeLine) (h : ∀ p, P (.ptr p) ((p, .lst (xs ++ ys)) :: M)) : BinV X .Add M d1 d2 P := ⟨_, op_catL, rv_catL h1 h2 hl h⟩
theorem bv_catT {xs ys : List Val} (hl : xs.length + ys.length ≤ sizeLine) (h : P (.tup (xs ++ ys)) M) : BinV X .Add M (.tup xs) (.tup ys) P := ⟨_, op_catA, rv_catT hl h⟩
theorem bv_mulI (hc : CMul i j) (h : P (.int (i * j)) M) : BinV X .Mult M (.int i) (.int j) P := ⟨_, op_mul, rv_I (f := fun i j => .int (i * j)) hc (fun _ _ => .int _) h⟩
theorem bv_repL {xs : List Val} {p : Addr} {jj : Int} {n : Nat} (hm : M[n]? = some (p, .lst xs)) (h1 : 0 ≤ jj) (h2 : jj < 2 ^ 31) (hl : xs.length * jj.toNat ≤ sizeLine) (h : ∀ q, P (.ptr q) ((q, .lst (List.replicate jj.toNat xs).flatten) :: M)) : BinV X .Mult M (.ptr p) (.int jj) P := ⟨_, op_rep, rv_repL hm h1 h2 hl h⟩
theorem at_cmpM {op : CmpOp} {P : Bool → Mem → Prop} (h : aE X a Γ M fun x M1 => aE X b Γ M1 fun y M2 => ∃ k, Cmp X op M2 x y k ∧ P k M2) (hm : behindInMarks op b = false := by first | exact nomark _ | rfl) : aT X (.Compare a [op] [b] pos) Γ M P := fun Hi H σ ok en Q q => by
  refine ⟨_, pt_cmpR op_wc pe_we pe_we hm, ?_⟩
  refine h Hi H σ ok en _ fun x M1 v Hi1 H1 h1 s1 ok1 r1 => ?_
  refine h1 Hi1 H1 σ ok1 (en.mono s1) _ fun y M2 w Hi2 H2 h2 s2 ok2 r2 => ?_
  obtain ⟨kk, ⟨r, ho, hr⟩, hp⟩ := h2
  refine ⟨r, ho, hr Hi2 H2 v w ok2 (r1.mono s2) r2 _ fun z M' v' Hi3 H3 h3 s3 ok3 r3 => ?_⟩
  obtain ⟨rfl, rfl⟩ := h3
  cases r3
  exact ⟨kk, rfl, q _ _ Hi3 H3 hp ((s1.trans s2).trans s3) ok3⟩
theorem ae_cmpM {op : CmpOp} (h : aE X a Γ M fun x M1 => aE X b Γ M1 fun y M2 => ∃ k, Cmp X op M2 x y k ∧ P (.bl k) M2) (hm : behindInMarks op b = false := by first | exact nomark _ | rfl) : aE X (.Compare a [op] [b] pos) Γ M P := fun Hi H σ ok en Q q => by
  refine ⟨_, pe_cmpR op_wc pe_we pe_we hm, ?_⟩
  refine h Hi H σ ok en _ fun x M1 v Hi1 H1 h1 s1 ok1 r1 => ?_
  refine h1 Hi1 H1 σ ok1 (en.mono s1) _ fun y M2 w Hi2 H2 h2 s2 ok2 r2 => ?_
  obtain ⟨kk, ⟨r, ho, hr⟩, hp⟩ := h2
  refine ⟨r, ho, hr Hi2 H2 v w ok2 (r1.mono s2) r2 _ fun z M' v' Hi3 H3 h3 s3 ok3 r3 => ?_⟩
  obtain ⟨rfl, rfl⟩ := h3
  exact q _ _ v' Hi3 H3 hp ((s1.trans s2).trans s3) ok3 r3
/-- xs[i] -/
theorem ae_ixM (h : aE X a Γ M fun x M1 => aE X b Γ M1 fun y M2 => ∃ i xs d, y = .int i ∧ Sq M2 x xs ∧ atI xs i = some d ∧ P d M2) (hs : PlainIx b := by exact fun _ _ => rfl) : aE X (.Subscript a b pos) Γ M P := fun Hi H σ ok en Q q => by
  refine ⟨_, pe_ix ix_seq pe_we pe_we hs, ?_⟩
  refine h Hi H σ ok en _ fun x M1 v Hi1 H1 h1 s1 ok1 r1 => ?_
  refine h1 Hi1 H1 σ ok1 (en.mono s1) _ fun y M2 w Hi2 H2 h2 s2 ok2 r2 => ?_
  obtain ⟨i, xs, d, rfl, hsq, hat, hp⟩ := h2
  cases r2
  obtain ⟨p, ys, rfl, hq, ra⟩ := hsq.rep ok2 (r1.mono s2)
  obtain ⟨z, hz, rz⟩ := rep_at ra hat
  have fin := q _ _ z Hi2 H2 hp (s1.trans s2) ok2 rz
  rcases hq with hq | hq
  · exact .inl ⟨p, ys, i, z, rfl, rfl, hq, hz, fin⟩
  · exact .inr (.inl ⟨p, ys, i, z, rfl, rfl, hq, hz, fin⟩)
/-- ints as data -/
theorem toDs_ints : ∀ ns : List Int, toDs (ns.map .int) = some (ns.map PyData.int)
  | [] => rfl
  | n :: ns => by
    rw [List.map_cons, List.map_cons]
    unfold toDs
    rw [toDs_ints ns]
    rfl
theorem toD_tup {xs : List Val} {ds : List PyData} (h : toDs xs = some ds) : toD (.tup xs) = some (.tuple ds) := by
  unfold toD
  rw [h]
  rfl
theorem toD_lst {xs : List Val} {ds : List PyData} (h : toDs xs = some ds) : toD (.lst xs) = some (.list ds) := by
  unfold toD
  rw [h]
  rfl
theorem lay_ints : ∀ ns : List Int, PyData.canLayAll0 (ns.map PyData.int) = true
  | [] => rfl
  | n :: ns => by
    rw [List.map_cons]
    unfold PyData.canLayAll0
    rw [lay_ints ns]
    rfl
theorem dep_ints : ∀ ns : List Int, PyData.depthAll (ns.map PyData.int) = 0
  | [] => rfl
  | n :: ns => by
    rw [List.map_cons]
    unfold PyData.depthAll
    rw [dep_ints ns]
    rfl
theorem shaped_tupI (ns : List Int) : SeqAt.shaped (.tuple (ns.map PyData.int)) = true := by
  unfold SeqAt.shaped PyData.canLay0 PyData.depth
  rw [lay_ints, dep_ints]
  rfl
theorem shaped_lstI (ns : List Int) : SeqAt.shaped (.list (ns.map PyData.int)) = true := by
  unfold SeqAt.shaped PyData.canLay0 PyData.depth
  rw [lay_ints, dep_ints]
  rfl
theorem eqv_ints : ∀ ns ms : List Int, PyData.eqvAll (ns.map PyData.int) (ms.map PyData.int) = decide (ns = ms)
  | [], [] => rfl
  | [], _ :: _ => rfl
  | _ :: _, [] => rfl
  | n :: ns, m :: ms => by
    rw [List.map_cons, List.map_cons]
    unfold PyData.eqvAll PyData.eqv
    rw [eqv_ints ns ms]
    by_cases h : n = m
    · subst h
      simp
    · simp [h]
/-- lists, tuples of ints compared -/
theorem cmp_eqLI {ns ms : List Int} (v1 : Vw M d1 (.lst (ns.map .int))) (v2 : Vw M d2 (.lst (ms.map .int))) (hu : X.A.units + 64 < cLine) : Cmp X .Eq M d1 d2 (decide (ns = ms)) := by
  have h := cmp_eqD v1 v2 (toD_lst (toDs_ints ns)) (toD_lst (toDs_ints ms)) (shaped_lstI ns) (shaped_lstI ms) hu
  rw [show PyData.eqv (.list (ns.map PyData.int)) (.list (ms.map PyData.int)) = decide (ns = ms) from eqv_ints ns ms] at h
  exact h
theorem cmp_neLI {ns ms : List Int} (v1 : Vw M d1 (.lst (ns.map .int))) (v2 : Vw M d2 (.lst (ms.map .int))) (hu : X.A.units + 64 < cLine) : Cmp X .NotEq M d1 d2 (!decide (ns = ms)) := by
  have h := cmp_neD v1 v2 (toD_lst (toDs_ints ns)) (toD_lst (toDs_ints ms)) (shaped_lstI ns) (shaped_lstI ms) hu
  rw [show PyData.eqv (.list (ns.map PyData.int)) (.list (ms.map PyData.int)) = decide (ns = ms) from eqv_ints ns ms] at h
  exact h
theorem cmp_eqTI {ns ms : List Int} (hu : X.A.units + 64 < cLine) : Cmp X .Eq M (.tup (ns.map .int)) (.tup (ms.map .int)) (decide (ns = ms)) := by
  have h := cmp_eqD (X := X) (M := M) (.self (.tup (ns.map .int))) (.self (.tup (ms.map .int))) (toD_tup (toDs_ints ns)) (toD_tup (toDs_ints ms)) (shaped_tupI ns) (shaped_tupI ms) hu
  rw [show PyData.eqv (.tuple (ns.map PyData.int)) (.tuple (ms.map PyData.int)) = decide (ns = ms) from eqv_ints ns ms] at h
  exact h
theorem cmp_neTI {ns ms : List Int} (hu : X.A.units + 64 < cLine) : Cmp X .NotEq M (.tup (ns.map .int)) (.tup (ms.map .int)) (!decide (ns = ms)) := by
  have h := cmp_neD (X := X) (M := M) (.self (.tup (ns.map .int))) (.self (.tup (ms.map .int))) (toD_tup (toDs_ints ns)) (toD_tup (toDs_ints ms)) (shaped_tupI ns) (shaped_tupI ms) hu
  rw [show PyData.eqv (.tuple (ns.map PyData.int)) (.tuple (ms.map PyData.int)) = decide (ns = ms) from eqv_ints ns ms] at h
  exact h
end
end Ab
namespace Ab
open PySem PySem.Spec PyProof.Rows L2
section
variable {X : Cx} {Γ : Gam} {M : Mem} {P : Val → Mem → Prop} {e a b c o : Expr} {es : List Expr} {pos p1 p2 apos kpos : Pos} {k : AK} {d d1 d2 d3 : Val} {i j : Int} {x y m : Str} {n : Nat} {f C : Addr}
/-! ### lists that are never changed, as values -/
theorem av_lst {ds : List Val} (h : aVs X es Γ M ds) (hl : ds.length ≤ sizeLine) : aV X (.List es pos) Γ M (.lst ds) := ae_lst (h.val ⟨hl, rfl, rfl⟩)
theorem av_sliceL {xs : List Val} {elo ehi : Option Expr} {lo hi : Option Int} (ha : aV X a Γ M d) (hl : aO X elo Γ M lo) (hh : aO X ehi Γ M hi) (hv : Vw M d (.lst xs)) : aV X (.Subscript a (.Slice elo ehi none p2) pos) Γ M (.lst (cutA xs lo hi)) :=
  ae_frz (ae_sliceL ha hl hh hv fun p => ⟨p, _, _, rfl, rfl, rfl, rfl⟩)
theorem av_sliceT {xs : List Val} {elo ehi : Option Expr} {lo hi : Option Int} (ha : aV X a Γ M (.tup xs)) (hl : aO X elo Γ M lo) (hh : aO X ehi Γ M hi) : aV X (.Subscript a (.Slice elo ehi none p2) pos) Γ M (.tup (cutA xs lo hi)) :=
  ae_sliceT ha hl hh ⟨rfl, rfl⟩
theorem av_catL {xs ys : List Val} (ha : aV X a Γ M d1) (hb : aV X b Γ M d2) (h1 : Vw M d1 (.lst xs)) (h2 : Vw M d2 (.lst ys)) (hl : xs.length + ys.length ≤ sizeLine) : aV X (.BinOp a .Add b pos) Γ M (.lst (xs ++ ys)) :=
  ae_frz (ae_bin (ha.val (hb.val (bv_catL h1 h2 hl fun p => ⟨p, _, _, rfl, rfl, rfl, rfl⟩))))
theorem av_catT {xs ys : List Val} (ha : aV X a Γ M (.tup xs)) (hb : aV X b Γ M (.tup ys)) (hl : xs.length + ys.length ≤ sizeLine) : aV X (.BinOp a .Add b pos) Γ M (.tup (xs ++ ys)) :=
  ae_bin (ha.val (hb.val (bv_catT hl ⟨rfl, rfl⟩)))
theorem av_tuple {xs : List Val} (hm : X.mg "tuple" = none) (ha : aV X a Γ M d) (hs : Sq M d xs) (hg : Gl X "tuple" := by rfl) (hst : starEach [a] X.env = [(false, eval a X.env)] := by rfl) : aV X (.Call (.Name "tuple" p1) [a] [] pos) Γ M (.tup xs) :=
  ae_tuple hm (ha.val ⟨xs, hs, rfl, rfl⟩) hg hst
theorem av_list {xs : List Val} (hm : X.mg "list" = none) (ha : aV X a Γ M d) (hs : Sq M d xs) (hg : Gl X "list" := by rfl) (hst : starEach [a] X.env = [(false, eval a X.env)] := by rfl) : aV X (.Call (.Name "list" p1) [a] [] pos) Γ M (.lst xs) :=
  ae_frz (ae_list hm (ha.val ⟨xs, hs, fun p => ⟨p, _, _, rfl, rfl, rfl, rfl⟩⟩) hg hst)
/-! ### slices of lists of ints -/
def cutI (g : List Int) (lo hi : Option Int) : List Int := (g.drop (HT.sIx g.length 0 lo)).take (HT.sIx g.length g.length hi - HT.sIx g.length 0 lo)
theorem cut_map {g : List Int} {lo hi : Option Int} : cutA (g.map Val.int) lo hi = (cutI g lo hi).map Val.int := by
  unfold cutA cutI
  rw [List.length_map, ← List.map_drop, ← List.map_take]
theorem cut_hi {g : List Int} {j : Int} (h0 : 0 ≤ j) (h1 : j ≤ g.length) : cutI g none (some j) = g.take j.toNat := by
  obtain ⟨n, rfl⟩ := Int.eq_ofNat_of_zero_le h0
  unfold cutI
  rw [HT.sIx_nat, HT.sIx_none, List.drop_zero, Nat.sub_zero, Nat.min_eq_left (by omega), Int.toNat_natCast]
end
end Ab
namespace Ab
open PySem PySem.Spec PyProof.Rows L2
section
variable {X : Cx} {Γ : Gam} {M : Mem} {P : Val → Mem → Prop} {e a b c o : Expr} {es : List Expr} {pos p1 p2 apos kpos : Pos} {k : AK} {d d1 d2 d3 : Val} {i j : Int} {x y m : Str} {n : Nat} {f C : Addr}
/-- a cell of the expression's own is forgotten -/
theorem ae_dropc (h : aE X e Γ M fun d M' => ∃ c M'', M' = c :: M'' ∧ P d M'') : aE X e Γ M P := fun Hi H σ ok en Q q => by
  refine h Hi H σ ok en _ fun d M1 v Hi1 H1 h1 s1 ok1 r1 => ?_
  obtain ⟨c, M2, rfl, hp⟩ := h1
  exact q _ _ _ Hi1 H1 hp s1 (Ok.tail (p := c.1) (c := c.2) ok1) r1
/-- an instance that will change no more -/
theorem ae_frzO (h : aE X e Γ M fun d M' => ∃ p C fs M'', d = .ptr p ∧ M' = (p, .ins C fs) :: M'' ∧ P (.obj C fs) M'') : aE X e Γ M P := fun Hi H σ ok en Q q => by
  refine h Hi H σ ok en _ fun d M1 v Hi1 H1 h1 s1 ok1 r1 => ?_
  obtain ⟨p, C, fs, M2, rfl, rfl, hp⟩ := h1
  obtain ⟨e0, o, ho, dx, gs, rfl, ra⟩ := ok1.ce p _ List.mem_cons_self
  cases r1
  have s2 := same_upd (o := .ins C dx gs) e0
  exact q _ _ _ _ _ hp (s1.trans s2) (ok1.freeze ho) (.obj upd_same (ra.mono s2))
/-- [x, ..] * n -/
theorem av_repL {ds : List Val} (h : aVs X es Γ M ds) (hl : ds.length ≤ sizeLine) (hb : ∀ M', aV X b Γ M' (.int j)) (h1 : 0 ≤ j) (h2 : j < 2 ^ 31) (hl2 : ds.length * j.toNat ≤ sizeLine) : aV X (.BinOp (.List es p1) .Mult b pos) Γ M (.lst (List.replicate j.toNat ds).flatten) :=
  ae_dropc (ae_frz (ae_bin (ae_lstC (h.val ⟨hl, fun q => (hb _).val (bv_repL (n := 0) rfl h1 h2 hl2 fun z => ⟨z, _, _, rfl, rfl, _, _, rfl, rfl, rfl⟩)⟩))))
/-! ### ints are shown -/
end
end Ab
namespace Ab
open PySem PySem.Spec PyProof.Rows L2
/-! defs out of the head's facts -/
section
variable {P : Program} {w : World} {K : PySem.W.Frag} {mg : Str → Option Value} {base : Heap} {x qual : Str} {st : Stmt} {f : Addr} {oc : Value} {od an : Option Addr} {osl : Array (Option Value)} {kV doc pm cdv ct : Value} {fd : FuncData}
theorem fd_mk (l : K.lookup f = some ⟨oc, od, .func (PySem.W.fnOf x qual (defArgs st) (defBody st) (defScope st) .none kV doc pm an cdv ct), osl⟩)
    (c : PySem.W.codeIn K cdv qual = true) (k : PySem.W.keepIn K (.ref f) = true) : FunD K x qual (defArgs st) (defBody st) (defScope st) [] [] f (PySem.W.fnOf x qual (defArgs st) (defBody st) (defScope st) .none kV doc pm an cdv ct) :=
  fun_d (fun_mk l c k)
/-- two keyword-only defaults -/
theorem fd_kw2 {D : Addr} {k1 k2 : Str} {v1 v2 : V} {u1 u2 : Value} (l : K.lookup f = some ⟨oc, od, .func (PySem.W.fnOf x qual (defArgs st) (defBody st) (defScope st) .none (.ref D) doc pm an cdv ct), osl⟩)
    (c : PySem.W.codeIn K cdv qual = true) (k : PySem.W.keepIn K (.ref f) = true) (n1 : PySem.W.nsIn K D k1 = some (some u1)) (n2 : PySem.W.nsIn K D k2 = some (some u2)) (r1 : RelV v1 u1) (r2 : RelV v2 u2) :
    FunD K x qual (defArgs st) (defBody st) (defScope st) [] [(k1, v1), (k2, v2)] f (PySem.W.fnOf x qual (defArgs st) (defBody st) (defScope st) .none (.ref D) doc pm an cdv ct) :=
  ⟨⟨oc, od, .none, .ref D, doc, pm, an, cdv, ct, osl, rfl, l, c, .inl ⟨rfl, rfl⟩, .inr ⟨D, rfl, fun q hq => by
    rcases List.mem_cons.mp hq with e | hq
    · subst e
      exact ⟨u1, n1, r1⟩
    · rcases List.mem_cons.mp hq with e | hq
      · subst e
        exact ⟨u2, n2, r2⟩
      · cases hq⟩⟩, k⟩
/-- a def called by positions and keywords, every parameter written -/
theorem kbn_kw {params : Arguments} {body : List Stmt} {sc : Scope} {kws : List (Str × V)} {ps ks : List Str} {n : Nat} (F : FunD K x qual params body sc [] kws f fd)
    (h : ∀ (kV doc pm : Value) (an : Option Addr) (cdv ct : Value) (us ws : List Value), us.length = n → ws.length = ks.length → bindArgs (PySem.W.fnOf x qual params body sc .none kV doc pm an cdv ct) ⟨us, ks.zip ws⟩ = pure (ps.zip (us ++ ws))) :
    KBn K fd ps n ks (fun us ws => us ++ ws) (fun vs zs => vs ++ zs) := by
  obtain ⟨oc, od, dV, kV, doc, pm, an, cdv, ct, osl, rfl, lk, hcd, hD, _⟩ := F.ex
  obtain ⟨_, rfl⟩ : ([] : List V) = [] ∧ dV = .none := by
    rcases hD with h | ⟨e, _⟩
    · exact h
    · exact absurd rfl e
  exact ⟨fun s us ws _ h1 h2 => .of_eq (h kV doc pm an cdv ct us ws h1 h2), fun r1 r2 => r1.append r2⟩
/-- .. and its promise -/
theorem fnx_kw {params : Arguments} {body : List Stmt} {sc : Scope} {kws : List (Str × V)} {N ps ks : List Str} {k n : Nat} {s0 : ASp} (F : FunD K x qual params body sc [] kws f fd) (S : FnScope N ps sc)
    (h : ∀ (kV doc pm : Value) (an : Option Addr) (cdv ct : Value) (us ws : List Value), us.length = n → ws.length = ks.length → bindArgs (PySem.W.fnOf x qual params body sc .none kV doc pm an cdv ct) ⟨us, ks.zip ws⟩ = pure (ps.zip (us ++ ws)))
    (len : ∀ ds M R, s0 ds M R → ds.length = ps.length) (hb : BodyOk P w K mg base k f N qual sc body s0) : FnX P w K mg base (k + 1) f ks (spX K fun ds es M R => ds.length = n ∧ s0 (ds ++ es) M R) :=
  fnx_kbn (fun ds es => ds ++ es) F S (kbn_kw F h) (fun H ds vs es zs r1 r2 _ _ => r1.append r2) len hb
/-- .. by positions alone -/
theorem fnx_pos' {params : Arguments} {body : List Stmt} {sc : Scope} {kws : List (Str × V)} {N ps : List Str} {k : Nat} {s0 : ASp} (F : FunD K x qual params body sc [] kws f fd) (S : FnScope N ps sc)
    (h : ∀ (kV doc pm : Value) (an : Option Addr) (cdv ct : Value) (us : List Value), us.length = ps.length → bindArgs (PySem.W.fnOf x qual params body sc .none kV doc pm an cdv ct) ⟨us, []⟩ = pure (ps.zip us))
    (len : ∀ ds M R, s0 ds M R → ds.length = ps.length) (hb : BodyOk P w K mg base k f N qual sc body s0) : FnX P w K mg base (k + 1) f [] (spX K fun ds _ => s0 ds) := by
  have F1 := fnx_kbn (n := ps.length) (ks := []) (fun ds _ => ds) F S (g := fun us _ => us) (gV := fun vs _ => vs) (by
    obtain ⟨oc, od, dV, kV, doc, pm, an, cdv, ct, osl, rfl, lk, hcd, hD, _⟩ := F.ex
    obtain ⟨_, rfl⟩ : ([] : List V) = [] ∧ dV = .none := by
      rcases hD with h | ⟨e, _⟩
      · exact h
      · exact absurd rfl e
    refine ⟨fun s us ws _ h1 h2 => .of_eq ?_, fun r1 _ => r1⟩
    obtain rfl := List.length_eq_zero_iff.mp h2
    exact h kV doc pm an cdv ct us h1) (fun H ds vs es zs r _ _ _ => r) len hb
  exact ⟨fun A outer s H us ws vs zs Q hr e0 r rz hz ⟨Hi, M, ds, es, R, ra, re, ok, hs, q⟩ => F1.run A outer s H us ws vs zs Q hr e0 r rz hz ⟨Hi, M, ds, es, R, ra, re, ok, ⟨len _ _ _ hs, hs⟩, q⟩⟩
end
end Ab
namespace Ab
open PySem PySem.Spec PyProof.Rows L2 Builtin
/-! ### == and != of instances by their own __eq__ -/
end Ab
namespace Ab
open PySem PySem.Spec PyProof.Rows L2
/-- == of the class at C by the def at f: what it answers of the fields -/
structure OwnE (P : Program) (w : World) (K : PySem.W.Frag) (mg : Str → Option Value) (base : Heap) (n : Nat) (C f : Addr) (good : List (Str × Val) → Prop) (rel : List (Str × Val) → List (Str × Val) → Bool) : Prop where
  fx : FnX P w K mg base n f [] (spX K fun ds _ M R => ∃ fs gs, ds = [.obj C fs, .obj C gs] ∧ good fs ∧ good gs ∧ R (.bl (rel fs gs)) M)
  at_ : PySem.W.findIn K (.ref C) "__eq__" = some (some (.ref f))
  fn : PySem.W.isFn K (.ref f) = true
  ne : PySem.W.findIn K (.ref C) "__ne__" = some (some (.builtin "object.__ne__"))
  ob : PySem.W.subIn K (.ref C) (.type "object") = some true
end Ab
namespace Ab
open PySem PySem.Spec PyProof.Rows L2
open AutoSeq1 (wpAny_loadPart')
open PySem.SeqAt MeetsSeq MeetsSeq2 MeetsSeq3 SeqRoads2
/-! ### lists whose items are equal: == and != (neg) -/
section
variable {prog : Program} {w : World} {A : Around} {R : Result → Shared → Prop} {a b : Addr} {n : Nat} {J : Nat → Shared → Prop}
/-- at each turn: the two lists, n items each; the i-th two are equal -/
def Pairs (prog : Program) (w : World) (A : Around) (E : Value → Shared → Prop) (a b : Addr) (n : Nat) (J : Nat → Shared → Prop) : Prop :=
  ∀ i s, J i s → ∃ (xs ys : Array Value) (k1 k2 : Nat) (d1 d2 : Option Addr) (l1 l2 : Array (Option Value)), s.heap.get? a = some { cls := .type "list", dict := d1, data := .seq xs k1, slots := l1 } ∧ s.heap.get? b = some { cls := .type "list", dict := d2, data := .seq ys k2, slots := l2 } ∧ xs.size = n ∧ ys.size = n ∧
    ∀ (h1 : i < xs.size) (h2 : i < ys.size), wpAny (model prog w) A.in1 (eqBool xs[i] ys[i]) (fun r s' => r = true ∧ J (i + 1) s') E s
end
/-! ### items by their own == -/
def DV (K : PySem.W.Frag) (ed : Val → Val → Prop) : Eqv := fun x y H => ∃ d e, Rep K H d x ∧ Rep K H e y ∧ ed d e
theorem DV.mono {K : PySem.W.Frag} {ed : Val → Val → Prop} {x y : V} {H H' : Hp} (s : Same H H') (h : DV K ed x y H) : DV K ed x y H' := by
  obtain ⟨d, e, r1, r2, h⟩ := h
  exact ⟨d, e, r1.mono s, r2.mono s, h⟩
end Ab
namespace Ab
open PySem PySem.Spec PyProof.Rows L2
section
variable {X : Cx} {Γ : Gam} {M : Mem} {P : Val → Mem → Prop} {e a b c o : Expr} {es : List Expr} {pos p1 p2 apos kpos : Pos} {k : AK} {d d1 d2 d3 : Val} {i j : Int} {x y m : Str} {n : Nat} {f C : Addr}
/-- a global name that holds an int -/
theorem av_gint {t : Tok} (hm : X.mg x = some (.int i t)) (hg : Gl X x := by rfl) (hd : (x == ("__debug__" : Str)) = false := by decide) : aV X (.Name x pos) Γ M (.int i) := fun Hi H σ ok en Q q =>
  ⟨fun σ H Q => Q (.int i) H, ⟨fun pins s σ H Q I h => ld_glob I hg hm ⟨.int i, H, I, ⟨t, rfl⟩, h⟩ hd⟩, q _ _ _ Hi H ⟨rfl, rfl⟩ (Same.refl _) ok (.int i)⟩
/-- max, min of a list of ints -/
theorem ae_maxL (hm : X.mg "max" = none) (hc : X.calm = true) (ha : aE X a Γ M fun d M' => ∃ ns : List Int, Vw M' d (.lst (ns.map .int)) ∧ 0 < ns.length ∧ ∀ m, m ∈ ns → (∀ y, y ∈ ns → y ≤ m) → P (.int m) M') (hg : Gl X "max" := by rfl) (hst : starEach [a] X.env = [(false, eval a X.env)] := by rfl) : aE X (.Call (.Name "max" p1) [a] [] pos) Γ M P :=
  ae_callB (cr_max hc) hm (by decide +kernel) (aa_cons (ha.mono fun d M' ⟨ns, hv, hl, h⟩ => aa_nil fun Hi H vs ok r Q q => by
    cases r with
    | cons r1 r2 =>
      cases r2
      obtain ⟨p, ys, rfl, hq, ra⟩ := hv.repL ok r1
      obtain rfl := ra.ints
      exact ⟨p, ns, rfl, hq, hl, fun m h1 h2 => q _ _ _ Hi H (h m h1 h2) (Same.refl _) ok (.int _)⟩) hst) hg (he := hst) (hpl := rfl)
/-- t * n -/
theorem av_repT {xs : List Val} (ha : aV X a Γ M (.tup xs)) (hb : aV X b Γ M (.int j)) (hx : xs ≠ []) (h1 : 2 ≤ j) (h2 : j ≤ 1000) (hl : xs.length ≤ 1000) : aV X (.BinOp a .Mult b pos) Γ M (.tup (List.replicate j.toNat xs).flatten) :=
  av_op op_repT ha hb fun Hi H v w ok rv rw_ Q q => by
    cases rw_
    cases rv with
    | @tup p ys _ hq ra =>
      have rep : ∀ m : Nat, RepA X.K Hi (List.replicate m xs).flatten (List.replicate m ys).flatten := by
        intro m
        induction m with
        | zero => exact .nil
        | succ m ih =>
          rw [List.replicate_succ, List.replicate_succ, List.flatten_cons, List.flatten_cons]
          exact ra.append ih
      refine ⟨p, j, ys, rfl, rfl, sameT ok.im hq, fun z => hx ?_, h1, h2, by rw [← ra.length]; exact hl, fun l hl => ?_⟩
      · subst z
        cases ra
        rfl
      · have s2 := same_upd (o := .tup (List.replicate j.toNat ys).flatten) (ok.none hl)
        exact q _ _ _ _ _ ⟨rfl, rfl⟩ s2 (ok.imm hl) (.tup (SqT.of upd_same) ((rep _).mono s2))
/-- int(True), int(False) -/
theorem av_intB {bb : Bool} (hm : X.mg "int" = none) (ha : aV X a Γ M (.bl bb)) (hg : Gl X "int" := by rfl) (hst : starEach [a] X.env = [(false, eval a X.env)] := by rfl) : aV X (.Call (.Name "int" p1) [a] [] pos) Γ M (.int (if bb then 1 else 0)) :=
  ae_callTy call_int1 hm (by decide +kernel) (aa_cons (ha.val (aa_nil fun Hi H vs ok r Q q => by
    cases r with
    | cons r1 r2 =>
      cases r2
      cases r1
      exact .inr ⟨bb, rfl, q _ _ _ Hi H ⟨rfl, rfl⟩ (Same.refl _) ok (.int _)⟩)) hst) hg (he := hst) (hpl := rfl)
end
/-! ### def f( *v) -/
section
variable {P : Program} {w : World} {K : PySem.W.Frag} {mg : Str → Option Value} {base : Heap}
/-- positional defaults fill up -/
theorem fnx_dfl {x qual : Str} {params : Arguments} {body : List Stmt} {sc : Scope} {dvs : List V} {kws : List (Str × V)} {f : Addr} {fd : FuncData} {N ps : List Str} {k n : Nat} {s0 : ASp} (F : FunD K x qual params body sc dvs kws f fd) (S : FnScope N ps sc) (hd : dvs ≠ []) (dd : List Val) (hdd : ∀ H, RepA K H dd dvs)
    (h : ∀ (T : Addr) (kV doc pm : Value) (an : Option Addr) (cdv ct : Value) (us its : List Value), us.length = n → its.length = dvs.length →
      ∃ k, bindArgs (PySem.W.fnOf x qual params body sc (.ref T) kV doc pm an cdv ct) ⟨us, []⟩ = seqItems? (.ref T) >>= k ∧ k (some its.toArray) = pure (ps.zip (us ++ its)))
    (len : ∀ ds M R, s0 ds M R → ds.length = ps.length) (hb : BodyOk P w K mg base k f N qual sc body s0) : FnX P w K mg base (k + 1) f [] (spX K fun ds _ M R => ds.length = n ∧ s0 (ds ++ dd) M R) := by
  obtain ⟨oc, od, dV, kV, doc, pm, an, cdv, ct, osl, e, lk, hcd, hD, hK⟩ := F.ex
  rcases hD with ⟨e, _⟩ | ⟨_, T, o, its, m, e2, lT, oT, rT⟩
  · exact absurd e hd
  · subst e2
    subst e
    have l1 : its.length = dvs.length := rT.length.symm
    refine fnx_kbn (n := n) (ks := []) (fun ds _ => ds ++ dd) F S (g := fun us _ => us ++ its) (gV := fun vs _ => vs ++ dvs) ⟨fun s us ws X l2 h2 => ?_, fun r1 _ => r1.append rT⟩ (fun H ds vs es zs r _ _ _ => r.append (hdd H)) len hb
    obtain rfl := List.length_eq_zero_iff.mp h2
    obtain ⟨k', e1, e2⟩ := h T kV doc pm an cdv ct us its l2 l1
    refine BindsTo.of_looks fun M => ?_
    show PySem.W.Looks M s.heap (bindArgs _ ⟨us, []⟩) _
    rw [e1]
    exact looks_items X lT oT (.of_pure e2)
end
end Ab
/-! streams: a front and a loop; the normal form is one -/
namespace Sm
abbrev Stm := List Int × List Int
def lp (l : List Int) (i : Nat) : Int := l.getD (i % l.length) 0
def item (s : Stm) (i : Nat) : Int := if i < s.1.length then s.1.getD i 0 else lp s.2 (i - s.1.length)
theorem gd_eq {l : List Int} {i : Nat} (h : i < l.length) : l.getD i 0 = l[i] := by
  rw [List.getD_eq_getElem?_getD, List.getElem?_eq_getElem h]
  rfl
theorem ext_gd {l m : List Int} (hl : l.length = m.length) (h : ∀ i, i < l.length → l.getD i 0 = m.getD i 0) : l = m := by
  apply List.ext_getElem hl
  intro i h1 h2
  have := h i h1
  rwa [gd_eq h1, gd_eq h2] at this
theorem lp_add {l : List Int} (i : Nat) : lp l (i + l.length) = lp l i := by
  unfold lp
  rw [Nat.add_mod_right]
theorem lp_lt {l : List Int} {i : Nat} (h : i < l.length) : lp l i = l.getD i 0 := by
  unfold lp
  rw [Nat.mod_eq_of_lt h]
/-! ### periods -/
theorem per_mul {h : Nat → Int} {p : Nat} (hp : ∀ i, h (i + p) = h i) : ∀ (k i : Nat), h (i + p * k) = h i
  | 0, i => by rw [Nat.mul_zero, Nat.add_zero]
  | k + 1, i => by
    rw [Nat.mul_succ, ← Nat.add_assoc, hp, per_mul hp k]
theorem per_mod {h : Nat → Int} {p : Nat} (hp : ∀ i, h (i + p) = h i) (i : Nat) : h (i % p) = h i := by
  have := per_mul hp (i / p) (i % p)
  rw [Nat.mod_add_div] at this
  exact this.symm
theorem per_gcd {h : Nat → Int} (p q : Nat) (hp : ∀ i, h (i + p) = h i) (hq : ∀ i, h (i + q) = h i) : ∀ i, h (i + Nat.gcd p q) = h i := by
  induction p, q using Nat.gcd.induction with
  | H0 q => rw [Nat.gcd_zero_left]; exact hq
  | H1 m n hm ih =>
    rw [Nat.gcd_rec]
    refine ih (fun i => ?_) hp
    have e := per_mul hp (n / m) (i + n % m)
    rw [Nat.add_assoc, Nat.mod_add_div] at e
    rw [← e]
    exact hq i
/-- no smaller period that divides the length -/
def prim (l : List Int) : Prop := ∀ p, 0 < p → p < l.length → p ∣ l.length → ¬ ∀ i, lp l (i + p) = lp l i
def last0 (l : List Int) : Int := l.getD (l.length - 1) 0
structure NF (s : Stm) : Prop where
  ne : s.2 ≠ []
  pr : prim s.2
  fr : s.1 = [] ∨ last0 s.1 ≠ last0 s.2
theorem prim_per {l : List Int} (hn : l ≠ []) (hp : prim l) {d : Nat} (h0 : 0 < d) (hd : d ∣ l.length) (h : ∀ i, lp l (i + d) = lp l i) : d = l.length := by
  have hl : 0 < l.length := List.length_pos_iff.mpr hn
  have := Nat.le_of_dvd hl hd
  rcases Nat.lt_or_ge d l.length with h1 | h1
  · exact absurd h (hp d h0 h1 hd)
  · omega
theorem item_ge {s : Stm} {i : Nat} (h : s.1.length ≤ i) : item s i = lp s.2 (i - s.1.length) := by
  unfold item
  rw [if_neg (by omega)]
theorem item_lt {s : Stm} {i : Nat} (h : i < s.1.length) : item s i = s.1.getD i 0 := by
  unfold item
  rw [if_pos h]
theorem uniq_le {s t : Stm} (hs : NF s) (ht : NF t) (h : ∀ i, item s i = item t i) (hle : s.1.length ≤ t.1.length) : s = t := by
  have ps : 0 < s.2.length := List.length_pos_iff.mpr hs.ne
  have pt : 0 < t.2.length := List.length_pos_iff.mpr ht.ne
  generalize hc : t.1.length - s.1.length = c
  -- behind t's front
  have hh : ∀ i, lp s.2 (i + c) = lp t.2 i := fun i => by
    have := h (i + t.1.length)
    rw [item_ge (by omega), item_ge (by omega)] at this
    rw [show i + t.1.length - s.1.length = i + c by omega, Nat.add_sub_cancel] at this
    exact this
  have per1 : ∀ i, lp t.2 (i + s.2.length) = lp t.2 i := fun i => by
    rw [← hh, ← hh, show i + s.2.length + c = i + c + s.2.length by omega, lp_add]
  have d1 := per_gcd _ _ per1 (fun i => lp_add (l := t.2) i)
  have dpos : 0 < Nat.gcd s.2.length t.2.length := Nat.gcd_pos_of_pos_left _ ps
  have e1 := prim_per ht.ne ht.pr dpos (Nat.gcd_dvd_right _ _) d1
  have d2 : ∀ i, lp s.2 (i + Nat.gcd s.2.length t.2.length) = lp s.2 i := fun i => by
    have k : ∀ j, lp s.2 j = lp t.2 (j + s.2.length * c - c) := fun j => by
      have hc' : c ≤ s.2.length * c := Nat.le_mul_of_pos_left _ ps
      rw [← hh, show j + s.2.length * c - c + c = j + s.2.length * c by omega]
      exact (per_mul (fun i => lp_add (l := s.2) i) c j).symm
    have hc' : c ≤ s.2.length * c := Nat.le_mul_of_pos_left _ ps
    rw [k, k, show i + Nat.gcd s.2.length t.2.length + s.2.length * c - c = (i + s.2.length * c - c) + Nat.gcd s.2.length t.2.length by omega, d1]
  have e2 := prim_per hs.ne hs.pr dpos (Nat.gcd_dvd_left _ _) d2
  have hpq : s.2.length = t.2.length := e2.symm.trans e1
  have hc0 : c = 0 := by
    rcases Nat.eq_zero_or_pos c with z | z
    · exact z
    · exfalso
      have hN : 0 < t.1.length := by omega
      rcases ht.fr with q | q
      · rw [q] at hN
        exact absurd hN (by simp)
      · refine q ?_
        have a1 := h (t.1.length - 1)
        rw [item_ge (by omega), item_lt (by omega)] at a1
        have a2 := hh (t.2.length - 1)
        rw [show t.2.length - 1 + c = (c - 1) + s.2.length by omega, lp_add, lp_lt (l := t.2) (by omega)] at a2
        rw [show t.1.length - 1 - s.1.length = c - 1 by omega] at a1
        show t.1.getD (t.1.length - 1) 0 = t.2.getD (t.2.length - 1) 0
        rw [← a1, ← a2]
  have hl : s.1.length = t.1.length := by omega
  have f1 : s.1 = t.1 := ext_gd hl fun i hi => by
    have := h i
    rwa [item_lt hi, item_lt (hl ▸ hi)] at this
  have f2 : s.2 = t.2 := ext_gd hpq fun i hi => by
    have := hh i
    rw [hc0, Nat.add_zero, lp_lt hi, lp_lt (hpq ▸ hi)] at this
    exact this
  exact Prod.ext f1 f2
theorem uniq {s t : Stm} (hs : NF s) (ht : NF t) (h : ∀ i, item s i = item t i) : s = t := by
  rcases Nat.le_total s.1.length t.1.length with q | q
  · exact uniq_le hs ht h q
  · exact (uniq_le ht hs (fun i => (h i).symm) q).symm
/-! ### the program's way there -/
def cyc (t : List Int) (m : Nat) : List Int := (List.replicate m t).flatten
theorem cyc_succ (t : List Int) (m : Nat) : cyc t (m + 1) = t ++ cyc t m := by
  unfold cyc
  rw [List.replicate_succ, List.flatten_cons]
theorem cyc_len (t : List Int) : ∀ m, (cyc t m).length = m * t.length
  | 0 => by simp [cyc]
  | m + 1 => by
    rw [cyc_succ, List.length_append, cyc_len t m, Nat.succ_mul, Nat.add_comm]
theorem cyc_get (t : List Int) : ∀ (m i : Nat), i < m * t.length → (cyc t m).getD i 0 = lp t i
  | 0, i, h => by simp at h
  | m + 1, i, h => by
    rw [cyc_succ, List.getD_eq_getElem?_getD]
    by_cases hi : i < t.length
    · rw [List.getElem?_append_left hi, lp_lt hi, List.getD_eq_getElem?_getD]
    · have hi' : t.length ≤ i := by omega
      rw [List.getElem?_append_right hi', ← List.getD_eq_getElem?_getD, cyc_get t m (i - t.length) (by rw [Nat.succ_mul] at h; omega)]
      have := lp_add (l := t) (i - t.length)
      rw [Nat.sub_add_cancel hi'] at this
      exact this.symm
/-- the loop is its first p items over and over -/
def isRep (l : List Int) (p : Nat) : Bool := decide (l.length % p = 0) && decide (l = cyc (l.take p) (l.length / p))
def slFrom (l : List Int) : Nat → Nat → List Int
  | 0, _ => l
  | c + 1, p => if isRep l p = true then l.take p else slFrom l c (p + 1)
def sloop (l : List Int) : List Int := slFrom l (l.length - 1) 1
theorem take_len {l : List Int} {p : Nat} (h : p ≤ l.length) : (l.take p).length = p := by rw [List.length_take]; omega
theorem isRep_iff {l : List Int} {p : Nat} (h0 : 0 < p) (h1 : p < l.length) : isRep l p = true ↔ p ∣ l.length ∧ ∀ i, lp l (i + p) = lp l i := by
  unfold isRep
  rw [Bool.and_eq_true, decide_eq_true_iff, decide_eq_true_iff, ← Nat.dvd_iff_mod_eq_zero]
  have tl := take_len (Nat.le_of_lt h1)
  refine ⟨fun ⟨hd, he⟩ => ⟨hd, ?_⟩, fun ⟨hd, hp⟩ => ⟨hd, ?_⟩⟩
  · have hm : l.length / p * p = l.length := Nat.div_mul_cancel hd
    have g : ∀ i, i < l.length → l.getD i 0 = lp (l.take p) i := fun i hi => by
      have := cyc_get (l.take p) (l.length / p) i (by rw [tl, hm]; exact hi)
      rw [← he] at this
      exact this
    have g2 : ∀ i, lp l i = lp (l.take p) i := fun i => by
      unfold lp
      have hl : 0 < l.length := by omega
      have hi := Nat.mod_lt i hl
      have := g _ hi
      unfold lp at this
      rw [this, tl, Nat.mod_mod_of_dvd _ hd]
    intro i
    rw [g2, g2]
    have := lp_add (l := l.take p) i
    rw [tl] at this
    exact this
  · have hm : l.length / p * p = l.length := Nat.div_mul_cancel hd
    refine ext_gd (by rw [cyc_len, tl, hm]) fun i hi => ?_
    rw [cyc_get _ _ _ (by rw [tl, hm]; exact hi)]
    have := per_mod hp i
    rw [lp_lt hi, lp_lt (Nat.lt_trans (Nat.mod_lt i h0) h1)] at this
    rw [← this]
    unfold lp
    rw [tl, List.getD_eq_getElem?_getD, List.getD_eq_getElem?_getD, List.getElem?_take_of_lt (Nat.mod_lt i h0)]
theorem lp_take {l : List Int} {p : Nat} (h0 : 0 < p) (h1 : p < l.length) (hp : ∀ i, lp l (i + p) = lp l i) (i : Nat) : lp (l.take p) i = lp l i := by
  have tl := take_len (Nat.le_of_lt h1)
  have hm := Nat.mod_lt i h0
  rw [← per_mod hp i, lp_lt (Nat.lt_trans hm h1)]
  unfold lp
  rw [tl, List.getD_eq_getElem?_getD, List.getD_eq_getElem?_getD, List.getElem?_take_of_lt hm]
/-- what the search has behind it -/
theorem slFrom_spec {l : List Int} (hn : l ≠ []) : ∀ (c p : Nat), 0 < p → c + p = l.length → (∀ q, 0 < q → q < p → q ∣ l.length → ¬ ∀ i, lp l (i + q) = lp l i) →
    slFrom l c p ≠ [] ∧ prim (slFrom l c p) ∧ (∀ i, lp (slFrom l c p) i = lp l i) ∧ (slFrom l c p).length ≤ l.length ∧ ∀ v ∈ slFrom l c p, v ∈ l
  | 0, p, h0, hc, hb => by
    refine ⟨hn, fun q q0 q1 => hb q q0 ?_, fun _ => rfl, Nat.le_refl _, fun v h => h⟩
    have : slFrom l 0 p = l := rfl
    rw [this] at q1
    omega
  | c + 1, p, h0, hc, hb => by
    unfold slFrom
    have h1 : p < l.length := by omega
    by_cases hr : isRep l p = true
    · rw [if_pos hr]
      obtain ⟨hd, hp⟩ := (isRep_iff h0 h1).mp hr
      have tl := take_len (Nat.le_of_lt h1)
      refine ⟨fun z => ?_, fun q q0 q1 qd hq => ?_, lp_take h0 h1 hp, by omega, fun v hv => List.mem_of_mem_take hv⟩
      · rw [z] at tl
        simp at tl
        omega
      · rw [tl] at q1 qd
        refine hb q q0 q1 (Nat.dvd_trans qd hd) fun i => ?_
        have := hq i
        rwa [lp_take h0 h1 hp, lp_take h0 h1 hp] at this
    · rw [if_neg hr]
      refine slFrom_spec hn c (p + 1) (by omega) (by omega) fun q q0 q1 qd hq => ?_
      rcases Nat.lt_or_ge q p with z | z
      · exact hb q q0 z qd hq
      · have : q = p := by omega
        subst this
        exact hr ((isRep_iff h0 h1).mpr ⟨qd, hq⟩)
theorem sloop_spec {l : List Int} (hn : l ≠ []) : sloop l ≠ [] ∧ prim (sloop l) ∧ (∀ i, lp (sloop l) i = lp l i) ∧ (sloop l).length ≤ l.length ∧ ∀ v ∈ sloop l, v ∈ l := by
  have hl : 0 < l.length := List.length_pos_iff.mpr hn
  exact slFrom_spec hn _ _ (by decide) (by omega) fun q q0 q1 => by omega
def rotR (l : List Int) : List Int := last0 l :: l.dropLast
def nfGo : Nat → List Int → List Int → Stm
  | 0, f, l => (f, l)
  | c + 1, f, l => if f ≠ [] ∧ last0 f = last0 l then nfGo c f.dropLast (rotR l) else (f, l)
def nf (s : Stm) : Stm := nfGo s.1.length s.1 (sloop s.2)
theorem rot_len {l : List Int} (hn : l ≠ []) : (rotR l).length = l.length := by
  have hl : 0 < l.length := List.length_pos_iff.mpr hn
  unfold rotR
  rw [List.length_cons, List.length_dropLast]
  omega
theorem last_mem {l : List Int} (hn : l ≠ []) : last0 l ∈ l := by
  have hl : 0 < l.length := List.length_pos_iff.mpr hn
  unfold last0
  rw [gd_eq (by omega)]
  exact List.getElem_mem _
theorem mem_dl {l : List Int} {v : Int} (h : v ∈ l.dropLast) : v ∈ l := by
  rw [List.dropLast_eq_take] at h
  exact List.mem_of_mem_take h
theorem rot_mem {l : List Int} (hn : l ≠ []) {v : Int} (h : v ∈ rotR l) : v ∈ l := by
  rcases List.mem_cons.mp h with rfl | h
  · exact last_mem hn
  · exact mem_dl h
theorem gd_dropLast {l : List Int} {i : Nat} (h : i < l.length - 1) : l.dropLast.getD i 0 = l.getD i 0 := by
  rw [gd_eq (by rw [List.length_dropLast]; exact h), gd_eq (by omega), List.getElem_dropLast]
theorem rot_lp {l : List Int} (hn : l ≠ []) (i : Nat) : lp (rotR l) (i + 1) = lp l i := by
  have hl : 0 < l.length := List.length_pos_iff.mpr hn
  have hr := rot_len hn
  have hm := Nat.mod_lt i hl
  have k : ∀ j, j < l.length → lp (rotR l) (j + 1) = lp l j := fun j hj => by
    by_cases z : j + 1 < l.length
    · rw [lp_lt (by omega), lp_lt hj]
      show (last0 l :: l.dropLast).getD (j + 1) 0 = _
      rw [List.getD_cons_succ, gd_dropLast (by omega)]
    · have e : j = l.length - 1 := by omega
      subst e
      have : lp (rotR l) (l.length - 1 + 1) = lp (rotR l) 0 := by
        have := lp_add (l := rotR l) 0
        rw [hr] at this
        rw [show l.length - 1 + 1 = 0 + l.length by omega]
        exact this
      rw [this, lp_lt (by omega), lp_lt hj]
      rfl
  have e1 : lp l i = lp l (i % l.length) := (per_mod (fun i => lp_add (l := l) i) i).symm
  rw [e1, ← k _ hm]
  have := per_mul (h := fun j => lp (rotR l) (j + 1)) (p := l.length) (fun j => by
    have := lp_add (l := rotR l) (j + 1)
    rw [hr] at this
    show lp (rotR l) (j + l.length + 1) = _
    rw [show j + l.length + 1 = j + 1 + l.length by omega]
    exact this) (i / l.length) (i % l.length)
  rw [Nat.mod_add_div] at this
  exact this
theorem rot_prim {l : List Int} (hn : l ≠ []) (hp : prim l) : prim (rotR l) := fun q q0 q1 qd hq => by
  rw [rot_len hn] at q1 qd
  refine hp q q0 q1 qd fun i => ?_
  have := hq (i + 1)
  rw [show i + 1 + q = i + q + 1 by omega, rot_lp hn, rot_lp hn] at this
  exact this
theorem step_item {f l : List Int} (hf : f ≠ []) (hn : l ≠ []) (he : last0 f = last0 l) (i : Nat) : item (f.dropLast, rotR l) i = item (f, l) i := by
  have hl : 0 < f.length := List.length_pos_iff.mpr hf
  have h2 : 0 < l.length := List.length_pos_iff.mpr hn
  have hd : f.dropLast.length = f.length - 1 := List.length_dropLast
  by_cases h : i < f.length - 1
  · rw [item_lt (by show i < f.dropLast.length; omega), item_lt (by show i < f.length; omega)]
    exact gd_dropLast h
  · rw [item_ge (by show f.dropLast.length ≤ i; omega)]
    show lp (rotR l) (i - f.dropLast.length) = _
    rw [hd]
    by_cases z : i = f.length - 1
    · subst z
      rw [Nat.sub_self, item_lt (by show f.length - 1 < f.length; omega), lp_lt (by rw [rot_len hn]; exact h2)]
      exact he.symm
    · rw [item_ge (by show f.length ≤ i; omega), show i - (f.length - 1) = (i - f.length) + 1 by omega, rot_lp hn]
theorem nfGo_spec : ∀ (c : Nat) (f l : List Int), f.length ≤ c → l ≠ [] → prim l → NF (nfGo c f l) ∧ (∀ i, item (nfGo c f l) i = item (f, l) i) ∧ (nfGo c f l).1.length ≤ f.length ∧ (nfGo c f l).2.length = l.length ∧ (∀ v ∈ (nfGo c f l).1, v ∈ f) ∧ ∀ v ∈ (nfGo c f l).2, v ∈ l
  | 0, f, l, hc, hn, hp => by
    have e : f = [] := List.length_eq_zero_iff.mp (Nat.le_zero.mp hc)
    subst e
    exact ⟨⟨hn, hp, .inl rfl⟩, fun _ => rfl, Nat.le_refl _, rfl, fun _ h => h, fun _ h => h⟩
  | c + 1, f, l, hc, hn, hp => by
    unfold nfGo
    by_cases h : f ≠ [] ∧ last0 f = last0 l
    · rw [if_pos h]
      have hl : 0 < f.length := List.length_pos_iff.mpr h.1
      have hr : rotR l ≠ [] := fun z => by
        unfold rotR at z
        cases z
      obtain ⟨h1, h2, h3, h4, h5, h6⟩ := nfGo_spec c f.dropLast (rotR l) (by rw [List.length_dropLast]; omega) hr (rot_prim hn hp)
      exact ⟨h1, fun i => (h2 i).trans (step_item h.1 hn h.2 i), by rw [List.length_dropLast] at h3; omega, h4.trans (rot_len hn), fun v hv => mem_dl (h5 v hv), fun v hv => rot_mem hn (h6 v hv)⟩
    · rw [if_neg h]
      refine ⟨⟨hn, hp, ?_⟩, fun _ => rfl, Nat.le_refl _, rfl, fun _ h => h, fun _ h => h⟩
      by_cases z : f = []
      · exact .inl z
      · exact .inr fun e => h ⟨z, e⟩
structure NfS (s t : Stm) : Prop where
  nf : NF t
  it : ∀ i, item t i = item s i
  l1 : t.1.length ≤ s.1.length
  l2 : t.2.length ≤ s.2.length
  m1 : ∀ v ∈ t.1, v ∈ s.1
  m2 : ∀ v ∈ t.2, v ∈ s.2
theorem nf_spec {s : Stm} (hn : s.2 ≠ []) : NfS s (nf s) := by
  obtain ⟨a1, a2, a3, a4, a5⟩ := sloop_spec hn
  obtain ⟨h1, h2, h3, h4, h5, h6⟩ := nfGo_spec s.1.length s.1 (sloop s.2) (Nat.le_refl _) a1 a2
  refine ⟨h1, fun i => (h2 i).trans ?_, h3, h4 ▸ a4, h5, fun v hv => a5 v (h6 v hv)⟩
  unfold item
  by_cases z : i < s.1.length
  · rw [if_pos z, if_pos z]
  · rw [if_neg z, if_neg z]
    exact a3 _
end Sm
namespace K43
open PySem L2 Ab
def topS (i : Nat) : Stmt := PySem.Challenge.pw_nestcount_k43_whole_no_conflict_no_obsta.main.body.getD i (.Pass ⟨0, 0, 0, 0⟩)
abbrev c_Conflict___init__ : Stmt := inClass (topS 7) 0
abbrev n_Conflict___init__ : List Str := ["self", "first", "second"]
theorem q_Conflict___init__ : FnScope n_Conflict___init__ ["self", "first", "second"] (defScope c_Conflict___init__) := ⟨rfl, rfl, rfl, by decide +kernel, rfl, by decide +kernel, by decide +kernel⟩
abbrev s_is_integer : Stmt := topS 13
abbrev n_is_integer : List Str := ["value", "low", "high"]
theorem q_is_integer : FnScope n_is_integer ["value", "low", "high"] (defScope s_is_integer) := ⟨rfl, rfl, rfl, by decide +kernel, rfl, by decide +kernel, by decide +kernel⟩
abbrev s_check_integer : Stmt := topS 14
abbrev n_check_integer : List Str := ["value", "low", "high"]
theorem q_check_integer : FnScope n_check_integer ["value", "low", "high"] (defScope s_check_integer) := ⟨rfl, rfl, rfl, by decide +kernel, rfl, by decide +kernel, by decide +kernel⟩
abbrev s_are_items : Stmt := topS 15
abbrev n_are_items : List Str := ["value", "least_size", "most_size", "item"]
theorem q_are_items : FnScope n_are_items ["value", "least_size", "most_size"] (defScope s_are_items) := ⟨rfl, rfl, rfl, by decide +kernel, rfl, by decide +kernel, by decide +kernel⟩
abbrev s_shortest_loop : Stmt := topS 16
abbrev n_shortest_loop : List Str := ["loop", "size"]
theorem q_shortest_loop : FnScope n_shortest_loop ["loop"] (defScope s_shortest_loop) := ⟨rfl, rfl, rfl, by decide +kernel, rfl, by decide +kernel, by decide +kernel⟩
abbrev s_normal_form : Stmt := topS 17
abbrev n_normal_form : List Str := ["front", "loop"]
theorem q_normal_form : FnScope n_normal_form ["front", "loop"] (defScope s_normal_form) := ⟨rfl, rfl, rfl, by decide +kernel, rfl, by decide +kernel, by decide +kernel⟩
abbrev s_stream_item : Stmt := topS 18
abbrev n_stream_item : List Str := ["stream", "index", "front", "loop"]
theorem q_stream_item : FnScope n_stream_item ["stream", "index"] (defScope s_stream_item) := ⟨rfl, rfl, rfl, by decide +kernel, rfl, by decide +kernel, by decide +kernel⟩
abbrev c_Schedule___init__ : Stmt := inClass (topS 20) 4
abbrev n_Schedule___init__ : List Str := ["self", "arity", "spine", "levels"]
theorem q_Schedule___init__ : FnScope n_Schedule___init__ ["self", "arity", "spine", "levels"] (defScope c_Schedule___init__) := ⟨rfl, rfl, rfl, by decide +kernel, rfl, by decide +kernel, by decide +kernel⟩
abbrev c_Schedule_is_stream : Stmt := inClass (topS 20) 5
abbrev n_Schedule_is_stream : List Str := ["value"]
theorem q_Schedule_is_stream : FnScope n_Schedule_is_stream ["value"] (defScope c_Schedule_is_stream) := ⟨rfl, rfl, rfl, by decide +kernel, rfl, by decide +kernel, by decide +kernel⟩
abbrev c_Schedule_arity : Stmt := inClass (topS 20) 8
abbrev n_Schedule_arity : List Str := ["self"]
theorem q_Schedule_arity : FnScope n_Schedule_arity ["self"] (defScope c_Schedule_arity) := ⟨rfl, rfl, rfl, by decide +kernel, rfl, by decide +kernel, by decide +kernel⟩
abbrev c_Schedule_spine : Stmt := inClass (topS 20) 9
abbrev n_Schedule_spine : List Str := ["self"]
theorem q_Schedule_spine : FnScope n_Schedule_spine ["self"] (defScope c_Schedule_spine) := ⟨rfl, rfl, rfl, by decide +kernel, rfl, by decide +kernel, by decide +kernel⟩
abbrev c_Schedule_levels : Stmt := inClass (topS 20) 10
abbrev n_Schedule_levels : List Str := ["self"]
theorem q_Schedule_levels : FnScope n_Schedule_levels ["self"] (defScope c_Schedule_levels) := ⟨rfl, rfl, rfl, by decide +kernel, rfl, by decide +kernel, by decide +kernel⟩
abbrev c_Schedule_spine_at : Stmt := inClass (topS 20) 12
abbrev n_Schedule_spine_at : List Str := ["self", "index"]
theorem q_Schedule_spine_at : FnScope n_Schedule_spine_at ["self", "index"] (defScope c_Schedule_spine_at) := ⟨rfl, rfl, rfl, by decide +kernel, rfl, by decide +kernel, by decide +kernel⟩
abbrev c_Schedule_level_at : Stmt := inClass (topS 20) 13
abbrev n_Schedule_level_at : List Str := ["self", "height"]
theorem q_Schedule_level_at : FnScope n_Schedule_level_at ["self", "height"] (defScope c_Schedule_level_at) := ⟨rfl, rfl, rfl, by decide +kernel, rfl, by decide +kernel, by decide +kernel⟩
abbrev c_Schedule___eq__ : Stmt := inClass (topS 20) 22
abbrev n_Schedule___eq__ : List Str := ["self", "other"]
theorem q_Schedule___eq__ : FnScope n_Schedule___eq__ ["self", "other"] (defScope c_Schedule___eq__) := ⟨rfl, rfl, rfl, by decide +kernel, rfl, by decide +kernel, by decide +kernel⟩
abbrev s_check_values : Stmt := topS 26
abbrev n_check_values : List Str := ["values", "index", "value", "least"]
theorem q_check_values : FnScope n_check_values ["values"] (defScope s_check_values) := ⟨rfl, rfl, rfl, by decide +kernel, rfl, by decide +kernel, by decide +kernel⟩
abbrev s_check_places : Stmt := topS 27
abbrev n_check_places : List Str := ["places", "index", "place", "least", "most"]
theorem q_check_places : FnScope n_check_places ["places"] (defScope s_check_places) := ⟨rfl, rfl, rfl, by decide +kernel, rfl, by decide +kernel, by decide +kernel⟩
abbrev s_check_arity : Stmt := topS 28
abbrev n_check_arity : List Str := ["arity"]
theorem q_check_arity : FnScope n_check_arity ["arity"] (defScope s_check_arity) := ⟨rfl, rfl, rfl, by decide +kernel, rfl, by decide +kernel, by decide +kernel⟩
abbrev s_split_number : Stmt := topS 29
abbrev n_split_number : List Str := ["number", "arity", "exponent"]
theorem q_split_number : FnScope n_split_number ["number", "arity"] (defScope s_split_number) := ⟨rfl, rfl, rfl, by decide +kernel, rfl, by decide +kernel, by decide +kernel⟩
abbrev s_power_of : Stmt := topS 30
abbrev n_power_of : List Str := ["arity", "exponent", "found", "turn"]
theorem q_power_of : FnScope n_power_of ["arity", "exponent"] (defScope s_power_of) := ⟨rfl, rfl, rfl, by decide +kernel, rfl, by decide +kernel, by decide +kernel⟩
abbrev s_first_places : Stmt := topS 31
abbrev n_first_places : List Str := ["schedule", "count", "found", "place", "sums", "number", "exponent", "rest"]
theorem q_first_places : FnScope n_first_places ["schedule", "count"] (defScope s_first_places) := ⟨rfl, rfl, rfl, by decide +kernel, rfl, by decide +kernel, by decide +kernel⟩
abbrev s_places_in : Stmt := topS 33
abbrev n_places_in : List Str := ["values", "before", "label", "value"]
theorem q_places_in : FnScope n_places_in ["values"] (defScope s_places_in) := ⟨rfl, rfl, rfl, by decide +kernel, rfl, by decide +kernel, by decide +kernel⟩
abbrev s_rest_of : Stmt := topS 34
abbrev n_rest_of : List Str := ["values", "places"]
theorem q_rest_of : FnScope n_rest_of ["values", "places"] (defScope s_rest_of) := ⟨rfl, rfl, rfl, by decide +kernel, rfl, by decide +kernel, by decide +kernel⟩
abbrev s_bounds_of : Stmt := topS 35
abbrev n_bounds_of : List Str := ["places", "rest", "found", "earlier", "later"]
theorem q_bounds_of : FnScope n_bounds_of ["places", "rest"] (defScope s_bounds_of) := ⟨rfl, rfl, rfl, by decide +kernel, rfl, by decide +kernel, by decide +kernel⟩
abbrev s_plain_numbers : Stmt := topS 36
abbrev n_plain_numbers : List Str := ["bounds", "arity", "found", "index", "bound", "exponent", "rest"]
theorem q_plain_numbers : FnScope n_plain_numbers ["bounds", "arity"] (defScope s_plain_numbers) := ⟨rfl, rfl, rfl, by decide +kernel, rfl, by decide +kernel, by decide +kernel⟩
abbrev s_each_conflict : Stmt := topS 37
abbrev n_each_conflict : List Str := ["bounds", "arity", "plain", "tops", "triple", "height", "number", "exponent", "other", "bound"]
theorem q_each_conflict : GScope n_each_conflict ["bounds", "arity"] (defScope s_each_conflict) := ⟨rfl, rfl, rfl, by decide +kernel, rfl, by decide +kernel, by decide +kernel⟩
abbrev s_is_item_name : Stmt := topS 38
abbrev n_is_item_name : List Str := ["name"]
theorem q_is_item_name : FnScope n_is_item_name ["name"] (defScope s_is_item_name) := ⟨rfl, rfl, rfl, by decide +kernel, rfl, by decide +kernel, by decide +kernel⟩
abbrev s_relaxed : Stmt := topS 39
abbrev n_relaxed : List Str := ["lows", "highs", "gaps", "turn", "index", "gap", "low", "high"]
theorem q_relaxed : FnScope n_relaxed ["lows", "highs", "gaps"] (defScope s_relaxed) := ⟨rfl, rfl, rfl, by decide +kernel, rfl, by decide +kernel, by decide +kernel⟩
abbrev c_PlaceFit___init__ : Stmt := inClass (topS 40) 2
abbrev n_PlaceFit___init__ : List Str := ["self", "places", "arity"]
theorem q_PlaceFit___init__ : FnScope n_PlaceFit___init__ ["self", "places", "arity"] (defScope c_PlaceFit___init__) := ⟨rfl, rfl, rfl, by decide +kernel, rfl, by decide +kernel, by decide +kernel⟩
abbrev c_PlaceFit_prepare : Stmt := inClass (topS 40) 3
abbrev n_PlaceFit_prepare : List Str := ["self", "places", "arity", "rest", "number", "other"]
theorem q_PlaceFit_prepare : FnScope n_PlaceFit_prepare ["self", "places", "arity", "rest"] (defScope c_PlaceFit_prepare) := ⟨rfl, rfl, rfl, by decide +kernel, rfl, by decide +kernel, by decide +kernel⟩
abbrev c_PlaceFit_of : Stmt := inClass (topS 40) 7
abbrev n_PlaceFit_of : List Str := ["cls", "schedule", "count"]
theorem q_PlaceFit_of : FnScope n_PlaceFit_of ["cls", "schedule", "count"] (defScope c_PlaceFit_of) := ⟨rfl, rfl, rfl, by decide +kernel, rfl, by decide +kernel, by decide +kernel⟩
abbrev c_PlaceFit_fits : Stmt := inClass (topS 40) 8
abbrev n_PlaceFit_fits : List Str := ["self", "schedule"]
theorem q_PlaceFit_fits : FnScope n_PlaceFit_fits ["self", "schedule"] (defScope c_PlaceFit_fits) := ⟨rfl, rfl, rfl, by decide +kernel, rfl, by decide +kernel, by decide +kernel⟩
abbrev c_PlaceFit_limits : Stmt := inClass (topS 40) 9
abbrev n_PlaceFit_limits : List Str := ["self", "spine", "lows", "highs", "index", "bound", "exponent", "rest", "is_last", "item", "least", "most"]
theorem q_PlaceFit_limits : FnScope n_PlaceFit_limits ["self", "spine"] (defScope c_PlaceFit_limits) := ⟨rfl, rfl, rfl, by decide +kernel, rfl, by decide +kernel, by decide +kernel⟩
abbrev c_PlaceFit_known_frequency : Stmt := inClass (topS 40) 10
abbrev n_PlaceFit_known_frequency : List Str := ["self", "exponent", "power"]
theorem q_PlaceFit_known_frequency : FnScope n_PlaceFit_known_frequency ["self", "exponent"] (defScope c_PlaceFit_known_frequency) := ⟨rfl, rfl, rfl, by decide +kernel, rfl, by decide +kernel, by decide +kernel⟩
abbrev c_PlaceFit_range_of : Stmt := inClass (topS 40) 11
abbrev n_PlaceFit_range_of : List Str := ["self", "name", "index", "lows", "highs", "before", "frequency"]
theorem q_PlaceFit_range_of : FnScope n_PlaceFit_range_of ["self", "name"] (defScope c_PlaceFit_range_of) := ⟨rfl, rfl, rfl, by decide +kernel, rfl, by decide +kernel, by decide +kernel⟩
abbrev c_PlaceFit_spine_item : Stmt := inClass (topS 40) 12
abbrev n_PlaceFit_spine_item : List Str := ["self", "sums", "exponent", "frequency", "is_last"]
theorem q_PlaceFit_spine_item : FnScope n_PlaceFit_spine_item ["self", "sums", "exponent"] (defScope c_PlaceFit_spine_item) := ⟨rfl, rfl, rfl, by decide +kernel, rfl, by decide +kernel, by decide +kernel⟩
abbrev c_PlaceFit_completed : Stmt := inClass (topS 40) 13
abbrev n_PlaceFit_completed : List Str := ["self", "items", "spine", "gaps", "name", "item", "least", "most", "lows", "highs", "found", "exponent", "levels", "earlier", "later"]
theorem q_PlaceFit_completed : FnScope n_PlaceFit_completed ["self", "items"] (defScope c_PlaceFit_completed) := ⟨rfl, rfl, rfl, by decide +kernel, rfl, by decide +kernel, by decide +kernel⟩
abbrev c_ValueFit___init__ : Stmt := inClass (topS 41) 0
abbrev n_ValueFit___init__ : List Str := ["self", "values", "arity", "places"]
theorem q_ValueFit___init__ : FnScope n_ValueFit___init__ ["self", "values", "arity"] (defScope c_ValueFit___init__) := ⟨rfl, rfl, rfl, by decide +kernel, rfl, by decide +kernel, by decide +kernel⟩
abbrev c_ValueFit_fits : Stmt := inClass (topS 41) 3
abbrev n_ValueFit_fits : List Str := ["self", "schedule", "__class__", "last"]
theorem q_ValueFit_fits : NdefX.NScope n_ValueFit_fits ["self", "schedule"] ["__class__"] (defScope c_ValueFit_fits) := NdefX.nscope_by (by decide +kernel)
abbrev s__law_begun : Stmt := topS 43
abbrev n__law_begun : List Str := ["_law_script", "_law_part"]
theorem q__law_begun : FnScope n__law_begun ["_law_script"] (defScope s__law_begun) := ⟨rfl, rfl, rfl, by decide +kernel, rfl, by decide +kernel, by decide +kernel⟩
abbrev s__law_draw : Stmt := topS 44
abbrev n__law_draw : List Str := ["_law_m", "_law_top", "_law_k", "_law_spot", "_law_part", "_law_mixed"]
theorem q__law_draw : FnScope n__law_draw ["_law_m", "_law_top"] (defScope s__law_draw) := ⟨rfl, rfl, rfl, by decide +kernel, rfl, by decide +kernel, by decide +kernel⟩
abbrev s__law_of : Stmt := topS 45
abbrev n__law_of : List Str := ["_law_m", "_law_some"]
theorem q__law_of : FnScope n__law_of ["_law_m", "_law_some"] (defScope s__law_of) := ⟨rfl, rfl, rfl, by decide +kernel, rfl, by decide +kernel, by decide +kernel⟩
abbrev s__law_stream : Stmt := topS 46
abbrev n__law_stream : List Str := ["_law_m", "_law_bottom", "_law_some", "_law_front", "_law_k", "_law_loop", "_law_first"]
theorem q__law_stream : FnScope n__law_stream ["_law_m", "_law_bottom"] (defScope s__law_stream) := ⟨rfl, rfl, rfl, by decide +kernel, rfl, by decide +kernel, by decide +kernel⟩
abbrev s__law_item : Stmt := topS 47
abbrev n__law_item : List Str := ["_law_row", "_law_index", "_law_front", "_law_loop"]
theorem q__law_item : FnScope n__law_item ["_law_row", "_law_index"] (defScope s__law_item) := ⟨rfl, rfl, rfl, by decide +kernel, rfl, by decide +kernel, by decide +kernel⟩
abbrev s__law_place : Stmt := topS 48
abbrev n__law_place : List Str := ["_law_k", "_law_a", "_law_b", "_law_number", "_law_found", "_law_power", "_law_height"]
theorem q__law_place : FnScope n__law_place ["_law_k", "_law_a", "_law_b", "_law_number"] (defScope s__law_place) := ⟨rfl, rfl, rfl, by decide +kernel, rfl, by decide +kernel, by decide +kernel⟩
abbrev s__law_seen : Stmt := topS 49
abbrev n__law_seen : List Str := ["_law_k", "_law_a", "_law_b", "_law_count", "_law_found", "_law_reached", "_law_label"]
theorem q__law_seen : FnScope n__law_seen ["_law_k", "_law_a", "_law_b", "_law_count"] (defScope s__law_seen) := ⟨rfl, rfl, rfl, by decide +kernel, rfl, by decide +kernel, by decide +kernel⟩
abbrev s__law_known : Stmt := topS 50
abbrev n__law_known : List Str := ["_law_seen_here", "_law_label"]
theorem q__law_known : FnScope n__law_known ["_law_seen_here"] (defScope s__law_known) := ⟨rfl, rfl, rfl, by decide +kernel, rfl, by decide +kernel, by decide +kernel⟩
abbrev s__law_bounds : Stmt := topS 51
abbrev n__law_bounds : List Str := ["_law_known_here", "_law_rest", "_law_found", "_law_index"]
theorem q__law_bounds : FnScope n__law_bounds ["_law_known_here", "_law_rest"] (defScope s__law_bounds) := ⟨rfl, rfl, rfl, by decide +kernel, rfl, by decide +kernel, by decide +kernel⟩
abbrev s__law_split : Stmt := topS 52
abbrev n__law_split : List Str := ["_law_number", "_law_k", "_law_found"]
theorem q__law_split : FnScope n__law_split ["_law_number", "_law_k"] (defScope s__law_split) := ⟨rfl, rfl, rfl, by decide +kernel, rfl, by decide +kernel, by decide +kernel⟩
abbrev s__law_conflicts : Stmt := topS 53
abbrev n__law_conflicts : List Str := ["_law_bounds_here", "_law_k", "_law_found", "_law_number", "_law_other", "_law_exponent", "_law_rest"]
theorem q__law_conflicts : FnScope n__law_conflicts ["_law_bounds_here", "_law_k"] (defScope s__law_conflicts) := ⟨rfl, rfl, rfl, by decide +kernel, rfl, by decide +kernel, by decide +kernel⟩
abbrev s__law_random : Stmt := topS 54
abbrev n__law_random : List Str := ["_law_m", "_law_k", "_law_most", "_law_seen_here", "_law_more", "_law_n", "_law_last"]
theorem q__law_random : FnScope n__law_random ["_law_m", "_law_k", "_law_most"] (defScope s__law_random) := ⟨rfl, rfl, rfl, by decide +kernel, rfl, by decide +kernel, by decide +kernel⟩
abbrev s__law_made : Stmt := topS 55
abbrev n__law_made : List Str := ["_law_call", "_law_found"]
theorem q__law_made : FnScope n__law_made ["_law_call"] (defScope s__law_made) := ⟨rfl, rfl, rfl, by decide +kernel, rfl, by decide +kernel, by decide +kernel⟩
abbrev s__law_items : Stmt := topS 56
abbrev n__law_items : List Str := ["_law_box", "_law_spine_row", "_law_index"]
theorem q__law_items : FnScope n__law_items ["_law_box"] (defScope s__law_items) := ⟨rfl, rfl, rfl, by decide +kernel, rfl, by decide +kernel, by decide +kernel⟩
abbrev s__law_ends : Stmt := topS 57
abbrev n__law_ends : List Str := ["_law_box", "_law_index"]
theorem q__law_ends : FnScope n__law_ends ["_law_box"] (defScope s__law_ends) := ⟨rfl, rfl, rfl, by decide +kernel, rfl, by decide +kernel, by decide +kernel⟩
abbrev s__law_right : Stmt := topS 58
abbrev n__law_right : List Str := ["_law_m", "_law_seen_here", "_law_k", "_law_known_here", "_law_rest", "_law_fit", "_law_a", "_law_b", "_law_scale", "_law_wide", "_law_place_here", "_law_told", "_law_number"]
theorem q__law_right : FnScope n__law_right ["_law_m", "_law_seen_here", "_law_k"] (defScope s__law_right) := ⟨rfl, rfl, rfl, by decide +kernel, rfl, by decide +kernel, by decide +kernel⟩
abbrev s__law_many_right : Stmt := topS 59
abbrev n__law_many_right : List Str := ["_law_a", "_law_b", "_law_known_here", "_law_number", "_law_fit", "_law_c", "_law_d", "_law_low", "_law_high", "_law_top"]
theorem q__law_many_right : FnScope n__law_many_right ["_law_a", "_law_b"] (defScope s__law_many_right) := ⟨rfl, rfl, rfl, by decide +kernel, rfl, by decide +kernel, by decide +kernel⟩
abbrev s_law : Stmt := topS 60
abbrev n_law : List Str := ["_law_script", "_law_m", "_law_turn", "_law_k"]
theorem q_law : FnScope n_law ["_law_script"] (defScope s_law) := ⟨rfl, rfl, rfl, by decide +kernel, rfl, by decide +kernel, by decide +kernel⟩
end K43
namespace Ab
open PySem L2
/-! ### short words -/
section
variable {X : Cx} {Γ : Gam} {M : Mem} {pos : Pos} {x : Str} {d : Val} {i : Int} {j}
theorem v_ (n : Nat) (hd : Γ[n]? = some (some d) := by rfl) (hN : X.N[n]? = some x := by rfl) (hv : Vis X.env.scope x := by first | exact Or.inl rfl | exact Or.inr (Or.inl rfl) | exact Or.inr (Or.inr rfl))
    (hdb : (x == ("__debug__" : Str)) = false := by decide) (hcd : (x == ("__classdict__" : Str)) = false := by decide) : aV X (.Name x pos) Γ M d := ae_var n hd ⟨rfl, rfl⟩ hN hv hdb hcd
theorem i_ : aV X (.Constant (.int i) j pos) Γ M (.int i) := ae_int ⟨rfl, rfl⟩
theorem s_ : aV X (.Constant (.str x) j pos) Γ M (.str x) := ae_str ⟨rfl, rfl⟩
theorem n_ : aV X (.Constant .none j pos) Γ M .non := ae_non ⟨rfl, rfl⟩
theorem nft {p : Prop} : false = true → p := fun h => nomatch h
theorem ntf {p : Prop} : true = false → p := fun h => nomatch h
theorem sz {n : Nat} (h : n ≤ 100000) : n ≤ sizeLine := Nat.le_trans h (by decide)
theorem szl {n : Nat} (h : n < 100000) : n < sizeLine := Nat.lt_of_lt_of_le h (by decide)
theorem szb {n : Nat} (h : Nat.ble n 100000 = true := by rfl) : n ≤ sizeLine := sz (Nat.le_of_ble_eq_true h)
end
def optV : Option Int → Val
  | none => .non
  | some l => .int l
def within (n : Int) (lo hi : Option Int) : Bool := (match lo with | none => true | some l => decide (l ≤ n)) && (match hi with | none => true | some h => decide (n ≤ h))
def iT (xs : List Int) : Val := .tup (xs.map .int)
def iL (xs : List Int) : Val := .lst (xs.map .int)
def at0 (g : List Int) (i : Int) : Int := g.getD i.toNat 0
theorem atI_int {g : List Int} {i : Int} (h0 : 0 ≤ i) (h1 : i < g.length) : atI (g.map Val.int) i = some (.int (at0 g i)) := by
  obtain ⟨n, rfl⟩ := Int.eq_ofNat_of_zero_le h0
  refine atI_nat ?_
  have hn : n < g.length := by omega
  rw [List.getElem?_map, List.getElem?_eq_getElem hn]
  show some (Val.int g[n]) = some (Val.int (at0 g n))
  unfold at0
  rw [Int.toNat_natCast, List.getD_eq_getElem?_getD, List.getElem?_eq_getElem hn]
  rfl
/-- the last one -/
theorem atI_last {g : List Int} (h : g ≠ []) : atI (g.map Val.int) (-1) = some (.int (g.getD (g.length - 1) 0)) := by
  have hl : 0 < g.length := List.length_pos_iff.mpr h
  unfold atI ixN
  rw [List.length_map, if_neg (by decide), if_pos (by omega), Option.bind_some, show ((-1 : Int) + (g.length : Int)).toNat = g.length - 1 by omega, List.getElem?_map, List.getElem?_eq_getElem (by omega), List.getD_eq_getElem?_getD, List.getElem?_eq_getElem (by omega)]
  rfl
theorem getD_int {g : List Int} {i : Nat} (h : i < g.length) : (g.map Val.int).getD i .non = .int g[i] := by
  rw [List.getD_eq_getElem?_getD, List.getElem?_map, List.getElem?_eq_getElem h]
  rfl
theorem cut_neg {g : List Int} (h : g ≠ []) : cutI g none (some (-1)) = g.dropLast := by
  have hl : 0 < g.length := List.length_pos_iff.mpr h
  unfold cutI
  have e : HT.sIx g.length g.length (some (-1)) = g.length - 1 := by
    show (if (-1 : Int) < 0 then ((-1 : Int) + (g.length : Int)).toNat else min (-1 : Int).toNat g.length) = _
    rw [if_pos (by decide)]
    omega
  rw [e, HT.sIx_none, List.drop_zero, Nat.sub_zero, List.dropLast_eq_take]
theorem cut_end {g : List Int} (h : g ≠ []) : cutI g (some (-1)) none = [g.getD (g.length - 1) 0] := by
  have hl : 0 < g.length := List.length_pos_iff.mpr h
  unfold cutI
  have e : HT.sIx g.length 0 (some (-1)) = g.length - 1 := by
    show (if (-1 : Int) < 0 then ((-1 : Int) + (g.length : Int)).toNat else min (-1 : Int).toNat g.length) = _
    rw [if_pos (by decide)]
    omega
  rw [e, HT.sIx_none, List.drop_eq_getElem_cons (by omega), show g.length - 1 + 1 = g.length by omega, List.drop_length, show g.length - (g.length - 1) = 1 by omega, List.getD_eq_getElem?_getD, List.getElem?_eq_getElem (by omega)]
  rfl
theorem map_cyc {g : List Int} (m : Nat) : (List.replicate m (g.map Val.int)).flatten = ((List.replicate m g).flatten).map Val.int := by
  induction m with
  | zero => rfl
  | succ m ih => rw [List.replicate_succ, List.replicate_succ, List.flatten_cons, List.flatten_cons, List.map_append, ih]
abbrev FX (P : Program) (w : World) (K : PySem.W.Frag) (mg : Str → Option Value) (base : Heap) (k : Nat) (f : Addr) (s : ASx) : Prop := FnX P w K mg base k f [] (spX K s)
/-- a def that stands under a global name -/
structure Gd (P : Program) (w : World) (K : PySem.W.Frag) (mg : Str → Option Value) (base : Heap) (k : Nat) (x : Str) (ks : List Str) (s : ASx) : Prop where
  ex : ∃ f, FnX P w K mg base k f ks (spX K s) ∧ mg x = some (.ref f) ∧ PySem.W.keepIn K (.ref f) = true
section
variable {X : Cx} {Γ : Gam} {M : Mem} {P : Val → Mem → Prop} {e : Expr} {es : List Expr} {kws : List Keyword} {pos p1 : Pos} {x : Str} {n m : Nat} {ks : List Str} {sx : ASx}
theorem ae_g (G : Gd X.prog X.w X.K X.mg X.base n x ks sx) (hr : Rm m X.A) (hnm : n ≤ m) (h : aA X (e :: es) Γ M fun ds M1 => aKw X kws Γ M1 fun zs M2 => zs.length = ks.length ∧ sx ds zs M2 P)
    (hg : Gl X x := by rfl) (hall : (backToKw pos (keywordEach kws X.env)).all (·.1.isSome) = true := by rfl) (hks : (backToKw pos (keywordEach kws X.env)).filterMap (·.1) = ks := by rfl) (hdb : (x == ("__debug__" : Str)) = false := by decide)
    (he : starEach (e :: es) X.env = (false, eval e X.env) :: starEach es X.env := by rfl) (hpl : ((backTo pos (starEach (e :: es) X.env)).any (·.1) || (backToKw pos (keywordEach kws X.env)).any (·.1.isNone)) = false := by rfl) : aE X (.Call (.Name x p1) (e :: es) kws pos) Γ M P := by
  obtain ⟨f, F, hm, hk⟩ := G.ex
  exact ae_call F (hr.mono hnm) hm hk h hg hall hks hdb he hpl
end
end Ab
namespace K43
open PySem L2 Ab Sm
section
variable {P : Program} {w : World} {K : PySem.W.Frag} {mg : Str → Option Value} {base : Heap} {k : Nat} {f C : Addr}
/-! ### is_integer, check_integer, are_items -/
def aInt : ASp := fun ds M R => ∃ n lo hi, ds = [.int n, optV lo, optV hi] ∧ R (.bl (within n lo hi)) M
theorem b_is_integer (m1 : mg "isinstance" = none) (m2 : mg "int" = none) (m3 : mg "bool" = none) : BodyOk P w K mg base k f n_is_integer "is_integer" (defScope s_is_integer) (defBody s_is_integer) aInt := by
  rintro cdv A outer s H E hr ds M R ⟨n, lo, hi, rfl, hp⟩
  refine as_cons (as_if (at_w (aw_or (at_not (at_val (ae_isi m1 (v_ 0) (av_ty (T := "int") m2 (by decide +kernel)) (.ty "int") (.int _) (kit_ty (by decide +kernel)) ⟨true, rfl, nft, fun _ => ?_⟩))))))
  refine aw_or1 (at_val (ae_isi m1 (v_ 0) (av_ty (T := "bool") m3 (by decide +kernel)) (.ty "bool") (.int _) (kit_ty (by decide +kernel)) ⟨false, rfl, nft, fun _ => ?_⟩))
  refine as_nil (as_one (as_ret ?_))
  cases lo with
  | none =>
    refine ae_and (ae_or (ae_cmp (v_ 1) n_ cmp_isN ⟨true, rfl, fun _ => ⟨true, rfl, fun _ => ?_, ntf⟩, ntf⟩))
    cases hi with
    | none => exact ae_one (ae_or (ae_cmp (v_ 2) n_ cmp_isN ⟨true, rfl, fun _ => .ok hp, ntf⟩))
    | some h => exact ae_one (ae_or (ae_cmp (v_ 2) n_ cmp_isN ⟨false, rfl, nft, fun _ => ae_one (ae_cmp (v_ 0) (v_ 2) cmp_le (.ok (by simpa [within] using hp)))⟩))
  | some l =>
    refine ae_and (ae_or (ae_cmp (v_ 1) n_ cmp_isN ⟨false, rfl, nft, fun _ => ae_one (ae_cmp (v_ 1) (v_ 0) cmp_le ⟨_, rfl, fun e => ?_, fun e => .ok (by simpa [within, e] using hp)⟩)⟩))
    cases hi with
    | none => exact ae_one (ae_or (ae_cmp (v_ 2) n_ cmp_isN ⟨true, rfl, fun _ => .ok (by simpa [within, e] using hp), ntf⟩))
    | some h => exact ae_one (ae_or (ae_cmp (v_ 2) n_ cmp_isN ⟨false, rfl, nft, fun _ => ae_one (ae_cmp (v_ 0) (v_ 2) cmp_le (.ok (by simpa [within, e] using hp)))⟩))
/-- is_integer(x, low=.., high=..) -/
abbrev GInt (P : Program) (w : World) (K : PySem.W.Frag) (mg : Str → Option Value) (base : Heap) : Prop := Gd P w K mg base 1 "is_integer" ["low", "high"] fun ds es M R => ds.length = 1 ∧ aInt (ds ++ es) M R
def aChk : ASp := fun ds M R => ∃ n lo, ds = [.int n, .int lo, .non] ∧ lo ≤ n ∧ R .non M
theorem b_check_integer (G : GInt P w K mg base) : BodyOk P w K mg base 1 f n_check_integer "check_integer" (defScope s_check_integer) (defBody s_check_integer) aChk := by
  rintro cdv A outer s H E hr ds M R ⟨n, lo, rfl, hle, hp⟩
  refine as_one (as_if (at_not (at_val (ae_g G hr (by decide) (aa_cons ((v_ 0).val (aa_nil (ak_cons ((v_ 1).val (ak_cons ((v_ 2).val (ak_nil ⟨rfl, rfl, n, some lo, none, rfl, true, ?_, nft, fun _ => as_nil (.ok hp)⟩))))))))))))
  have e : within n (some lo) none = true := by simp [within]; exact hle
  rw [e]
abbrev GChk (P : Program) (w : World) (K : PySem.W.Frag) (mg : Str → Option Value) (base : Heap) : Prop := Gd P w K mg base 2 "check_integer" [] fun ds _ M R => ds.length = 2 ∧ aChk (ds ++ [.non]) M R
def okI (v : Int) : Prop := 0 ≤ v ∧ v ≤ 1000000
theorem rep_true {M : Mem} {n : Nat} : Vw M (.lst ((List.range n).map fun _ => Val.bl true)) (.lst ((List.replicate n true).map .bl)) := by
  have e : (List.range n).map (fun _ => Val.bl true) = (List.replicate n true).map .bl := by simp [List.map_const']
  rw [e]
  exact .self _
def aItems : ASp := fun ds M R => ∃ xs a b, ds = [iT xs, .int a, .int b] ∧ a ≤ (xs.length : Int) ∧ (xs.length : Int) ≤ b ∧ b ≤ 1000 ∧ (∀ v ∈ xs, okI v) ∧ R (.bl true) M
theorem b_are_items {t : Tok} (G : GInt P w K mg base) (gl : mg "LABEL_LIMIT" = some (.int 1000000 t)) (m1 : mg "isinstance" = none) (m2 : mg "tuple" = none) (m3 : mg "len" = none) (m4 : mg "all" = none) : BodyOk P w K mg base 1 f n_are_items "are_items" (defScope s_are_items) (defBody s_are_items) aItems := by
  rintro cdv A outer s H E hr ds M R ⟨xs, a, b, rfl, h1, h2, h3, hx, hp⟩
  refine as_cons (as_if (at_w (aw_or (at_not (at_val (ae_isi m1 (v_ 0) (av_ty (T := "tuple") m2 (by decide +kernel)) (.ty "tuple") (.tup _) (kit_ty (by decide +kernel)) ⟨true, rfl, nft, fun _ => ?_⟩))))))
  refine aw_or1 (at_not (at_chain (v_ 1) (av_len m3 (v_ 0) .t) (v_ 2) cmp_le cmp_le ⟨fun h => ?_, fun _ => as_nil ?_⟩))
  · simp at h
    omega
  refine as_one (as_ret (ae_all m4 rfl (ae_lcP [("item", 3)] (fun _ => .bl true) rfl q_are_items.nd (blkOk_by (N := n_are_items) (sc := defScope s_are_items) (by decide +kernel)) (ai_tup ((v_ 0).val ⟨rfl, rfl⟩)) ?_ (by simp; omega) ⟨List.replicate _ true, rep_true, .ok ?_⟩)))
  · intro i acc D hi s H C' cl fp
    have hi' : i < xs.length := by simpa using hi
    rw [getD_int hi']
    refine agw_name 3 q_are_items.nd fun s H C' cl fp => ?_
    refine ae_g G hr (by decide) (aa_cons ((v_ 3).val (aa_nil (ak_cons (i_.val (ak_cons ((av_gint gl).val (ak_nil ⟨rfl, rfl, xs[i], some 0, some 1000000, rfl, ?_, rfl⟩))))))))
    have := hx _ (List.getElem_mem hi')
    have e : within xs[i] (some 0) (some 1000000) = true := by simp [within]; exact this
    rw [e]
  · rw [show (List.replicate (List.map Val.int xs).length true).all id = true by simp]
    exact hp
abbrev GItems (P : Program) (w : World) (K : PySem.W.Frag) (mg : Str → Option Value) (base : Heap) : Prop := Gd P w K mg base 2 "are_items" [] fun ds _ => aItems ds
/-! ### shortest_loop, normal_form, stream_item -/
def aSl : ASp := fun ds M R => ∃ l, ds = [iT l] ∧ l ≠ [] ∧ l.length ≤ 1000 ∧ R (iT (sloop l)) M
theorem b_shortest_loop (m1 : mg "range" = none) (m3 : mg "len" = none) : BodyOk P w K mg base k f n_shortest_loop "shortest_loop" (defScope s_shortest_loop) (defBody s_shortest_loop) aSl := by
  rintro cdv A outer s H E hr ds M R ⟨l, rfl, hn, hl, hp⟩
  have hu := hr.u64
  have hpos : 0 < l.length := List.length_pos_iff.mpr hn
  have len1 : ∀ {X : Cx} {Γ : Gam} {M : Mem} {e : Expr}, aV X e Γ M (.int ((l.map Val.int).length : Nat)) → aV X e Γ M (.int (l.length : Nat)) := fun h => by rw [List.length_map] at h; exact h
  refine as_cons (as_for (n := l.length - 1) (fun i Γ M' => M' = M ∧ ∃ v1, Γ = [some (iT l), v1] ∧ sloop l = slFrom l (l.length - 1 - i) (i + 1)) PassesOwn.never rfl
    (ai_range2 (lo := 1) m1 (aa_cons (i_.val (aa_cons ((len1 (av_len m3 (v_ 0) .t)).val (aa_nil ⟨_, rfl, by omega, by omega, rfl, none, rfl, rfl⟩)))))) (fun _ _ _ _ _ => trivial) ?_ ?_)
  · rintro i Γ M' hi ⟨rfl, v1, rfl, hs⟩
    refine ag_name 1 q_shortest_loop.nd ?_
    rw [show l.length - 1 - i = (l.length - 1 - (i + 1)) + 1 by omega] at hs
    have hst : slFrom l (l.length - 1 - (i + 1) + 1) (i + 1) = if isRep l (i + 1) = true then l.take (i + 1) else slFrom l (l.length - 1 - (i + 1)) (i + 1 + 1) := rfl
    rw [hst] at hs
    have e1 : (1 : Int) + (i : Int) = ((i + 1 : Nat) : Int) := by omega
    rw [e1]
    have sl : ∀ {X : Cx} {Γ : Gam} {M : Mem} {e : Expr}, aV X e Γ M (.tup (cutA (l.map Val.int) none (some ((i + 1 : Nat) : Int)))) → aV X e Γ M (iT (l.take (i + 1))) := fun h => by
      rw [cut_map, cut_hi (by omega) (by omega), Int.toNat_natCast] at h
      exact h
    have dv : ((l.length : Int) / ((i + 1 : Nat) : Int)) = ((l.length / (i + 1) : Nat) : Int) := by omega
    by_cases hm : l.length % (i + 1) = 0
    · have hge : 2 ≤ l.length / (i + 1) := by
        have h1 := Nat.div_add_mod l.length (i + 1)
        rw [hm, Nat.add_zero] at h1
        rcases Nat.lt_or_ge (l.length / (i + 1)) 2 with z | z
        · have : l.length / (i + 1) ≤ 1 := by omega
          have := Nat.mul_le_mul_left (i + 1) this
          omega
        · exact z
      have hle : l.length / (i + 1) ≤ l.length := Nat.div_le_self _ _
      have tl := take_len (l := l) (p := i + 1) (by omega)
      have tne : (l.take (i + 1)).map Val.int ≠ [] := fun z => by
        have := congrArg List.length z
        rw [List.length_map, tl] at this
        simp at this
      have cy : ∀ {X : Cx} {Γ : Gam} {M : Mem} {e : Expr}, aV X e Γ M (.tup (List.replicate ((l.length : Int) / ((i + 1 : Nat) : Int)).toNat ((l.take (i + 1)).map Val.int)).flatten) → aV X e Γ M (iT (cyc (l.take (i + 1)) (l.length / (i + 1)))) := fun h => by
        rw [dv, Int.toNat_natCast, map_cyc] at h
        exact h
      refine as_one (as_if (at_w (aw_and (at_cmp (av_mod (len1 (av_len m3 (v_ 0) .t)) (v_ 1) (by omega)) i_ cmp_eqI ⟨fun _ => ?_, fun h => ?_⟩))))
      · refine aw_and1 (at_cmp (v_ 0) (cy (av_repT (sl (av_sliceT (v_ 0) ao_none (ao_some (v_ 1)))) (av_fdiv (len1 (av_len m3 (v_ 0) .t)) (v_ 1) ⟨by omega, by omega⟩) tne (by rw [dv]; omega) (by rw [dv]; omega) (by rw [List.length_map, tl]; omega))) (cmp_eqTI hu) ⟨fun h => ?_, fun h => ?_⟩)
        · have hrp : isRep l (i + 1) = true := by
            unfold isRep
            rw [decide_eq_true hm, h]
            rfl
          rw [if_pos hrp] at hs
          refine as_one (as_ret ((sl (av_sliceT (v_ 0) ao_none (ao_some (v_ 1)))).val (.ok ?_)))
          rw [← hs]
          exact hp
        · have hrp : ¬ isRep l (i + 1) = true := by
            unfold isRep
            rw [h, Bool.and_false]
            exact Bool.false_ne_true
          rw [if_neg hrp] at hs
          exact as_nil ⟨rfl, _, rfl, hs⟩
      · exfalso
        rw [decide_eq_false_iff_not] at h
        apply h
        omega
    · have hrp : ¬ isRep l (i + 1) = true := by
        unfold isRep
        rw [decide_eq_false hm, Bool.false_and]
        exact Bool.false_ne_true
      rw [if_neg hrp] at hs
      refine as_one (as_if (at_w (aw_and (at_cmp (av_mod (len1 (av_len m3 (v_ 0) .t)) (v_ 1) (by omega)) i_ cmp_eqI ⟨fun h => ?_, fun _ => ⟨nft, fun _ => as_nil ⟨rfl, _, rfl, hs⟩⟩⟩))))
      exfalso
      rw [decide_eq_true_eq] at h
      omega
  · rintro Γ M' ⟨rfl, v1, rfl, hs⟩
    refine as_one (as_ret ((v_ 0).val (.ok ?_)))
    rw [Nat.sub_self] at hs
    have e : sloop l = l := hs
    rw [e] at hp
    exact hp
abbrev GSl (P : Program) (w : World) (K : PySem.W.Frag) (mg : Str → Option Value) (base : Heap) : Prop := Gd P w K mg base 1 "shortest_loop" [] fun ds _ => aSl ds
end
end K43
namespace K43
open PySem L2 Ab Sm
section
variable {P : Program} {w : World} {K : PySem.W.Frag} {mg : Str → Option Value} {base : Heap} {k : Nat} {f C : Addr}
/-- a stream -/
def stV (s : Stm) : Val := .tup [iT s.1, iT s.2]
def aNf : ASp := fun ds M R => ∃ s : Stm, ds = [iT s.1, iT s.2] ∧ s.2 ≠ [] ∧ s.1.length ≤ 1000 ∧ s.2.length ≤ 1000 ∧ R (stV (nf s)) M
theorem nfGo_succ {c : Nat} {f l : List Int} : nfGo (c + 1) f l = if f ≠ [] ∧ last0 f = last0 l then nfGo c f.dropLast (rotR l) else (f, l) := rfl
theorem cmp_neT {X : Cx} {M : Mem} {g : List Int} (hu : X.A.units + 64 < cLine) : Cmp X .NotEq M (iT g) (.tup []) (!decide (g = [])) := cmp_neTI (ns := g) (ms := []) hu
theorem b_normal_form (G : GSl P w K mg base) : BodyOk P w K mg base 1 f n_normal_form "normal_form" (defScope s_normal_form) (defBody s_normal_form) aNf := by
  rintro cdv A outer s H E hr ds M R ⟨⟨f0, l0⟩, rfl, hn, h1, h2, hp⟩
  have hu := hr.u64
  refine as_cons (as_set 1 q_normal_form.nd (ae_g G hr (by decide) (aa_cons ((v_ 1).val (aa_nil (ak_nil ⟨rfl, l0, rfl, hn, h2, ?_⟩))))))
  have hsl := sloop_spec hn
  refine as_cons (as_while (fun c Γ M' => M' = M ∧ ∃ f l, Γ = [some (iT f), some (iT l)] ∧ l ≠ [] ∧ f.length = c ∧ f.length ≤ 1000 ∧ l.length ≤ 1000 ∧ nf (f0, l0) = nfGo c f l) f0.length PassesOwn.never ⟨rfl, f0, sloop l0, rfl, hsl.1, rfl, h1, Nat.le_trans hsl.2.2.2.1 h2, rfl⟩ ?_)
  rintro c Γ M' ⟨rfl, g, l, rfl, hl, hc, hf, hll, hnf⟩
  have sf : g ≠ [] → ∀ {X : Cx} {Γ : Gam} {M : Mem} {e : Expr}, aV X e Γ M (.tup (cutA (g.map Val.int) none (some (-1)))) → aV X e Γ M (iT g.dropLast) := fun hne _ _ _ _ h => by
    rw [cut_map, cut_neg hne] at h
    exact h
  have s1 : ∀ {X : Cx} {Γ : Gam} {M : Mem} {e : Expr}, aV X e Γ M (.tup (cutA (l.map Val.int) none (some (-1)))) → aV X e Γ M (iT l.dropLast) := fun h => by
    rw [cut_map, cut_neg hl] at h
    exact h
  have s2 : ∀ {X : Cx} {Γ : Gam} {M : Mem} {e : Expr}, aV X e Γ M (.tup (cutA (l.map Val.int) (some (-1)) none)) → aV X e Γ M (iT [last0 l]) := fun h => by
    rw [cut_map, cut_end hl] at h
    exact h
  have fin : nf (f0, l0) = (g, l) → aSs (bcx P w K mg base n_normal_form "normal_form" (defScope s_normal_form) f cdv A outer s H E) [(defBody s_normal_form).getD 2 (.Pass ⟨0, 0, 0, 0⟩)] [some (iT g), some (iT l)] M' (kOf R) := fun e => by
    refine as_one (as_ret (aE.val (av_tup (avs_cons (v_ 0) (avs_cons (v_ 1) avs_nil)) szb) (.ok ?_)))
    rw [e] at hp
    exact hp
  by_cases hfe : g = []
  · subst hfe
    refine at_w (aw_and (at_cmp (v_ 0) (av_tup avs_nil szb) (cmp_neT hu) ⟨fun h => ?_, fun _ => ⟨nft, fun _ => fin ?_⟩⟩))
    · simp at h
    · rw [hnf, ← hc]
      rfl
  · have hfl : 0 < g.length := List.length_pos_iff.mpr hfe
    obtain ⟨c', rfl⟩ : ∃ c', c = c' + 1 := ⟨c - 1, by omega⟩
    rw [nfGo_succ] at hnf
    refine at_w (aw_and (at_cmp (v_ 0) (av_tup avs_nil szb) (cmp_neT hu) ⟨fun _ => ?_, fun h => ?_⟩))
    · refine aw_and1 (at_cmp (av_ixT (v_ 0) (av_neg i_) (atI_last hfe)) (av_ixT (v_ 1) (av_neg i_) (atI_last hl)) cmp_eqI ⟨fun h => ?_, fun h => fin ?_⟩)
      · rw [decide_eq_true_eq] at h
        rw [if_pos ⟨hfe, h⟩] at hnf
        refine as_one (as_par 0 1 q_normal_form.nd rfl (by decide) (aa_cons ((sf hfe (av_sliceT (v_ 0) ao_none (ao_some (av_neg i_)))).val (aa_cons (aE.val (av_catT (s2 (av_sliceT (v_ 1) (ao_some (av_neg i_)) ao_none)) (s1 (av_sliceT (v_ 1) ao_none (ao_some (av_neg i_)))) (sz ?_)) (aa_nil ⟨_, _, rfl, c', Nat.lt_succ_self _, rfl, g.dropLast, rotR l, rfl, ?_, ?_, ?_, ?_, hnf⟩))))))
        · simp
          omega
        · unfold rotR
          exact List.cons_ne_nil _ _
        · rw [List.length_dropLast]
          omega
        · rw [List.length_dropLast]
          omega
        · rw [rot_len hl]
          exact hll
      · rw [decide_eq_false_iff_not] at h
        rw [if_neg fun z => h z.2] at hnf
        exact hnf
    · simp [hfe] at h
abbrev GNf (P : Program) (w : World) (K : PySem.W.Frag) (mg : Str → Option Value) (base : Heap) : Prop := Gd P w K mg base 2 "normal_form" [] fun ds _ => aNf ds
/-! ### stream_item -/
def aItem : ASp := fun ds M R => ∃ (s : Stm) (i : Int), ds = [stV s, .int i] ∧ s.2 ≠ [] ∧ 0 ≤ i ∧ R (.int (item s i.toNat)) M
theorem item_lp {s : Stm} {i : Int} (hn : s.2 ≠ []) (h0 : 0 ≤ i) (h : ¬ i < (s.1.length : Int)) : item s i.toNat = at0 s.2 ((i - (s.1.length : Int)) % (s.2.length : Int)) := by
  have hl : 0 < s.2.length := List.length_pos_iff.mpr hn
  rw [item_ge (by omega)]
  unfold lp at0
  have e : i - (s.1.length : Int) = ((i.toNat - s.1.length : Nat) : Int) := by omega
  rw [e, ← Int.natCast_emod, Int.toNat_natCast]
theorem b_stream_item (m3 : mg "len" = none) : BodyOk P w K mg base k f n_stream_item "stream_item" (defScope s_stream_item) (defBody s_stream_item) aItem := by
  rintro cdv A outer s0 H E hr ds M R ⟨s, i, rfl, hn, h0, hp⟩
  have hl : 0 < s.2.length := List.length_pos_iff.mpr hn
  refine as_cons (as_asg ((v_ 0).val (ag_tup rfl (ags_cons (ag_name 2 q_stream_item.nd (ags_cons (ag_name 3 q_stream_item.nd (ags_nil ?_))))))))
  have len1 : ∀ {g : List Int} {X : Cx} {Γ : Gam} {M : Mem} {e : Expr}, aV X e Γ M (.int ((g.map Val.int).length : Nat)) → aV X e Γ M (.int (g.length : Nat)) := fun h => by rw [List.length_map] at h; exact h
  refine as_one (as_ret (ae_ifd (p := i < (s.1.length : Int)) (at_cmp (v_ 1) (len1 (av_len m3 (v_ 2) .t)) cmp_lt ⟨rfl, rfl⟩) (fun h => ?_) (fun h => ?_)))
  · refine aE.val (av_ixT (v_ 2) (v_ 1) (atI_int h0 h)) (.ok ?_)
    have e : item s i.toNat = at0 s.1 i := item_lt (by omega)
    rw [e] at hp
    exact hp
  · refine aE.val (av_ixT (v_ 3) (av_mod (av_sub (v_ 1) (len1 (av_len m3 (v_ 2) .t))) (len1 (av_len m3 (v_ 3) .t)) (by omega)) (atI_int (Int.emod_nonneg _ (by omega)) (Int.emod_lt_of_pos _ (by omega)))) (.ok ?_)
    rw [item_lp hn h0 h] at hp
    exact hp
abbrev GItem (P : Program) (w : World) (K : PySem.W.Frag) (mg : Str → Option Value) (base : Heap) : Prop := Gd P w K mg base 1 "stream_item" [] fun ds _ => aItem ds
end
end K43
namespace Sm
/-! ### streams without their first items, with other ones -/
/-! ### streams item by item -/
def minL : List Int → Int
  | [] => 0
  | x :: xs => xs.foldl (fun a b => if b < a then b else a) x
def maxL : List Int → Int
  | [] => 0
  | x :: xs => xs.foldl (fun a b => if b > a then b else a) x
theorem minL_spec : ∀ (xs : List Int) (x : Int), minL (x :: xs) ∈ x :: xs ∧ ∀ y ∈ x :: xs, minL (x :: xs) ≤ y
  | [], x => ⟨List.mem_cons_self, fun y hy => by
    have : y = x := by simpa using hy
    subst this
    exact Int.le_refl _⟩
  | b :: xs, x => by
    have e : minL (x :: b :: xs) = minL ((if b < x then b else x) :: xs) := rfl
    obtain ⟨h1, h2⟩ := minL_spec xs (if b < x then b else x)
    rw [e]
    have h0 := h2 _ List.mem_cons_self
    refine ⟨?_, fun y hy => ?_⟩
    · rcases List.mem_cons.mp h1 with z | z
      · rw [z]
        split
        · exact List.mem_cons_of_mem _ List.mem_cons_self
        · exact List.mem_cons_self
      · exact List.mem_cons_of_mem _ (List.mem_cons_of_mem _ z)
    · rcases List.mem_cons.mp hy with rfl | hy
      · refine Int.le_trans h0 ?_
        split <;> omega
      · rcases List.mem_cons.mp hy with rfl | hy
        · refine Int.le_trans h0 ?_
          split <;> omega
        · exact h2 y (List.mem_cons_of_mem _ hy)
theorem maxL_spec : ∀ (xs : List Int) (x : Int), maxL (x :: xs) ∈ x :: xs ∧ ∀ y ∈ x :: xs, y ≤ maxL (x :: xs)
  | [], x => ⟨List.mem_cons_self, fun y hy => by
    have : y = x := by simpa using hy
    subst this
    exact Int.le_refl _⟩
  | b :: xs, x => by
    have e : maxL (x :: b :: xs) = maxL ((if b > x then b else x) :: xs) := rfl
    obtain ⟨h1, h2⟩ := maxL_spec xs (if b > x then b else x)
    rw [e]
    have h0 := h2 _ List.mem_cons_self
    refine ⟨?_, fun y hy => ?_⟩
    · rcases List.mem_cons.mp h1 with z | z
      · rw [z]
        split
        · exact List.mem_cons_of_mem _ List.mem_cons_self
        · exact List.mem_cons_self
      · exact List.mem_cons_of_mem _ (List.mem_cons_of_mem _ z)
    · rcases List.mem_cons.mp hy with rfl | hy
      · refine Int.le_trans ?_ h0
        split <;> omega
      · rcases List.mem_cons.mp hy with rfl | hy
        · refine Int.le_trans ?_ h0
          split <;> omega
        · exact h2 y (List.mem_cons_of_mem _ hy)
theorem min_is {ns : List Int} {m : Int} (h1 : m ∈ ns) (h2 : ∀ y ∈ ns, m ≤ y) : m = minL ns := by
  cases ns with
  | nil => cases h1
  | cons x xs =>
    obtain ⟨a, b⟩ := minL_spec xs x
    exact Int.le_antisymm (h2 _ a) (b _ h1)
theorem max_is {ns : List Int} {m : Int} (h1 : m ∈ ns) (h2 : ∀ y ∈ ns, y ≤ m) : m = maxL ns := by
  cases ns with
  | nil => cases h1
  | cons x xs =>
    obtain ⟨a, b⟩ := maxL_spec xs x
    exact Int.le_antisymm (b _ h1) (h2 _ a)
/-! ### the least common multiple, step by step -/
end Sm
namespace Ab
open PySem PySem.Spec PyProof.Rows L2
section
variable {X : Cx} {Γ : Gam} {M : Mem} {k : AK} {sts : List Stmt} {pos : Pos} {y : Str} {n : Nat}
/-- y = [.. for ..], items told by their number, never changed behind it -/
theorem as_lcP {tg iter elt : Expr} {scope : Scope} {py spos : Pos} (m : Nat) (own : List (Str × Nat)) {it : Nat → Val} (g : Nat → Val) (hc : X.calm = true) (hN : X.N.Nodup) (ok : BlkOk X.N X.env.scope scope own)
    (hi : aI X tg iter Γ M n it (fun _ => True) (fun M' => M' = M))
    (hs : ∀ i acc D, i < n → bG X scope (own.map (·.2)) tg (it i) (wipeG Γ (own.map (·.2))) ((D, .lst acc) :: M) fun Γ2 M2 => bE X scope elt Γ2 M2 fun y M4 => y = g i ∧ M4 = (D, .lst acc) :: M)
    (hn : n ≤ 100000) (h : aSs X sts (Γ.set m (some (.lst ((List.range n).map g)))) M k) (hm : m < Γ.length := by exact Nat.le_of_ble_eq_true rfl) (hy : X.N[m]? = some y := by rfl) (hyl : X.env.scope.names.lookup y = some .local := by rfl)
    (hsw : swapsWith (.ListComp elt [⟨tg, iter, [], 0⟩] scope pos) (some (.Name y py)) spos.line X.env = pure true := by exact sw_true rfl rfl rfl (by decide +kernel))
    (hf : ∀ x, foldedSetIterable iter X.env x = pure x := by intro _; rfl) :
    aSs X (.Assign [.Name y py] (.ListComp elt [⟨tg, iter, [], 0⟩] scope pos) spos :: sts) Γ M k := by
  refine as_cons (as_lcJ m own hc hN ok (aj_ai hi fun M1 e => ?_) hy hyl hsw hf)
  subst e
  refine ⟨hn, fun i acc M' => M' = M1 ∧ acc = (List.range i).map g, ⟨rfl, rfl⟩, ?_, ?_⟩
  · rintro i acc M' D hi' _ ⟨rfl, rfl⟩ s H C cl fp
    intro Hi1 H1 σ1 v1 ok1 en1 r1 Q1 q1
    refine hs i _ D hi' s H C cl fp Hi1 H1 σ1 v1 ok1 en1 r1 Q1 fun Γ2 M2 σ2 Hi2 H2 h2 => q1 Γ2 M2 σ2 Hi2 H2 fun s' H' C' cl' fp' => ats_nil ⟨fun _ s2 H2 C2 cl2 fp2 => (h2 s2 H2 C2 cl2 fp2).mono fun y M4 hy => ?_, fun z => nomatch z⟩
    obtain ⟨rfl, rfl⟩ := hy
    exact ⟨_, rfl, rfl, by rw [List.range_succ, List.map_append]; rfl⟩
  · rintro D acc M' ⟨rfl, rfl⟩
    refine as_frz m (by rw [List.getElem?_set_self hm]) ?_
    rw [List.set_set]
    exact h
end
end Ab
namespace K43
open PySem L2 Ab Sm
section
variable {P : Program} {w : World} {K : PySem.W.Frag} {mg : Str → Option Value} {base : Heap} {k : Nat} {f C : Addr}
/-! ### stream_without, with_front, with_first -/
/-! ### common_multiple -/
def nL (ns : List Nat) : List Int := ns.map fun (n : Nat) => (n : Int)
end
end K43
namespace K43
open PySem L2 Ab Sm
inductive Wd where
  | sum | least | greatest
def Wd.str : Wd → Str
  | .sum => "sum"
  | .least => "least"
  | .greatest => "greatest"
def opV : Wd → List Int → Int
  | .sum, ns => ns.sum
  | .least, ns => minL ns
  | .greatest, ns => maxL ns
end K43
namespace K43
open PySem L2 Ab Sm
/-! ### schedules -/
structure Lim (s : Stm) : Prop where
  l1 : s.1.length ≤ 12
  l2 : s.2.length ≤ 6
  ne : s.2 ≠ []
  a1 : ∀ v ∈ s.1, okI v
  a2 : ∀ v ∈ s.2, okI v
structure Sc where
  a : Int
  sp : Stm
  lv : Stm
def schF (S : Sc) : List (Str × Val) := [("own_arity", .int S.a), ("own_spine", stV S.sp), ("own_levels", stV S.lv)]
def scV (C : Addr) (S : Sc) : Val := .obj C (schF S)
structure GoodS (S : Sc) : Prop where
  a2 : 2 ≤ S.a
  a9 : S.a ≤ 9
  ns : NF S.sp
  ls : Lim S.sp
  nl : NF S.lv
  ll : Lim S.lv
  lf : item S.lv 0 ≠ 0
theorem item_mem {s : Stm} (hn : s.2 ≠ []) (i : Nat) : item s i ∈ s.1 ∨ item s i ∈ s.2 := by
  have hl : 0 < s.2.length := List.length_pos_iff.mpr hn
  by_cases h : i < s.1.length
  · left
    rw [item_lt h, gd_eq h]
    exact List.getElem_mem h
  · right
    rw [item_ge (by omega)]
    unfold lp
    rw [gd_eq (Nat.mod_lt _ hl)]
    exact List.getElem_mem _
theorem Lim.item {s : Stm} (h : Lim s) (i : Nat) : okI (item s i) := by
  rcases item_mem h.ne i with z | z
  · exact h.a1 _ z
  · exact h.a2 _ z
theorem GoodS.ext {S T : Sc} (hS : GoodS S) (hT : GoodS T) (ha : S.a = T.a) (h1 : ∀ i, item S.sp i = item T.sp i) (h2 : ∀ i, item S.lv i = item T.lv i) : S = T := by
  cases S
  cases T
  have e1 := uniq hS.ns hT.ns h1
  have e2 := uniq hS.nl hT.nl h2
  subst ha e1 e2
  rfl
structure Rs (K : PySem.W.Frag) (mg : Str → Option Value) (C : Addr) : Prop where
  cl : Cls K C
  nA : NoAttr K C "own_arity"
  nS : NoAttr K C "own_spine"
  nL : NoAttr K C "own_levels"
  gC : mg "Schedule" = some (.ref C)
structure Lm (mg : Str → Option Value) (t1 t2 t3 t4 : Tok) : Prop where
  f : mg "FRONT_LIMIT" = some (.int 12 t1)
  l : mg "LOOP_LIMIT" = some (.int 6 t2)
  b : mg "LABEL_LIMIT" = some (.int 1000000 t3)
  a : mg "ARITY_LIMIT" = some (.int 9 t4)
theorem look_a {S : Sc} : (schF S).lookup ("own_arity" : Str) = some (.int S.a) := by rfl
theorem look_s {S : Sc} : (schF S).lookup ("own_spine" : Str) = some (stV S.sp) := by rfl
theorem look_l {S : Sc} : (schF S).lookup ("own_levels" : Str) = some (stV S.lv) := by rfl
section
variable {P : Program} {w : World} {K : PySem.W.Frag} {mg : Str → Option Value} {base : Heap} {k : Nat} {f C : Addr} {t1 t2 t3 t4 : Tok}
/-! ### checked_stream -/
/-! ### Schedule.is_stream, __init__ -/
def aIss : ASp := fun ds M R => ∃ s : Stm, ds = [stV s] ∧ Lim s ∧ R (.bl true) M
theorem b_is_stream (L : Lm mg t1 t2 t3 t4) (G : GItems P w K mg base) (m1 : mg "isinstance" = none) (m2 : mg "tuple" = none) (m3 : mg "len" = none) : BodyOk P w K mg base 2 f n_Schedule_is_stream "Schedule.is_stream" (defScope c_Schedule_is_stream) (defBody c_Schedule_is_stream) aIss := by
  rintro cdv A outer s0 H E hr ds M R ⟨s, rfl, hs, hp⟩
  have hpos : 0 < s.2.length := List.length_pos_iff.mpr hs.ne
  have q1 := hs.l1
  have q2 := hs.l2
  refine as_cons (as_if (at_w (aw_or (at_not (at_val (ae_isi m1 (v_ 0) (av_ty (T := "tuple") m2 (by decide +kernel)) (.ty "tuple") (.tup _) (kit_ty (by decide +kernel)) ⟨true, rfl, nft, fun _ => ?_⟩))))))
  refine aw_or1 (at_cmp (av_len m3 (v_ 0) .t) i_ cmp_neI ⟨nft, fun _ => as_nil ?_⟩)
  refine as_one (as_ret (ae_and (ae_g G hr (by decide) (aa_cons ((av_ixT (v_ 0) i_ rfl).val (aa_cons (i_.val (aa_cons ((av_gint L.f).val (aa_nil (ak_nil ⟨rfl, s.1, 0, 12, rfl, by omega, by omega, by decide, hs.a1, true, rfl, fun _ => ?_, ntf⟩)))))))))))
  exact ae_one (ae_g G hr (by decide) (aa_cons ((av_ixT (v_ 0) i_ rfl).val (aa_cons (i_.val (aa_cons ((av_gint L.l).val (aa_nil (ak_nil ⟨rfl, s.2, 1, 6, rfl, by omega, by omega, by decide, hs.a2, .ok hp⟩)))))))))
structure Cs (P : Program) (w : World) (K : PySem.W.Frag) (mg : Str → Option Value) (base : Heap) (C p g : Addr) : Prop where
  rd : ClX.CRead K C (.type "type")
  sm : SMet K C (.type "type") "is_stream" p g
  fx : FX P w K mg base 3 g fun ds _ => aIss ds
def aInitS (C : Addr) : ASp := fun ds M R => ∃ (p : Addr) (a : Int) (sp lv : Stm) (M0 : Mem), ds = [.ptr p, .int a, stV sp, stV lv] ∧ M = (p, .ins C []) :: M0 ∧ 2 ≤ a ∧ a ≤ 9 ∧ Lim sp ∧ Lim lv ∧ item lv 0 ≠ 0 ∧ R .non ((p, .ins C (schF ⟨a, nf sp, nf lv⟩)) :: M0)
theorem b_init {pS gS : Addr} (T : Rs K mg C) (L : Lm mg t1 t2 t3 t4) (G1 : GInt P w K mg base) (G2 : Cs P w K mg base C pS gS) (G3 : GItem P w K mg base) (G4 : GNf P w K mg base) :
    BodyOk P w K mg base 3 f n_Schedule___init__ "Schedule.__init__" (defScope c_Schedule___init__) (defBody c_Schedule___init__) (aInitS C) := by
  rintro cdv A outer s0 H E hr ds M R ⟨p, a, sp, lv, M0, rfl, rfl, ha2, ha9, hs, hl, h0, hp⟩
  have q1 := hs.l1
  have q2 := hs.l2
  have q3 := hl.l1
  have q4 := hl.l2
  refine as_cons (as_if (at_not (at_val (ae_g G1 hr (by decide) (aa_cons ((v_ 1).val (aa_nil (ak_cons (i_.val (ak_cons ((av_gint L.a).val (ak_nil ⟨rfl, rfl, a, some 2, some 9, rfl, true, ?_, nft, fun _ => as_nil ?_⟩))))))))))))
  · have e : within a (some 2) (some 9) = true := by simp [within]; omega
    rw [e]
  refine as_cons (as_if (at_not (at_val (ae_smeth G2.rd G2.sm G2.fx hr (ae_glob T.gC ⟨rfl, rfl⟩) (aa_cons ((v_ 2).val (aa_nil (ak_nil ⟨rfl, sp, rfl, hs, true, rfl, nft, fun _ => as_nil ?_⟩))))))))
  refine as_cons (as_if (at_not (at_val (ae_smeth G2.rd G2.sm G2.fx hr (ae_glob T.gC ⟨rfl, rfl⟩) (aa_cons ((v_ 3).val (aa_nil (ak_nil ⟨rfl, lv, rfl, hl, true, rfl, nft, fun _ => as_nil ?_⟩))))))))
  refine as_cons (as_if (at_cmpM (ae_g G3 hr (by decide) (aa_cons ((v_ 3).val (aa_cons (i_.val (aa_nil (ak_nil ⟨rfl, lv, 0, rfl, hl.ne, by decide, i_.val ⟨_, cmp_eqI, fun h => ?_, fun _ => as_nil ?_⟩⟩)))))))))
  · rw [decide_eq_true_eq] at h
    exact absurd h h0
  refine as_cons (as_fld T.cl T.nA ((v_ 1).val ((v_ 0).val ⟨0, p, _, rfl, rfl, Nat.le_of_ble_eq_true rfl, ?_⟩)))
  refine as_cons (as_fld T.cl T.nS (ae_g G4 hr (by decide) (aa_cons ((av_ixT (v_ 2) i_ rfl).val (aa_cons ((av_ixT (v_ 2) i_ rfl).val (aa_nil (ak_nil ⟨rfl, sp, rfl, hs.ne, by omega, by omega, (v_ 0).val ⟨0, p, _, rfl, rfl, Nat.le_of_ble_eq_true rfl, ?_⟩⟩))))))))
  refine as_one (as_fld T.cl T.nL (ae_g G4 hr (by decide) (aa_cons ((av_ixT (v_ 3) i_ rfl).val (aa_cons ((av_ixT (v_ 3) i_ rfl).val (aa_nil (ak_nil ⟨rfl, lv, rfl, hl.ne, by omega, by omega, (v_ 0).val ⟨0, p, _, rfl, rfl, Nat.le_of_ble_eq_true rfl, .ok ?_⟩⟩))))))))
  exact hp
structure Mks (P : Program) (w : World) (K : PySem.W.Frag) (mg : Str → Option Value) (base : Heap) (C : Addr) : Prop where
  ex : ∃ fi, Mk K C fi ∧ FnX P w K mg base 4 fi ["spine", "levels"] (spX K fun ds es M R => ds.length = 2 ∧ aInitS C (ds ++ es) M R)
/-- Schedule(a, spine=s, levels=l) -/
theorem ae_sch {X : Cx} {Γ : Gam} {M : Mem} {R : Val → Mem → Prop} {e e1 e2 : Expr} {p1 p2 p3 pos : Pos} {m : Nat} (T : Rs X.K X.mg C) (I : Mks X.prog X.w X.K X.mg X.base C) (hr : Rm m X.A) (hm : 5 ≤ m)
    (h : aE X e Γ M fun x M1 => aE X e1 Γ M1 fun y M2 => aE X e2 Γ M2 fun z M3 => ∃ a sp lv, x = .int a ∧ y = stV sp ∧ z = stV lv ∧ 2 ≤ a ∧ a ≤ 9 ∧ Lim sp ∧ Lim lv ∧ item lv 0 ≠ 0 ∧ R (scV C ⟨a, nf sp, nf lv⟩) M3)
    (hg : Gl X "Schedule" := by rfl) (he : starEach [e] X.env = (false, eval e X.env) :: starEach [] X.env := by rfl) : aE X (.Call (.Name "Schedule" p1) [e] [⟨some "spine", e1, p2⟩, ⟨some "levels", e2, p3⟩] pos) Γ M R := by
  obtain ⟨fi, mk, F⟩ := I.ex
  refine ae_frzO (ae_make mk F (hr.mono hm) T.gC (aa_cons (h.mono fun x M1 h1 => aa_nil (ak_cons (h1.mono fun y M2 h2 => ak_cons (h2.mono fun z M3 h3 => ak_nil ⟨rfl, fun p hn => ⟨rfl, ?_⟩⟩)))) he) hg rfl rfl (by decide) he (by rw [he]; rfl))
  obtain ⟨a, sp, lv, rfl, rfl, rfl, a2, a9, hs, hl, h0, hR⟩ := h3
  exact ⟨p, a, sp, lv, M3, rfl, rfl, a2, a9, hs, hl, h0, rfl, p, C, _, _, rfl, rfl, hR⟩
/-! ### made_schedule -/
end
end K43
namespace K43
open PySem L2 Ab Sm
/-- a made schedule is good -/
theorem good_nf {a : Int} {s l : Stm} (a2 : 2 ≤ a) (a9 : a ≤ 9) (h1 : s.2 ≠ []) (h2 : l.2 ≠ []) (ls : Lim (nf s)) (ll : Lim (nf l)) (h0 : item l 0 ≠ 0) : GoodS ⟨a, nf s, nf l⟩ :=
  ⟨a2, a9, (nf_spec h1).nf, ls, (nf_spec h2).nf, ll, by rw [(nf_spec h2).it]; exact h0⟩
theorem lim_nf {s : Stm} (hn : s.2 ≠ []) (h1 : s.1.length ≤ 12) (h2 : s.2.length ≤ 6) (h3 : ∀ v ∈ s.1, okI v) (h4 : ∀ v ∈ s.2, okI v) : Lim (nf s) :=
  have q := nf_spec hn
  ⟨Nat.le_trans q.l1 h1, Nat.le_trans q.l2 h2, q.nf.ne, fun v hv => h3 v (q.m1 v hv), fun v hv => h4 v (q.m2 v hv)⟩
section
variable {P : Program} {w : World} {K : PySem.W.Frag} {mg : Str → Option Value} {base : Heap} {k : Nat} {f C : Addr} {t1 t2 t3 t4 : Tok}
theorem av_a {X : Cx} {Γ : Gam} {M : Mem} {e : Expr} {S : Sc} {pos : Pos} (T : Rs X.K X.mg C) (h : aV X e Γ M (scV C S)) (hb : attributeBase e "own_arity" X.env (eval e X.env) = eval e X.env := by rfl) : aV X (.Attribute e "own_arity" pos) Γ M (.int S.a) := av_fld T.cl T.nA h (.im _) look_a hb
theorem av_s {X : Cx} {Γ : Gam} {M : Mem} {e : Expr} {S : Sc} {pos : Pos} (T : Rs X.K X.mg C) (h : aV X e Γ M (scV C S)) (hb : attributeBase e "own_spine" X.env (eval e X.env) = eval e X.env := by rfl) : aV X (.Attribute e "own_spine" pos) Γ M (stV S.sp) := av_fld T.cl T.nS h (.im _) look_s hb
theorem av_l {X : Cx} {Γ : Gam} {M : Mem} {e : Expr} {S : Sc} {pos : Pos} (T : Rs X.K X.mg C) (h : aV X e Γ M (scV C S)) (hb : attributeBase e "own_levels" X.env (eval e X.env) = eval e X.env := by rfl) : aV X (.Attribute e "own_levels" pos) Γ M (stV S.lv) := av_fld T.cl T.nL h (.im _) look_l hb
/-! ### spine_at, level_at, arity -/
def aSat (C : Addr) : ASp := fun ds M R => ∃ (S : Sc) (i : Int), ds = [scV C S, .int i] ∧ GoodS S ∧ 0 ≤ i ∧ R (.int (item S.sp i.toNat)) M
def aLat (C : Addr) : ASp := fun ds M R => ∃ (S : Sc) (i : Int), ds = [scV C S, .int i] ∧ GoodS S ∧ 0 ≤ i ∧ R (.int (item S.lv i.toNat)) M
theorem b_spine_at (T : Rs K mg C) (G1 : GChk P w K mg base) (G2 : GItem P w K mg base) : BodyOk P w K mg base 2 f n_Schedule_spine_at "Schedule.spine_at" (defScope c_Schedule_spine_at) (defBody c_Schedule_spine_at) (aSat C) := by
  rintro cdv A outer s0 H E hr ds M R ⟨S, i, rfl, hS, h0, hp⟩
  refine as_cons (as_expr (ae_g G1 hr (by decide) (aa_cons ((v_ 1).val (aa_cons (i_.val (aa_nil (ak_nil ⟨rfl, rfl, i, 0, rfl, h0, ?_⟩))))))))
  exact as_one (as_ret (ae_g G2 hr (by decide) (aa_cons ((av_s T (v_ 0)).val (aa_cons ((v_ 1).val (aa_nil (ak_nil ⟨rfl, S.sp, i, rfl, hS.ns.ne, h0, .ok hp⟩))))))))
theorem b_level_at (T : Rs K mg C) (G1 : GChk P w K mg base) (G2 : GItem P w K mg base) : BodyOk P w K mg base 2 f n_Schedule_level_at "Schedule.level_at" (defScope c_Schedule_level_at) (defBody c_Schedule_level_at) (aLat C) := by
  rintro cdv A outer s0 H E hr ds M R ⟨S, i, rfl, hS, h0, hp⟩
  refine as_cons (as_expr (ae_g G1 hr (by decide) (aa_cons ((v_ 1).val (aa_cons (i_.val (aa_nil (ak_nil ⟨rfl, rfl, i, 0, rfl, h0, ?_⟩))))))))
  exact as_one (as_ret (ae_g G2 hr (by decide) (aa_cons ((av_l T (v_ 0)).val (aa_cons ((v_ 1).val (aa_nil (ak_nil ⟨rfl, S.lv, i, rfl, hS.nl.ne, h0, .ok hp⟩))))))))
def aAri (C : Addr) : ASp := fun ds M R => ∃ (S : Sc), ds = [scV C S] ∧ R (.int S.a) M
theorem b_arity (T : Rs K mg C) : BodyOk P w K mg base k f n_Schedule_arity "Schedule.arity" (defScope c_Schedule_arity) (defBody c_Schedule_arity) (aAri C) := by
  rintro cdv A outer s0 H E hr ds M R ⟨S, rfl, hp⟩
  exact as_one (as_ret ((av_a T (v_ 0)).val (.ok hp)))
/-! ### delayed, times -/
end
end K43
namespace K43
open PySem L2 Ab Sm
/-! ### == of schedules -/
theorem toD_st (s : Stm) : toD (stV s) = some (.tuple [.tuple (s.1.map PyData.int), .tuple (s.2.map PyData.int)]) := by
  refine toD_tup ?_
  unfold toDs
  rw [show toD (iT s.1) = some (.tuple (s.1.map PyData.int)) from toD_tup (toDs_ints s.1)]
  show ((toDs [iT s.2]).map fun ds => PyData.tuple (s.1.map PyData.int) :: ds) = _
  unfold toDs
  rw [show toD (iT s.2) = some (.tuple (s.2.map PyData.int)) from toD_tup (toDs_ints s.2)]
  rfl
theorem shaped_st (s : Stm) : SeqAt.shaped (.tuple [.tuple (s.1.map PyData.int), .tuple (s.2.map PyData.int)]) = true := by
  simp [SeqAt.shaped, PyData.canLay0, PyData.canLayAll0, PyData.depth, PyData.depthAll, lay_ints, dep_ints]
theorem eqv_st (s t : Stm) : PyData.eqv (.tuple [.tuple (s.1.map PyData.int), .tuple (s.2.map PyData.int)]) (.tuple [.tuple (t.1.map PyData.int), .tuple (t.2.map PyData.int)]) = decide (s = t) := by
  simp only [PyData.eqv, PyData.eqvAll, eqv_ints, Bool.and_true]
  obtain ⟨a, b⟩ := s
  obtain ⟨c, d⟩ := t
  simp [Prod.mk.injEq]
theorem cmp_eqST {X : Cx} {M : Mem} {s t : Stm} (hu : X.A.units + 64 < cLine) : Cmp X .Eq M (stV s) (stV t) (decide (s = t)) := by
  have h := cmp_eqD (X := X) (M := M) (.self (stV s)) (.self (stV t)) (toD_st s) (toD_st t) (shaped_st s) (shaped_st t) hu
  rw [eqv_st] at h
  exact h
noncomputable def relS (fs gs : List (Str × Val)) : Bool := @decide (fs = gs) (Classical.propDecidable _)
def goodF (fs : List (Str × Val)) : Prop := ∃ S : Sc, fs = schF S ∧ GoodS S
theorem iT_inj {xs ys : List Int} (h : iT xs = iT ys) : xs = ys := by
  unfold iT at h
  have h2 : xs.map Val.int = ys.map Val.int := by injection h
  exact List.map_inj_right (fun a b e => by injection e) |>.mp h2
theorem stV_inj {s t : Stm} (h : stV s = stV t) : s = t := by
  unfold stV at h
  have h2 : [iT s.1, iT s.2] = [iT t.1, iT t.2] := by injection h
  have h3 := (List.cons.inj h2).1
  have h4 := (List.cons.inj (List.cons.inj h2).2).1
  exact Prod.ext (iT_inj h3) (iT_inj h4)
theorem schF_inj {S T : Sc} (h : schF S = schF T) : S = T := by
  unfold schF at h
  have h1 := (List.cons.inj h).1
  have h2 := (List.cons.inj (List.cons.inj h).2).1
  have h3 := (List.cons.inj (List.cons.inj (List.cons.inj h).2).2).1
  have e1 : Val.int S.a = Val.int T.a := (Prod.mk.inj h1).2
  have e2 := stV_inj (Prod.mk.inj h2).2
  have e3 := stV_inj (Prod.mk.inj h3).2
  cases S
  cases T
  cases e1
  simp only at e2 e3
  subst e2 e3
  rfl
theorem rel_eq {S T : Sc} (h : S = T) : relS (schF S) (schF T) = true := by
  unfold relS
  exact @decide_eq_true _ (Classical.propDecidable _) (by rw [h])
theorem rel_ne {S T : Sc} (h : S ≠ T) : relS (schF S) (schF T) = false := by
  unfold relS
  exact @decide_eq_false _ (Classical.propDecidable _) fun z => h (schF_inj z)
/-- what isinstance asks of the class -/
structure Isi (K : PySem.W.Frag) (C : Addr) : Prop where
  c1 : PySem.W.findIn K (.ref C) "__class__" = some (some (.builtin "object.__class__"))
  c2 : PySem.W.specialIn K (.builtin "object.__class__") "__get__" = some (some (.builtin "getset_descriptor.__get__"))
  c3 : PySem.W.takesIn K (.builtin "object.__class__") = some true
  c4 : PySem.W.mroIn K C (.type "object") = some true
  c5 : PySem.W.kitOne K (.ref C) (.ref C) = some true
section
variable {P : Program} {w : World} {K : PySem.W.Frag} {mg : Str → Option Value} {base : Heap} {k : Nat} {f C : Addr} {t1 t2 t3 t4 : Tok}
theorem ty_sc {M : Mem} {S : Sc} (T : Rs K mg C) (I : Isi K C) : TyV K M (scV C S) (.ref C) := .ob (.im _) T.cl I.c1 I.c2 I.c3 I.c4
def aEqS (C : Addr) : ASp := fun ds M R => ∃ fs gs, ds = [.obj C fs, .obj C gs] ∧ goodF fs ∧ goodF gs ∧ R (.bl (relS fs gs)) M
theorem b_eq (T : Rs K mg C) (I : Isi K C) (m1 : mg "isinstance" = none) : BodyOk P w K mg base k f n_Schedule___eq__ "Schedule.__eq__" (defScope c_Schedule___eq__) (defBody c_Schedule___eq__) (aEqS C) := by
  rintro cdv A outer s0 H E hr ds M R ⟨fs, gs, rfl, ⟨S, rfl, hS⟩, ⟨S', rfl, hS'⟩, hp⟩
  have hu := hr.u64
  refine as_cons (as_if (at_w (aw_or (at_not (at_val (ae_isi m1 (d1 := scV C S') (v_ 1) (ae_glob T.gC ⟨rfl, rfl⟩) (.own C) (ty_sc T I) I.c5 ⟨true, rfl, nft, fun _ => ?_⟩))))))
  have v0 : ∀ {X : Cx} {Γ : Gam} {M : Mem} {e : Expr}, aV X e Γ M (.obj C (schF S)) → aV X e Γ M (scV C S) := fun h => h
  have v1 : ∀ {X : Cx} {Γ : Gam} {M : Mem} {e : Expr}, aV X e Γ M (.obj C (schF S')) → aV X e Γ M (scV C S') := fun h => h
  by_cases ha : S.a = S'.a
  · refine aw_or1 (at_cmp (av_a T (v0 (v_ 0))) (av_a T (v1 (v_ 1))) cmp_neI ⟨fun h => ?_, fun _ => as_nil ?_⟩)
    · rw [decide_eq_true ha] at h
      exact absurd h (by decide)
    refine as_one (as_ret (ae_and (ae_cmp (av_s T (v0 (v_ 0))) (av_s T (v1 (v_ 1))) (cmp_eqST hu) ⟨_, rfl, fun h => ?_, fun h => .ok ?_⟩)))
    · rw [decide_eq_true_eq] at h
      refine ae_one (ae_cmp (av_l T (v0 (v_ 0))) (av_l T (v1 (v_ 1))) (cmp_eqST hu) (.ok ?_))
      by_cases hl : S.lv = S'.lv
      · rw [decide_eq_true hl]
        have e : S = S' := by
          cases S
          cases S'
          simp only at ha h hl
          subst ha h hl
          rfl
        rw [rel_eq e] at hp
        exact hp
      · rw [decide_eq_false hl]
        rw [rel_ne (S := S) (T := S') fun z => hl (by rw [z])] at hp
        exact hp
    · rw [decide_eq_false_iff_not] at h
      rw [rel_ne (S := S) (T := S') fun z => h (by rw [z])] at hp
      exact hp
  · refine aw_or1 (at_cmp (av_a T (v0 (v_ 0))) (av_a T (v1 (v_ 1))) cmp_neI ⟨fun _ => ?_, fun h => ?_⟩)
    · refine as_one (as_ret (ae_bl (.ok ?_)))
      rw [rel_ne (S := S) (T := S') fun z => ha (by rw [z])] at hp
      exact hp
    · rw [decide_eq_false ha] at h
      exact absurd h (by decide)
/-! ### combined_schedules -/
end
/-- six items on, from the twelfth -/
def P6 (s : Stm) : Prop := ∀ i, 12 ≤ i → item s (i + 6) = item s i
end K43
namespace Ab
open PySem PySem.Spec PyProof.Rows L2
end Ab
namespace Ab
open PySem PySem.Spec PyProof.Rows L2
/-! ### tests by a plain Prop -/
section
variable {X : Cx} {Γ : Gam} {M : Mem} {P : Val → Mem → Prop} {e a b c o : Expr} {es : List Expr} {pos p1 p2 apos kpos : Pos} {k : AK} {d d1 d2 d3 : Val} {i j l : Int} {x y m : Str} {n : Nat} {f C : Addr} {p q : Prop}
def TP (X : Cx) (c : Expr) (Γ : Gam) (M : Mem) (p : Prop) : Prop := ∃ b : Bool, aB X c Γ M b ∧ (b = true ↔ p)
def WP (X : Cx) (c : Expr) (Γ : Gam) (M : Mem) (p : Prop) : Prop := ∃ b : Bool, (aW X c Γ M fun x M' => x = b ∧ M' = M) ∧ (b = true ↔ p)
def CP (X : Cx) (op : CmpOp) (M : Mem) (x y : Val) (p : Prop) : Prop := ∃ b : Bool, Cmp X op M x y b ∧ (b = true ↔ p)
theorem cp_lt : CP X .Lt M (.int i) (.int j) (i < j) := ⟨_, cmp_lt, decide_eq_true_iff⟩
theorem cp_le : CP X .LtE M (.int i) (.int j) (i ≤ j) := ⟨_, cmp_le, decide_eq_true_iff⟩
theorem cp_gt : CP X .Gt M (.int i) (.int j) (j < i) := ⟨_, cmp_gt, decide_eq_true_iff⟩
theorem cp_ge : CP X .GtE M (.int i) (.int j) (j ≤ i) := ⟨_, cmp_ge, decide_eq_true_iff⟩
theorem cp_eq : CP X .Eq M (.int i) (.int j) (i = j) := ⟨_, cmp_eqI, decide_eq_true_iff⟩
theorem cp_ne : CP X .NotEq M (.int i) (.int j) (i ≠ j) := ⟨_, cmp_neI, by simp⟩
theorem cp_eqS {x y : Str} : CP X .Eq M (.str x) (.str y) (x = y) := ⟨_, cmp_eqS, decide_eq_true_iff⟩
theorem cp_isN : CP X .Is M d .non (d.isN = true) := ⟨_, cmp_isN, Iff.rfl⟩
theorem cp_notN : CP X .IsNot M d .non (d.isN = false) := ⟨_, cmp_notN, by cases d.isN <;> simp⟩
theorem cp_neL {ns ms : List Int} (v1 : Vw M d1 (.lst (ns.map .int))) (v2 : Vw M d2 (.lst (ms.map .int))) (hu : X.A.units + 64 < cLine) : CP X .NotEq M d1 d2 (ns ≠ ms) := ⟨_, cmp_neLI v1 v2 hu, by simp⟩
theorem cp_neT {ns ms : List Int} (hu : X.A.units + 64 < cLine) : CP X .NotEq M (.tup (ns.map .int)) (.tup (ms.map .int)) (ns ≠ ms) := ⟨_, cmp_neTI hu, by simp⟩
theorem tp_cmp {op : CmpOp} (ha : aV X a Γ M d1) (hb : aV X b Γ M d2) (hc : CP X op M d1 d2 p) (hm : behindInMarks op b = false := by first | exact nomark _ | rfl) : TP X (.Compare a [op] [b] pos) Γ M p := by
  obtain ⟨k, h, i⟩ := hc
  exact ⟨k, at_cmp ha hb h ⟨rfl, rfl⟩ hm, i⟩
theorem tp_chain {op op' : CmpOp} (ha : aV X a Γ M d1) (hb : aV X b Γ M d2) (hc : aV X c Γ M d3) (h1 : CP X op M d1 d2 p) (h2 : CP X op' M d2 d3 q) (hm : lastMarks [op, op'] [b, c] = false := by with_unfolding_all rfl) : TP X (.Compare a [op, op'] [b, c] pos) Γ M (p ∧ q) := by
  obtain ⟨k1, h1, i1⟩ := h1
  obtain ⟨k2, h2, i2⟩ := h2
  exact ⟨k1 && k2, at_chain ha hb hc h1 h2 ⟨rfl, rfl⟩ hm, by rw [Bool.and_eq_true, i1, i2]⟩
theorem tp_not (h : TP X a Γ M p) : TP X (.UnaryOp .Not a pos) Γ M (¬ p) := by
  obtain ⟨b, h, i⟩ := h
  exact ⟨!b, at_not (h.val ⟨rfl, rfl⟩), by rw [← i]; cases b <;> simp⟩
theorem tp_val {k : Bool} (h : aV X e Γ M (.bl k)) (he : ∀ whole, isTrue e X.env whole = (do let v ← whole; standAt e.pos; holding [v] (truthy v)) := by intro _; rfl) : TP X e Γ M (k = true) := ⟨k, at_val (h.val ⟨_, rfl, rfl, rfl⟩) he, Iff.rfl⟩
theorem tp_w (h : WP X e Γ M p) : TP X e Γ M p := by
  obtain ⟨k, h, i⟩ := h
  exact ⟨k, at_w h, i⟩
theorem wp_and1 (h : TP X a Γ M p) : WP X (.BoolOp .And [a] pos) Γ M p := by
  obtain ⟨k, h, i⟩ := h
  exact ⟨k, aw_and1 h, i⟩
theorem wp_or1 (h : TP X a Γ M p) : WP X (.BoolOp .Or [a] pos) Γ M p := by
  obtain ⟨k, h, i⟩ := h
  exact ⟨k, aw_or1 h, i⟩
theorem wp_and {rest : List Expr} (h : TP X a Γ M p) (h2 : p → WP X (.BoolOp .And (b :: rest) pos) Γ M q) : WP X (.BoolOp .And (a :: b :: rest) pos) Γ M (p ∧ q) := by
  obtain ⟨k, h, i⟩ := h
  cases k with
  | true =>
    obtain ⟨k2, h2, i2⟩ := h2 (i.mp rfl)
    exact ⟨k2, aw_and (h.val ⟨fun _ => h2, fun z => nomatch z⟩), by rw [i2]; exact ⟨fun z => ⟨i.mp rfl, z⟩, fun z => z.2⟩⟩
  | false => exact ⟨false, aw_and (h.val ⟨(fun z => nomatch z), fun _ => ⟨rfl, rfl⟩⟩), ⟨(fun z => nomatch z), fun z => i.mpr z.1⟩⟩
theorem wp_or {rest : List Expr} (h : TP X a Γ M p) (h2 : ¬ p → WP X (.BoolOp .Or (b :: rest) pos) Γ M q) : WP X (.BoolOp .Or (a :: b :: rest) pos) Γ M (p ∨ q) := by
  obtain ⟨k, h, i⟩ := h
  cases k with
  | false =>
    have np : ¬ p := fun z => Bool.false_ne_true (i.mpr z)
    obtain ⟨k2, h2, i2⟩ := h2 np
    exact ⟨k2, aw_or (h.val ⟨(fun z => nomatch z), fun _ => h2⟩), by rw [i2]; exact ⟨.inr, fun z => z.resolve_left np⟩⟩
  | true => exact ⟨true, aw_or (h.val ⟨fun _ => ⟨rfl, rfl⟩, fun z => nomatch z⟩), ⟨fun _ => .inl (i.mp rfl), fun _ => rfl⟩⟩
theorem as_ifp {s1 s2 : List Stmt} (h : TP X c Γ M p) (h1 : p → aSs X s1 Γ M k) (h2 : ¬ p → aSs X s2 Γ M k) : aS X (.If c s1 s2 pos) Γ M k := by
  obtain ⟨b, h, i⟩ := h
  exact as_if (h.val ⟨fun z => h1 (i.mp z), fun z => h2 fun y => by rw [i.mpr y] at z; cases z⟩)
theorem ae_ifp (h : TP X c Γ M p) (h1 : p → aE X a Γ M P) (h2 : ¬ p → aE X b Γ M P) : aE X (.IfExp c a b pos) Γ M P := by
  obtain ⟨b, h, i⟩ := h
  exact ae_if (h.val ⟨fun z => h1 (i.mp z), fun z => h2 fun y => by rw [i.mpr y] at z; cases z⟩)
/-! ### slots forgotten -/
def Le : Gam → Gam → Prop
  | [], [] => True
  | none :: a, _ :: b => Le a b
  | some d :: a, e :: b => e = some d ∧ Le a b
  | _, _ => False
theorem Le.spec : ∀ {A B : Gam}, Le A B → A.length = B.length ∧ ∀ (i : Nat) (d : Val), A[i]? = some (some d) → B[i]? = some (some d)
  | [], [], _ => ⟨rfl, fun i d h => by simp at h⟩
  | none :: a, x :: b, h => by
    obtain ⟨h1, h2⟩ := Le.spec (A := a) (B := b) h
    refine ⟨by simp [h1], fun i d q => ?_⟩
    cases i with
    | zero => simp at q
    | succ i => exact h2 i d (by simpa using q)
  | some d :: a, e :: b, h => by
    obtain ⟨rfl, h⟩ := h
    obtain ⟨h1, h2⟩ := Le.spec (A := a) (B := b) h
    refine ⟨by simp [h1], fun i d' q => ?_⟩
    cases i with
    | zero => simpa using q
    | succ i => exact h2 i d' (by simpa using q)
  | [], _ :: _, h => h.elim
  | none :: _, [], h => h.elim
  | some _ :: _, [], h => h.elim
theorem Le.env {K : PySem.W.Frag} {H : Hp} {Γ Γ' : Gam} {σ : L2.St} (h : Le Γ' Γ) (en : EnvR K H Γ σ) : EnvR K H Γ' σ := en.drop h.spec.1 h.spec.2
theorem Le.refl : ∀ {Γ : Gam}, Le Γ Γ
  | [] => trivial
  | none :: a => Le.refl (Γ := a)
  | some d :: a => ⟨rfl, Le.refl (Γ := a)⟩
theorem as_le {Γ' : Gam} {s : List Stmt} (l : Le Γ' Γ) (h : aSs X s Γ' M k) : aSs X s Γ M k := fun Hi H σ ok en D q => h Hi H σ ok (l.env en) D q
/-- cells forgotten -/
theorem as_sub {M' : Mem} {s : List Stmt} (l : M'.Sublist M) (h : aSs X s Γ M' k) : aSs X s Γ M k := fun Hi H σ ok en D q => h Hi H σ (ok.sub l) en D q
theorem as_wk {Γ' : Gam} {M' : Mem} {s : List Stmt} (l : Le Γ' Γ) (l2 : M'.Sublist M) (h : aSs X s Γ' M' k) : aSs X s Γ M k := as_le l (as_sub l2 h)
theorem Le.trans : ∀ {A B C : Gam}, Le A B → Le B C → Le A C
  | [], [], C, _, h => h
  | none :: a, x :: b, [], _, h => by cases x <;> exact h.elim
  | none :: a, none :: b, y :: c, h1, h2 => Le.trans (A := a) (B := b) (C := c) h1 h2
  | none :: a, some x :: b, y :: c, h1, h2 => Le.trans (A := a) (B := b) (C := c) h1 h2.2
  | some d :: a, e :: b, [], h1, h2 => by cases e <;> exact h2.elim
  | some d :: a, e :: b, y :: c, h1, h2 => by
    obtain ⟨rfl, h1⟩ := h1
    exact ⟨h2.1, Le.trans (A := a) (B := b) (C := c) h1 h2.2⟩
  | [], _ :: _, _, h, _ => h.elim
  | none :: _, [], _, h, _ => h.elim
  | some _ :: _, [], _, h, _ => h.elim
/-- a loop whose invariant forgets slots and cells -/
abbrev Wk (I : Gam → Mem → Prop) : Gam → Mem → Prop := fun Γ M => ∃ Γ' M', I Γ' M' ∧ Le Γ' Γ ∧ M'.Sublist M
theorem Wk.mono {I : Gam → Mem → Prop} {Γ Γ' : Gam} {M M' : Mem} (l : Le Γ' Γ) (l2 : M'.Sublist M) (h : Wk I Γ' M') : Wk I Γ M := by
  obtain ⟨Γ0, M0, h, a, b⟩ := h
  exact ⟨Γ0, M0, h, a.trans l, b.trans l2⟩
theorem le_nil : Le [] [] := trivial
theorem le_skip {a b : Gam} {x : Option Val} (h : Le a b) : Le (none :: a) (x :: b) := h
theorem le_keep {a b : Gam} {d d' : Val} (e : d' = d) (h : Le a b) : Le (some d :: a) (some d' :: b) := ⟨congrArg some e, h⟩
theorem as_whileW {body : List Stmt} (I : Nat → Gam → Mem → Prop) (n : Nat) (hp : PassesOwn (model X.prog X.w) X.A X.env X.xe) (h0 : Wk (I n) Γ M)
    (hs : ∀ n Γ M, I n Γ M → ∃ p, TP X c Γ M p ∧ (p → aSs X body Γ M { k with nx := Wk fun Γ' M' => ∃ m, m < n ∧ I m Γ' M', ct := Wk fun Γ' M' => ∃ m, m < n ∧ I m Γ' M', bk := k.nx }) ∧ (¬ p → k.nx Γ M))
    (hk : ∀ Γ Γ' M M', Le Γ' Γ → M'.Sublist M → k.nx Γ' M' → k.nx Γ M := by intro _ _ _ _ l l2 h; first | exact as_wk l l2 h | exact Wk.mono l l2 h) : aS X (.While c body [] pos) Γ M k :=
  as_while (fun n => Wk (I n)) n hp h0 fun n Γ' M' ⟨Γ0, M0, h, l, l2⟩ => by
    obtain ⟨p, ⟨b, hb, i⟩, h1, h2⟩ := hs n Γ0 M0 h
    intro Hi H σ ok en Q q
    refine hb Hi H σ (ok.sub l2) (l.env en) Q fun b' M1 Hi' H' hh => ?_
    obtain ⟨rfl, rfl⟩ := hh
    refine q _ _ Hi' H' ⟨fun z => ?_, fun z => hk _ _ _ _ l (List.Sublist.refl _) (h2 fun y => by rw [i.mpr y] at z; cases z)⟩
    refine as_le l ((h1 (i.mp z)).mono ?_ (fun _ _ h => h) (fun _ _ h => h) ?_)
    · rintro Γ5 M5 ⟨Γ6, M6, ⟨m, hm, h6⟩, l6, l7⟩
      exact ⟨m, hm, Γ6, M6, h6, l6, l7⟩
    · rintro Γ5 M5 ⟨Γ6, M6, ⟨m, hm, h6⟩, l6, l7⟩
      exact ⟨m, hm, Γ6, M6, h6, l6, l7⟩
/-! ### lengths, items -/
/-- d[i] -/
inductive IxIs (M : Mem) : Val → Int → Val → Prop
  | iT {xs : List Int} {i : Int} : 0 ≤ i → i < xs.length → IxIs M (iT xs) i (.int (at0 xs i))
  | iL {xs : List Int} {i : Int} : 0 ≤ i → i < xs.length → IxIs M (iL xs) i (.int (at0 xs i))
  | ci (n : Nat) {p : Addr} {xs : List Int} {i : Int} : M[n]? = some (p, .lst (xs.map .int)) → 0 ≤ i → i < xs.length → IxIs M (.ptr p) i (.int (at0 xs i))
  | t {xs : List Val} {i : Int} {d : Val} : atI xs i = some d → IxIs M (.tup xs) i d
  | l {xs : List Val} {i : Int} {d : Val} : atI xs i = some d → IxIs M (.lst xs) i d
  | c (n : Nat) {p : Addr} {xs : List Val} {i : Int} {d : Val} : M[n]? = some (p, .lst xs) → atI xs i = some d → IxIs M (.ptr p) i d
theorem av_ix {i : Int} (ha : aV X a Γ M d1) (hb : aV X b Γ M (.int i)) (h : IxIs M d1 i d) (hs : PlainIx b := by exact fun _ _ => rfl) : aV X (.Subscript a b pos) Γ M d := by
  cases h with
  | iT h0 h1 => exact av_ixT ha hb (atI_int h0 h1) hs
  | iL h0 h1 => exact av_ixL ha hb (.self _) (atI_int h0 h1) hs
  | ci n hm h0 h1 => exact av_ixL ha hb (.lst n hm) (atI_int h0 h1) hs
  | t h => exact av_ixT ha hb h hs
  | l h => exact av_ixL ha hb (.self _) h hs
  | c n hm h => exact av_ixL ha hb (.lst n hm) h hs
theorem av_max2 (hm : X.mg "max" = none) (hc : X.calm = true) (ha : aV X a Γ M (.int i)) (hb : aV X b Γ M (.int j)) (hg : Gl X "max" := by rfl)
    (hs : starEach [a, b] X.env = (false, eval a X.env) :: starEach [b] X.env := by rfl) (hs2 : starEach [b] X.env = (false, eval b X.env) :: starEach [] X.env := by rfl) (hpl : (backTo pos (starEach [b] X.env)).any (·.1) = false := by rfl) : aV X (.Call (.Name "max" p1) [a, b] [] pos) Γ M (.int (max i j)) := by
  refine ae_max2 hm hc ha hb ⟨?_, rfl⟩ hg hs hs2 hpl
  congr 1
  split <;> omega
theorem av_min2 (hm : X.mg "min" = none) (hc : X.calm = true) (ha : aV X a Γ M (.int i)) (hb : aV X b Γ M (.int j)) (hg : Gl X "min" := by rfl)
    (hs : starEach [a, b] X.env = (false, eval a X.env) :: starEach [b] X.env := by rfl) (hs2 : starEach [b] X.env = (false, eval b X.env) :: starEach [] X.env := by rfl) (hpl : (backTo pos (starEach [b] X.env)).any (·.1) = false := by rfl) : aV X (.Call (.Name "min" p1) [a, b] [] pos) Γ M (.int (min i j)) := by
  refine ae_min2 hm hc ha hb ⟨?_, rfl⟩ hg hs hs2 hpl
  congr 1
  split <;> omega
theorem av_bl {bb : Bool} {j} : aV X (.Constant (.bool bb) j pos) Γ M (.bl bb) := ae_bl ⟨rfl, rfl⟩
theorem av_gi (hm : ∃ t, X.mg x = some (.int i t)) (hg : Gl X x := by rfl) (hd : (x == ("__debug__" : Str)) = false := by decide) : aV X (.Name x pos) Γ M (.int i) := by
  obtain ⟨t, h⟩ := hm
  exact av_gint h hg hd
theorem as_setv {ps : Pos} (n : Nat) (hN : X.N.Nodup) (he : aV X e Γ M d) (h : k.nx (Γ.set n (some d)) M) (hi : X.N[n]? = some x := by rfl) (hx : Loc X.env.scope x := by first | exact Or.inl rfl | exact Or.inr rfl)
    (hs : swapsWith e (some (.Name x ps)) pos.line X.env = pure false := by rfl) (hf : X.fn x = true ∨ X.env.scope.names.lookup x = some .local := by first | exact .inl rfl | exact .inr rfl | assumption) : aS X (.Assign [.Name x ps] e pos) Γ M k := as_set n hN (he.val h) hi hx hs hf
theorem as_retv (he : aV X e Γ M d) (h : k.rt d M) : aS X (.Return (some e) pos) Γ M k := as_ret (he.val h)
end
end Ab
namespace Ab
open PySem PySem.Spec PyProof.Rows L2
/-- what is still the built-in -/
structure Bt (mg : Str → Option Value) : Prop where
  isinstance : mg "isinstance" = none
  int : mg "int" = none
  bool : mg "bool" = none
  tuple : mg "tuple" = none
  len : mg "len" = none
  enumerate : mg "enumerate" = none
  range : mg "range" = none
  all : mg "all" = none
  list : mg "list" = none
  min : mg "min" = none
  max : mg "max" = none
  sum : mg "sum" = none
section
variable {X : Cx} {Γ : Gam} {M : Mem} {P : Val → Mem → Prop} {e a b c o : Expr} {es : List Expr} {pos p1 p2 apos kpos : Pos} {k : AK} {d d1 d2 d3 : Val} {i j l : Int} {x y m : Str} {n : Nat} {f C : Addr} {p q : Prop}
def CDivU (i j : Int) : Prop := CDiv i j ∨ CDivW i j
theorem bv_fdivU (hc : CDivU i j) (h : P (.int (i / j)) M) : BinV X .FloorDiv M (.int i) (.int j) P := by
  rcases hc with hc | hc
  · exact ⟨_, op_fdiv, rv_I (f := fun i j => .int (i / j)) hc (fun _ _ => .int _) h⟩
  · exact ⟨_, op_fdivW, rv_I (f := fun i j => .int (i / j)) hc (fun _ _ => .int _) h⟩
theorem av_fdivU (ha : aV X a Γ M (.int i)) (hb : aV X b Γ M (.int j)) (hc : CDivU i j) : aV X (.BinOp a .FloorDiv b pos) Γ M (.int (i / j)) := ae_bin (ha.val (hb.val (bv_fdivU hc ⟨rfl, rfl⟩)))
end
end Ab
namespace K43
open PySem L2 Ab Sm
/-! ### the law's draws -/
def stC (x t y : Int) : Cell := .lst [.int x, .int t, .int y]
/-- the state's cell stands at place i; its count is at most N -/
def St (M : Mem) (i : Nat) (a : Addr) (N : Nat) : Prop := ∃ x t y, M[i]? = some (a, stC x t y) ∧ 0 ≤ t ∧ t ≤ (N : Int)
/-- nothing but the state has changed, by c draws at most -/
def Dw (i : Nat) (a : Addr) (c : Nat) (M M' : Mem) : Prop := ∃ x t y x' t' y', M[i]? = some (a, stC x t y) ∧ M' = M.set i (a, stC x' t' y') ∧ (0 ≤ t → 0 ≤ t') ∧ t' ≤ t + (c : Int)
theorem stC_inj {x t y x' t' y' : Int} (h : stC x t y = stC x' t' y') : x = x' ∧ t = t' ∧ y = y' := by
  unfold stC at h
  injection h with h
  injection h with h
  injection h with h1 h
  injection h with h2 h
  injection h with h3 _
  injection h1 with h1
  injection h2 with h2
  injection h3 with h3
  exact ⟨h1, h2, h3⟩
theorem Dw.trans {M M' M'' : Mem} {i : Nat} {a : Addr} {c e : Nat} (d : Dw i a c M M') (d' : Dw i a e M' M'') : Dw i a (c + e) M M'' := by
  obtain ⟨x1, t1, y1, x2, t2, y2, hm1, rfl, g0, g1⟩ := d
  obtain ⟨x3, t3, y3, x4, t4, y4, hm3, rfl, g2, g3⟩ := d'
  rw [List.getElem?_set_self (List.getElem?_eq_some_iff.mp hm1).1] at hm3
  obtain ⟨_, rfl, _⟩ := stC_inj (Prod.mk.inj (Option.some.inj hm3)).2
  exact ⟨x1, t1, y1, x4, t4, y4, hm1, by rw [List.set_set], fun h => g2 (g0 h), by omega⟩
theorem Dw.mono {M M' : Mem} {i : Nat} {a : Addr} {c e : Nat} (d : Dw i a c M M') (h : c ≤ e) : Dw i a e M M' := by
  obtain ⟨x1, t1, y1, x2, t2, y2, hm1, e1, g0, g1⟩ := d
  exact ⟨x1, t1, y1, x2, t2, y2, hm1, e1, g0, by omega⟩
theorem St.refl {M : Mem} {i : Nat} {a : Addr} {N : Nat} (h : St M i a N) : Dw i a 0 M M := by
  obtain ⟨x, t, y, h, h0, h1⟩ := h
  refine ⟨x, t, y, x, t, y, h, ?_, fun h => h, by omega⟩
  apply List.ext_getElem?
  intro j
  by_cases hij : i = j
  · subst hij
    rw [List.getElem?_set_self (List.getElem?_eq_some_iff.mp h).1, h]
  · rw [List.getElem?_set_ne hij]
theorem St.cons {M : Mem} {i : Nat} {a : Addr} {N : Nat} {c : Addr × Cell} (h : St M i a N) : St (c :: M) (i + 1) a N := h
theorem Dw.cons {M M' : Mem} {i : Nat} {a : Addr} {e : Nat} {c : Addr × Cell} (h : Dw (i + 1) a e (c :: M) M') : ∃ M'', M' = c :: M'' ∧ Dw i a e M M'' := by
  obtain ⟨x1, t1, y1, x2, t2, y2, hm1, rfl, g⟩ := h
  exact ⟨_, rfl, x1, t1, y1, x2, t2, y2, hm1, rfl, g⟩
section
variable {P : Program} {w : World} {K : PySem.W.Frag} {mg : Str → Option Value} {base : Heap} {k : Nat} {f C : Addr}
def aDraw : ASp := fun ds M R => ∃ (a : Addr) (i N : Nat) (n : Int), ds = [.ptr a, .int n] ∧ St M i a N ∧ N ≤ 10000000 ∧ 0 < n ∧ n.natAbs < 2 ^ 8000 ∧ ∀ v M', 0 ≤ v → v < n → Dw i a 1 M M' → R (.int v) M'
abbrev GDr (P : Program) (w : World) (K : PySem.W.Frag) (mg : Str → Option Value) (base : Heap) : Prop := Gd P w K mg base 2 "_law_draw" [] fun ds _ => aDraw ds
end
end K43
namespace K43
open PySem L2 Ab Sm
def sm (v : Int) : Prop := 0 ≤ v ∧ v < 100000
section
variable {P : Program} {w : World} {K : PySem.W.Frag} {mg : Str → Option Value} {base : Heap} {k : Nat} {f C : Addr}
/-! ### _law_sequence -/
structure Seq (lo : Int) (s : Stm) : Prop where
  l1 : s.1.length ≤ 5
  l2 : s.2.length ∣ 6
  ne : s.2 ≠ []
  a1 : ∀ v ∈ s.1, sm v
  a2 : ∀ v ∈ s.2, sm v
  lo : lo ≤ item s 0
/-! ### _law_indices -/
end
end K43
namespace K43
open PySem L2 Ab Sm
/-! ### what combinations keep -/
structure Bs (b : Int) (S : Sc) : Prop where
  g : GoodS S
  p1 : P6 S.sp
  p2 : P6 S.lv
  b1 : ∀ i, item S.sp i ≤ b
  b2 : ∀ i, item S.lv i ≤ b
theorem Bs.n1 {b : Int} {S : Sc} (h : Bs b S) (i : Nat) : 0 ≤ item S.sp i := (h.g.ls.item i).1
theorem Bs.n2 {b : Int} {S : Sc} (h : Bs b S) (i : Nat) : 0 ≤ item S.lv i := (h.g.ll.item i).1
theorem Bs.mono {b c : Int} {S : Sc} (h : Bs b S) (hc : b ≤ c) : Bs c S := ⟨h.g, h.p1, h.p2, fun i => Int.le_trans (h.b1 i) hc, fun i => Int.le_trans (h.b2 i) hc⟩
/-! ### the methods, as the law calls them -/
section
variable {P : Program} {w : World} {K : PySem.W.Frag} {mg : Str → Option Value} {base : Heap} {k : Nat} {f C : Addr}
/-! ### _law_columns, _law_items_right -/
/-- the three combinations of Ss -/
structure Three (Ss : List Sc) (A L H : Sc) : Prop where
  ne : Ss ≠ []
  ln : Ss.length ≤ 4
  bs : ∀ S ∈ Ss, Bs 99999 S
  ar : ∀ S ∈ Ss, ∀ S' ∈ Ss, S.a = S'.a
  gA : GoodS A
  gL : GoodS L
  gH : GoodS H
  aA : ∀ S ∈ Ss, A.a = S.a
  aL : ∀ S ∈ Ss, L.a = S.a
  aH : ∀ S ∈ Ss, H.a = S.a
  sA : ∀ i, item A.sp i = (Ss.map fun S => item S.sp i).sum
  lA : ∀ i, item A.lv i = (Ss.map fun S => item S.lv i).sum
  sL : ∀ i, item L.sp i = minL (Ss.map fun S => item S.sp i)
  lL : ∀ i, item L.lv i = minL (Ss.map fun S => item S.lv i)
  sH : ∀ i, item H.sp i = maxL (Ss.map fun S => item S.sp i)
  lH : ∀ i, item H.lv i = maxL (Ss.map fun S => item S.lv i)
end
end K43
namespace K43
open PySem L2 Ab Sm
theorem sum_app {xs : List Int} {x : Int} : (xs ++ [x]).sum = xs.sum + x := by simp
theorem op_rot {wd : Wd} {x : Int} {xs : List Int} : opV wd (x :: xs) = opV wd (xs ++ [x]) := by
  cases wd with
  | sum =>
    show (x :: xs).sum = (xs ++ [x]).sum
    rw [sum_app, List.sum_cons]
    omega
  | least =>
    obtain ⟨a1, a2⟩ := minL_spec xs x
    refine min_is (ns := xs ++ [x]) ?_ fun z hz => a2 z ?_
    · rcases List.mem_cons.mp a1 with q | q
      · exact List.mem_append_right _ (List.mem_singleton.mpr q)
      · exact List.mem_append_left _ q
    · rcases List.mem_append.mp hz with q | q
      · exact List.mem_cons_of_mem _ q
      · rw [List.mem_singleton.mp q]
        exact List.mem_cons_self
  | greatest =>
    obtain ⟨a1, a2⟩ := maxL_spec xs x
    refine max_is (ns := xs ++ [x]) ?_ fun z hz => a2 z ?_
    · rcases List.mem_cons.mp a1 with q | q
      · exact List.mem_append_right _ (List.mem_singleton.mpr q)
      · exact List.mem_append_left _ q
    · rcases List.mem_append.mp hz with q | q
      · exact List.mem_cons_of_mem _ q
      · rw [List.mem_singleton.mp q]
        exact List.mem_cons_self
/-- two combinations of the same schedules, in another order -/
theorem Three.same {Ss : List Sc} {T : Sc} {A L H A' L' H' : Sc} (h : Three (Ss ++ [T]) A L H) (h' : Three (T :: Ss) A' L' H') : A = A' ∧ L = L' ∧ H = H' := by
  have m1 : T ∈ Ss ++ [T] := List.mem_append_right _ List.mem_cons_self
  have m2 : T ∈ T :: Ss := List.mem_cons_self
  refine ⟨h.gA.ext h'.gA ((h.aA T m1).trans (h'.aA T m2).symm) (fun i => ?_) fun i => ?_, h.gL.ext h'.gL ((h.aL T m1).trans (h'.aL T m2).symm) (fun i => ?_) fun i => ?_, h.gH.ext h'.gH ((h.aH T m1).trans (h'.aH T m2).symm) (fun i => ?_) fun i => ?_⟩
  · rw [h.sA, h'.sA, List.map_append]
    exact (op_rot (wd := .sum)).symm
  · rw [h.lA, h'.lA, List.map_append]
    exact (op_rot (wd := .sum)).symm
  · rw [h.sL, h'.sL, List.map_append]
    exact (op_rot (wd := .least)).symm
  · rw [h.lL, h'.lL, List.map_append]
    exact (op_rot (wd := .least)).symm
  · rw [h.sH, h'.sH, List.map_append]
    exact (op_rot (wd := .greatest)).symm
  · rw [h.lH, h'.lH, List.map_append]
    exact (op_rot (wd := .greatest)).symm
theorem Three.one {S : Sc} (h : Bs 99999 S) : Three [S] S S S := by
  have ar : ∀ T ∈ [S], ∀ T' ∈ [S], T.a = T'.a := fun T hT T' hT' => by rw [List.mem_singleton.mp hT, List.mem_singleton.mp hT']
  have a1 : ∀ T ∈ [S], S.a = T.a := fun T hT => by rw [List.mem_singleton.mp hT]
  exact ⟨List.cons_ne_nil _ _, by simp, fun T hT => by rw [List.mem_singleton.mp hT]; exact h, ar, h.g, h.g, h.g, a1, a1, a1, fun i => by simp, fun i => by simp, fun i => rfl, fun i => rfl, fun i => rfl, fun i => rfl⟩
section
variable {P : Program} {w : World} {K : PySem.W.Frag} {mg : Str → Option Value} {base : Heap} {k : Nat} {f C : Addr}
abbrev OwnS (P : Program) (w : World) (K : PySem.W.Frag) (mg : Str → Option Value) (base : Heap) (C fq : Addr) : Prop := OwnE P w K mg base 1 C fq goodF relS
end
end K43
namespace Sm
/-! ### the place of a leaf: b leaves stand before it -/
def smN (f : Nat → Int) : Nat → Int
  | 0 => 0
  | n + 1 => smN f n + f n
theorem smN_congr {f g : Nat → Int} {n : Nat} (h : ∀ j, j < n → f j = g j) : smN f n = smN g n := by
  induction n with
  | zero => rfl
  | succ n ih => rw [smN, smN, ih fun j hj => h j (by omega), h n (by omega)]
theorem smN_add {f g : Nat → Int} {n : Nat} : smN (fun j => f j + g j) n = smN f n + smN g n := by
  induction n with
  | zero => rfl
  | succ n ih => rw [smN, smN, smN, ih]; omega
theorem smN_le {f g : Nat → Int} {n : Nat} (h : ∀ j, j < n → f j ≤ g j) : smN f n ≤ smN g n := by
  induction n with
  | zero => exact Int.le_refl _
  | succ n ih =>
    have h1 := ih fun j hj => h j (by omega)
    have h2 := h n (by omega)
    rw [smN, smN]
    omega
theorem smN_ext {f : Nat → Int} {n m : Nat} (hm : n ≤ m) (h : ∀ j, n ≤ j → f j = 0) : smN f m = smN f n := by
  induction m with
  | zero =>
    have : n = 0 := by omega
    rw [this]
  | succ m ih =>
    rcases Nat.lt_or_ge m n with z | z
    · have : n = m + 1 := by omega
      rw [this]
    · rw [smN, ih z, h m z, Int.add_zero]
theorem smN_head {f : Nat → Int} {n : Nat} : smN f (n + 1) = f 0 + smN (fun j => f (j + 1)) n := by
  induction n with
  | zero => simp [smN]
  | succ n ih => rw [smN, ih, smN]; omega
def plT (k : Nat) (s l : Nat → Int) (b h : Nat) : Int := (if k ^ h ≤ b then s (h + 1) else 0) + l (h + 1) * ((b / k ^ (h + 1) : Nat) : Int)
def place (k : Nat) (s l : Nat → Int) (b : Nat) : Int := s 0 + (b : Int) * l 0 + smN (plT k s l b) b
theorem lt_pow {k : Nat} (hk : 2 ≤ k) (b : Nat) : b < k ^ b := Nat.lt_of_lt_of_le Nat.lt_two_pow_self (Nat.pow_le_pow_left hk b)
theorem plT_zero {k : Nat} {s l : Nat → Int} {b h : Nat} (hb : b < k ^ h) (hk : 2 ≤ k) : plT k s l b h = 0 := by
  have h2 : b < k ^ (h + 1) := Nat.lt_of_lt_of_le hb (Nat.pow_le_pow_right (by omega) (by omega))
  rw [plT, if_neg (by omega), Nat.div_eq_of_lt h2]
  simp
theorem place_N {k : Nat} {s l : Nat → Int} {b N : Nat} (hk : 2 ≤ k) (hN : b < k ^ N) : place k s l b = s 0 + (b : Int) * l 0 + smN (plT k s l b) N := by
  have key : ∀ m, b < k ^ m → ∀ j, m ≤ j → plT k s l b j = 0 := fun m hm j hj => plT_zero (Nat.lt_of_lt_of_le hm (Nat.pow_le_pow_right (by omega) hj)) hk
  rw [place]
  congr 1
  rcases Nat.le_total N b with z | z
  · exact smN_ext z (key N hN)
  · exact (smN_ext z (key b (lt_pow hk b))).symm
theorem place_zero {k : Nat} {s l : Nat → Int} : place k s l 0 = s 0 := by simp [place, smN]
/-! ### leaf by leaf -/
theorem dvd_div {m b : Nat} (hm : 0 < m) (hb : 0 < b) (h : m ∣ b) : b / m = (b - 1) / m + 1 := by
  obtain ⟨c, rfl⟩ := h
  have hc : 0 < c := by
    rcases Nat.eq_zero_or_pos c with z | z
    · rw [z] at hb; simp at hb
    · exact z
  obtain ⟨c, rfl⟩ : ∃ d, c = d + 1 := ⟨c - 1, by omega⟩
  rw [Nat.mul_div_cancel_left _ hm]
  have : m * (c + 1) - 1 = m * c + (m - 1) := by rw [Nat.mul_add, Nat.mul_one]; omega
  rw [this, Nat.mul_add_div hm, Nat.div_eq_of_lt (by omega)]
theorem ndvd_div {m b : Nat} (hm : 0 < m) (h : ¬ m ∣ b + 1) : (b + 1) / m = b / m := by
  rw [Nat.succ_div, if_neg h, Nat.add_zero]
end Sm
namespace K43
open PySem L2 Ab Sm
section
variable {P : Program} {w : World} {K : PySem.W.Frag} {mg : Str → Option Value} {base : Heap} {k : Nat} {f C : Addr}
/-! ### properties -/
def aSpi (C : Addr) : ASp := fun ds M R => ∃ (S : Sc), ds = [scV C S] ∧ R (stV S.sp) M
def aLev (C : Addr) : ASp := fun ds M R => ∃ (S : Sc), ds = [scV C S] ∧ R (stV S.lv) M
theorem b_spine (T : Rs K mg C) : BodyOk P w K mg base k f n_Schedule_spine "Schedule.spine" (defScope c_Schedule_spine) (defBody c_Schedule_spine) (aSpi C) := by
  rintro cdv A outer s0 H E hr ds M R ⟨S, rfl, hp⟩
  exact as_one (as_ret ((av_s T (v_ 0)).val (.ok hp)))
theorem b_levels (T : Rs K mg C) : BodyOk P w K mg base k f n_Schedule_levels "Schedule.levels" (defScope c_Schedule_levels) (defBody c_Schedule_levels) (aLev C) := by
  rintro cdv A outer s0 H E hr ds M R ⟨S, rfl, hp⟩
  exact as_one (as_ret ((av_l T (v_ 0)).val (.ok hp)))
structure PrA (P : Program) (w : World) (K : PySem.W.Frag) (mg : Str → Option Value) (base : Heap) (C : Addr) : Prop where
  ex : ∃ p g, PropOf K C "arity" p g ∧ FX P w K mg base 1 g fun ds _ => aAri C ds
structure PrS (P : Program) (w : World) (K : PySem.W.Frag) (mg : Str → Option Value) (base : Heap) (C : Addr) : Prop where
  ex : ∃ p g, PropOf K C "spine" p g ∧ FX P w K mg base 1 g fun ds _ => aSpi C ds
structure PrL (P : Program) (w : World) (K : PySem.W.Frag) (mg : Str → Option Value) (base : Heap) (C : Addr) : Prop where
  ex : ∃ p g, PropOf K C "levels" p g ∧ FX P w K mg base 1 g fun ds _ => aLev C ds
theorem av_arity {X : Cx} {Γ : Gam} {M : Mem} {o : Expr} {pos : Pos} {m : Nat} {S : Sc} (T : Rs X.K X.mg C) (Q : PrA X.prog X.w X.K X.mg X.base C) (hr : Rm m X.A) (hm : 2 ≤ m) (ho : aV X o Γ M (scV C S)) (hb : attributeBase o "arity" X.env (eval o X.env) = eval o X.env := by rfl) : aV X (.Attribute o "arity" pos) Γ M (.int S.a) := by
  obtain ⟨p, g, hp, F⟩ := Q.ex
  exact ae_prop T.cl hp F (hr.mono hm) ho (.im _) ⟨S, rfl, rfl, rfl⟩ hb
/-! ### is_prunable, pruned -/
structure LmE (mg : Str → Option Value) : Prop where
  FRONT_LIMIT : ∃ t, mg "FRONT_LIMIT" = some (.int 12 t)
  LOOP_LIMIT : ∃ t, mg "LOOP_LIMIT" = some (.int 6 t)
  LABEL_LIMIT : ∃ t, mg "LABEL_LIMIT" = some (.int 1000000 t)
  ARITY_LIMIT : ∃ t, mg "ARITY_LIMIT" = some (.int 9 t)
end
end K43
namespace K43
open PySem L2 Ab Sm
theorem Seq.lim {lo : Int} {s : Stm} (h : Seq lo s) : Lim s := ⟨by have := h.l1; omega, Nat.le_of_dvd (by decide) h.l2, h.ne, fun v hv => ⟨(h.a1 v hv).1, by have := (h.a1 v hv).2; omega⟩, fun v hv => ⟨(h.a2 v hv).1, by have := (h.a2 v hv).2; omega⟩⟩
end K43
namespace Ab
open PySem PySem.Spec PyProof.Rows L2
section
variable {X : Cx} {Γ : Gam} {M : Mem} {P : Val → Mem → Prop} {e a b c o : Expr} {es : List Expr} {pos p1 p2 apos kpos : Pos} {k : AK} {d d1 d2 d3 : Val} {i j l : Int} {x y m f : Str} {n : Nat} {C : Addr} {p q : Prop}
/-- loops at a def's end: slots are forgotten, cells are not -/
abbrev Wl (I : Gam → Mem → Prop) : Gam → Mem → Prop := fun Γ M => ∃ Γ', I Γ' M ∧ Le Γ' Γ
theorem as_forL {tg iter : Expr} {body : List Stmt} (hp : PassesOwn (model X.prog X.w) X.A X.env X.xe) (hc : X.calm = true)
    (hi : aJ X tg iter Γ M fun n it M1 => ∃ I : Nat → Gam → Mem → Prop, Wl (I 0) Γ M1 ∧ (∀ i Γ M, i < n → I i Γ M → aG X tg (it i) Γ M fun Γ2 M2 => aSs X body Γ2 M2 { k with nx := Wl (I (i + 1)), ct := Wl (I (i + 1)), bk := k.nx }) ∧ ∀ Γ M, I n Γ M → k.nx Γ M)
    (hk : ∀ Γ Γ' M, Le Γ' Γ → k.nx Γ' M → k.nx Γ M := by intro _ _ _ l h; first | exact h | exact as_le l h)
    (hf : ∀ x, foldedSetIterable iter X.env x = pure x := by intro _; rfl) : aS X (.For tg iter body [] pos) Γ M k :=
  as_forJ hp hc (fun Hi H σ ok en R' q => hi Hi H σ ok en R' fun J n it M1 Hi1 H1 ⟨I, h0, hs, hd⟩ => q J n it M1 Hi1 H1 ⟨fun i => Wl (I i), h0, fun i Γ' M' hi' ⟨Γ0, h, l⟩ => fun Hi H σ v ok en r Q q => hs i Γ0 M' hi' h Hi H σ v ok (l.env en) r Q q, fun Γ' M' ⟨Γ0, h, l⟩ => hk _ _ _ l (hd Γ0 M' h)⟩) hf
theorem as_whileL {body : List Stmt} (I : Nat → Gam → Mem → Prop) (n : Nat) (hp : PassesOwn (model X.prog X.w) X.A X.env X.xe) (h0 : Wl (I n) Γ M)
    (hs : ∀ n Γ M, I n Γ M → ∃ p, TP X c Γ M p ∧ (p → aSs X body Γ M { k with nx := Wl fun Γ' M' => ∃ m, m < n ∧ I m Γ' M', ct := Wl fun Γ' M' => ∃ m, m < n ∧ I m Γ' M', bk := k.nx }) ∧ (¬ p → k.nx Γ M))
    (hk : ∀ Γ Γ' M, Le Γ' Γ → k.nx Γ' M → k.nx Γ M := by intro _ _ _ l h; first | exact h | exact as_le l h) : aS X (.While c body [] pos) Γ M k :=
  as_while (fun n => Wl (I n)) n hp h0 fun n Γ' M' ⟨Γ0, h, l⟩ => by
    obtain ⟨p, ⟨b, hb, i⟩, h1, h2⟩ := hs n Γ0 M' h
    intro Hi H σ ok en Q q
    refine hb Hi H σ ok (l.env en) Q fun b' M1 Hi' H' hh => ?_
    obtain ⟨rfl, rfl⟩ := hh
    refine q _ _ Hi' H' ⟨fun z => ?_, fun z => hk _ _ _ l (h2 fun y => by rw [i.mpr y] at z; cases z)⟩
    refine as_le l ((h1 (i.mp z)).mono ?_ (fun _ _ h => h) (fun _ _ h => h) ?_)
    · rintro Γ5 M5 ⟨Γ6, ⟨m, hm, h6⟩, l6⟩
      exact ⟨m, hm, Γ6, h6, l6⟩
    · rintro Γ5 M5 ⟨Γ6, ⟨m, hm, h6⟩, l6⟩
      exact ⟨m, hm, Γ6, h6, l6⟩
/-- o.m(), o.m(e), o.m(e, e2) by a promise that hides the address -/
theorem ae_mt0 {n q : Nat} {C : Addr} {m : Str} {s : ASp} {fs : List (Str × Val)} {pl : Sem Bool} (c : Cls X.K C) (F : ∃ f, Meth X.K C m f ∧ FX X.prog X.w X.K X.mg X.base n f fun ds _ => s ds) (hr : Rm q X.A) (hq : n ≤ q) (ho : aV X o Γ M d) (hob : Ob M C d fs) (h : s [d] M P) (hl : fs.lookup m = none := by rfl)
    (ht : eval (.Call (.Attribute o m apos) [] [] pos) X.env = (do
      let ov ← eval o X.env
      standAt apos.atName
      let (f, first) ← holding [ov] (getMethod ov m pl)
      callWith pos f first (backTo pos (starEach [] X.env)) (backToKw pos (keywordEach [] X.env))) := by rfl) : aE X (.Call (.Attribute o m apos) [] [] pos) Γ M P := by
  obtain ⟨f, mt, F⟩ := F
  exact ae_meth0 c mt F (hr.mono hq) ho hob hl (ak_nil ⟨rfl, h⟩) rfl rfl rfl ht
theorem ae_mt1 {n q : Nat} {C : Addr} {m : Str} {s : ASp} {fs : List (Str × Val)} {pl : Sem Bool} (c : Cls X.K C) (F : ∃ f, Meth X.K C m f ∧ FX X.prog X.w X.K X.mg X.base n f fun ds _ => s ds) (hr : Rm q X.A) (hq : n ≤ q) (ho : aV X o Γ M d) (hob : Ob M C d fs) (h : aE X e Γ M fun x M1 => s [d, x] M1 P) (hl : fs.lookup m = none := by rfl)
    (hst : starEach [e] X.env = (false, eval e X.env) :: starEach [] X.env := by rfl)
    (ht : eval (.Call (.Attribute o m apos) [e] [] pos) X.env = (do
      let ov ← eval o X.env
      standAt apos.atName
      let (f, first) ← holding [ov] (getMethod ov m pl)
      callWith pos f first (backTo pos (starEach [e] X.env)) (backToKw pos (keywordEach [] X.env))) := by rfl) : aE X (.Call (.Attribute o m apos) [e] [] pos) Γ M P := by
  obtain ⟨f, mt, F⟩ := F
  exact ae_meth c mt F (hr.mono hq) ho hob hl (aa_cons (h.mono fun x M1 hx => aa_nil (ak_nil ⟨rfl, hx⟩)) hst) rfl rfl hst (by rw [hst]; rfl) ht
/-- cells in another order -/
theorem as_perm {M' : Mem} {s : List Stmt} (l : M'.Perm M) (h : aSs X s Γ M' k) : aSs X s Γ M k := fun Hi H σ ok en D q => h Hi H σ (ok.perm l) en D q
theorem ae_perm (h : aE X e Γ M fun d M1 => ∃ M2, M2.Perm M1 ∧ P d M2) : aE X e Γ M P := fun Hi H σ ok en Q q => h Hi H σ ok en Q fun d M1 v Hi' H' ⟨M2, hp, hP⟩ s ok' r => q d M2 v Hi' H' hP s (ok'.perm hp) r
theorem ae_subP (h : aE X e Γ M fun d M1 => ∃ M2, M2.Sublist M1 ∧ P d M2) : aE X e Γ M P := fun Hi H σ ok en Q q => h Hi H σ ok en Q fun d M1 v Hi' H' ⟨M2, hp, hP⟩ s ok' r => q d M2 v Hi' H' hP s (ok'.sub hp) r
end
/-- the last of a list of ints -/
theorem atI_lastE {g : List Int} {n : Nat} {v : Int} (h : g.length = n + 1) (hv : g.getD n 0 = v) : atI (g.map Val.int) (-1) = some (.int v) := by
  have hne : g ≠ [] := fun z => by rw [z] at h; simp at h
  rw [atI_last hne, h, Nat.add_sub_cancel, hv]
end Ab
namespace Sm
/-! ### counting nodes of one height: la 0 is the size of the whole subtree below such a node, la j (j > 0) the labels of a node j higher; sp j the spine items above; own the node's own labels; a0 the first place; eh the end of the stage of the spine node -/
structure Ct where
  k : Nat
  la : Nat → Int
  sp : Nat → Int
  own : Int
  a0 : Int
  eh : Int
structure CtOk (c : Ct) : Prop where
  k2 : 2 ≤ c.k
  la : ∀ j, 0 ≤ c.la j
  l0 : 0 < c.la 0
  sp : ∀ j, 0 ≤ c.sp j
  o0 : 0 ≤ c.own
  o1 : c.own ≤ c.la 0
  a0 : 0 ≤ c.a0
  ae : c.a0 ≤ c.eh
def zz (c : Ct) : Nat → Int
  | 0 => c.la 0
  | t + 1 => c.la (t + 1) + c.k * zz c t
def en (c : Ct) : Nat → Int
  | 0 => c.eh
  | t + 1 => en c t + c.sp t + (c.k - 1) * zz c t
/-- quotients up to t -/
def fq (c : Ct) (t i : Nat) : Int := smN (fun j => c.la j * ((i / c.k ^ j : Nat) : Int)) (t + 1)
def qq (c : Ct) (t i : Nat) : Int := c.own + smN (fun j => c.la (j + 1)) t + fq c t i
/-- the place of the node with b nodes before it -/
def pp (c : Ct) (b : Nat) : Int := if b = 0 then c.a0 else c.eh - c.la 0 + c.own + smN (fun j => if c.k ^ j ≤ b then c.sp j else 0) b + fq c b b
section
variable {c : Ct}
theorem zz_pos (h : CtOk c) : ∀ t, 0 < zz c t
  | 0 => h.l0
  | t + 1 => by
    have h1 := zz_pos h t
    have h2 := h.la (t + 1)
    have h3 : (0 : Int) < c.k * zz c t := Int.mul_pos (by have := h.k2; omega) h1
    rw [zz]
    omega
theorem fq_digit (h : CtOk c) {t d i : Nat} (hi : i < c.k ^ t) : fq c t (d * c.k ^ t + i) = d * zz c t + fq c t i := by
  have hk := h.k2
  have key : ∀ s, s ≤ t → smN (fun j => c.la j * (((d * c.k ^ t + i) / c.k ^ j : Nat) : Int)) (s + 1) = d * (c.k : Int) ^ (t - s) * zz c s + smN (fun j => c.la j * ((i / c.k ^ j : Nat) : Int)) (s + 1) := by
    intro s
    induction s with
    | zero =>
      intro _
      simp only [smN, zz, Nat.pow_zero, Nat.div_one, Nat.sub_zero]
      rw [Int.natCast_add, Int.natCast_mul, Int.natCast_pow, Int.mul_add, Int.mul_comm (c.la 0) ((d : Int) * _)]
      omega
    | succ s ih =>
      intro hs
      rw [smN, ih (by omega), smN.eq_def _ (s + 1 + 1)]
      simp only
      have e1 : (d * c.k ^ t + i) / c.k ^ (s + 1) = d * c.k ^ (t - (s + 1)) + i / c.k ^ (s + 1) := by
        have : d * c.k ^ t = c.k ^ (s + 1) * (d * c.k ^ (t - (s + 1))) := by
          rw [Nat.mul_left_comm, ← Nat.pow_add, show s + 1 + (t - (s + 1)) = t by omega]
        rw [this, Nat.mul_add_div (Nat.pow_pos (by omega))]
      have e2 : (c.k : Int) ^ (t - s) = c.k ^ (t - (s + 1)) * c.k := by
        rw [show t - s = t - (s + 1) + 1 by omega, Int.pow_succ]
      rw [e1, zz, e2, Int.natCast_add, Int.natCast_mul, Int.natCast_pow]
      generalize (c.k : Int) ^ (t - (s + 1)) = K
      generalize ((i / c.k ^ (s + 1) : Nat) : Int) = I
      generalize smN (fun j => c.la j * ((i / c.k ^ j : Nat) : Int)) (s + 1) = Z
      rw [Int.mul_add, Int.mul_add, ← Int.mul_assoc (d : Int) K (c.k : Int), Int.mul_assoc ((d : Int) * K) (c.k : Int) (zz c s), Int.mul_comm (c.la (s + 1)) ((d : Int) * K)]
      omega
  have := key t (Nat.le_refl _)
  rw [Nat.sub_self, Int.pow_zero, Int.mul_one] at this
  exact this
theorem fq_succ {t i : Nat} (hi : i < c.k ^ (t + 1)) : fq c (t + 1) i = fq c t i := by
  unfold fq
  rw [smN, Nat.div_eq_of_lt hi]
  simp
theorem qq_digit (h : CtOk c) {t d i : Nat} (hd : d < c.k) (hi : i < c.k ^ t) : qq c (t + 1) (d * c.k ^ t + i) = c.la (t + 1) + d * zz c t + qq c t i := by
  have hlt : d * c.k ^ t + i < c.k ^ (t + 1) := by
    rw [Nat.pow_succ, Nat.mul_comm (c.k ^ t)]
    have : (d + 1) * c.k ^ t ≤ c.k * c.k ^ t := Nat.mul_le_mul_right _ hd
    rw [Nat.succ_mul] at this
    omega
  unfold qq
  rw [fq_succ hlt, fq_digit h hi, smN]
  omega
theorem fq_nn (h : CtOk c) (t i : Nat) : 0 ≤ fq c t i := by
  have : smN (fun _ => 0) (t + 1) ≤ fq c t i := smN_le fun j _ => Int.mul_nonneg (h.la j) (Int.natCast_nonneg _)
  have e : ∀ n, smN (fun _ => 0) n = 0 := fun n => by
    induction n with
    | zero => rfl
    | succ n ih => rw [smN, ih]; rfl
  rw [e] at this
  exact this
theorem sm_nn {f : Nat → Int} (h : ∀ j, 0 ≤ f j) : ∀ n, 0 ≤ smN f n
  | 0 => Int.le_refl _
  | n + 1 => by
    have := sm_nn h n
    have := h n
    rw [smN]
    omega
theorem qq_nn (h : CtOk c) (t i : Nat) : 0 ≤ qq c t i := by
  have h1 := h.o0
  have h2 := fq_nn h t i
  have h3 := sm_nn (f := fun j => c.la (j + 1)) (fun j => h.la _) t
  unfold qq
  omega
theorem qq_le (h : CtOk c) : ∀ (t i : Nat), i < c.k ^ t → qq c t i ≤ zz c t
  | 0, i, hi => by
    have : i = 0 := by simpa using hi
    subst this
    have := h.o1
    simp [qq, fq, smN, zz]
    omega
  | t + 1, i, hi => by
    have hp : 0 < c.k ^ t := Nat.pow_pos (by have := h.k2; omega)
    have e : i = (i / c.k ^ t) * c.k ^ t + i % c.k ^ t := by rw [Nat.mul_comm]; exact (Nat.div_add_mod i _).symm
    have hd : i / c.k ^ t < c.k := Nat.div_lt_of_lt_mul (by rw [← Nat.pow_succ]; exact hi)
    have hm : i % c.k ^ t < c.k ^ t := Nat.mod_lt _ hp
    have ih := qq_le h t _ hm
    rw [e, qq_digit h hd hm, zz]
    have hz := zz_pos h t
    have : ((i / c.k ^ t : Nat) : Int) * zz c t ≤ (c.k - 1) * zz c t := Int.mul_le_mul_of_nonneg_right (by omega) (by omega)
    have e2 : ((c.k : Int) - 1) * zz c t = c.k * zz c t - zz c t := by rw [Int.sub_mul]; omega
    omega
/-- the search inside a whole tree of t steps -/
def ins (c : Ct) : Nat → Int → Int
  | 0, off => if c.own ≤ off then 1 else 0
  | t + 1, off => if off < c.la (t + 1) then 0 else (off - c.la (t + 1)) / zz c t * ((c.k ^ t : Nat) : Int) + ins c t ((off - c.la (t + 1)) % zz c t)
/-- ends against sizes -/
theorem en_zz (h : CtOk c) : ∀ t, c.eh - c.la 0 + smN c.sp t + zz c t = en c t + smN (fun j => c.la (j + 1)) t
  | 0 => by simp [smN, zz, en]
  | t + 1 => by
    have ih := en_zz h t
    rw [smN, smN, zz, en]
    have : ((c.k : Int) - 1) * zz c t = c.k * zz c t - zz c t := by rw [Int.sub_mul]; omega
    omega
/-- a place by its stage -/
theorem pp_stage (h : CtOk c) {t d i : Nat} (d1 : 1 ≤ d) (hd : d < c.k) (hi : i < c.k ^ t) : pp c (d * c.k ^ t + i) = en c t + c.sp t + ((d : Int) - 1) * zz c t + qq c t i := by
  have hk := h.k2
  have hp : 0 < c.k ^ t := Nat.pow_pos (by omega)
  have hge : c.k ^ t ≤ d * c.k ^ t := Nat.le_mul_of_pos_left _ d1
  have hlt : d * c.k ^ t + i < c.k ^ (t + 1) := by
    rw [Nat.pow_succ, Nat.mul_comm (c.k ^ t)]
    have : (d + 1) * c.k ^ t ≤ c.k * c.k ^ t := Nat.mul_le_mul_right _ hd
    rw [Nat.succ_mul] at this
    omega
  have hb := lt_pow hk (d * c.k ^ t + i)
  unfold pp
  rw [if_neg (by omega)]
  have ht : t < d * c.k ^ t + i := Nat.lt_of_lt_of_le (lt_pow hk t) (by omega)
  have e1 : smN (fun j => if c.k ^ j ≤ d * c.k ^ t + i then c.sp j else 0) (d * c.k ^ t + i) = smN c.sp (t + 1) := by
    rw [smN_ext (n := t + 1) (by omega) fun j hj => if_neg (by
      have := Nat.pow_le_pow_right (n := c.k) (by omega) hj
      omega)]
    exact smN_congr fun j hj => if_pos (Nat.le_trans (Nat.pow_le_pow_right (by omega) (by omega)) (Nat.le_trans hge (by omega)))
  have e2 : fq c (d * c.k ^ t + i) (d * c.k ^ t + i) = fq c t (d * c.k ^ t + i) := by
    unfold fq
    refine smN_ext (by omega) fun j hj => ?_
    have := Nat.pow_le_pow_right (n := c.k) (by omega) hj
    rw [Nat.div_eq_of_lt (by omega)]
    simp
  rw [e1, e2, fq_digit h hi]
  have e3 := en_zz h t
  have e4 : ((d : Int) - 1) * zz c t = d * zz c t - zz c t := by rw [Int.sub_mul]; omega
  rw [smN]
  unfold qq
  omega
theorem en_mono (h : CtOk c) {t u : Nat} (hu : t ≤ u) : en c t ≤ en c u := by
  induction u with
  | zero =>
    have : t = 0 := by omega
    rw [this]
    exact Int.le_refl _
  | succ u ih =>
    rcases Nat.lt_or_ge u t with z | z
    · have : t = u + 1 := by omega
      rw [this]
      exact Int.le_refl _
    · have := ih z
      have h1 := h.sp u
      have h2 : 0 ≤ ((c.k : Int) - 1) * zz c u := Int.mul_nonneg (by have := h.k2; omega) (by have := zz_pos h u; omega)
      rw [en]
      omega
/-- the stage of a node -/
theorem stage_of {k : Nat} (hk : 2 ≤ k) : ∀ {b : Nat}, 0 < b → ∃ t d i, b = d * k ^ t + i ∧ 1 ≤ d ∧ d < k ∧ i < k ^ t := by
  intro b hb
  have : ∃ t, b < k ^ (t + 1) := ⟨b, Nat.lt_of_lt_of_le (lt_pow hk b) (Nat.pow_le_pow_right (by omega) (by omega))⟩
  have key : ∀ N, (b < k ^ (N + 1)) → ∃ t, k ^ t ≤ b ∧ b < k ^ (t + 1) := by
    intro N
    induction N with
    | zero => exact fun h => ⟨0, by rw [Nat.pow_zero]; exact hb, h⟩
    | succ N ih =>
      intro h
      rcases Nat.lt_or_ge b (k ^ (N + 1)) with z | z
      · exact ih z
      · exact ⟨N + 1, z, h⟩
  obtain ⟨N, hN⟩ := this
  obtain ⟨t, h1, h2⟩ := key N hN
  have hp : 0 < k ^ t := Nat.pow_pos (by omega)
  refine ⟨t, b / k ^ t, b % k ^ t, by rw [Nat.mul_comm]; exact (Nat.div_add_mod b _).symm, Nat.div_pos h1 hp, Nat.div_lt_of_lt_mul (by rw [← Nat.pow_succ]; exact h2), Nat.mod_lt _ hp⟩
theorem pp_ge (h : CtOk c) {t d i : Nat} (d1 : 1 ≤ d) (hd : d < c.k) (hi : i < c.k ^ t) : en c t ≤ pp c (d * c.k ^ t + i) ∧ pp c (d * c.k ^ t + i) ≤ en c (t + 1) := by
  rw [pp_stage h d1 hd hi, en]
  have h1 := h.sp t
  have hz := zz_pos h t
  have q0 := qq_nn h t i
  have q1 := qq_le h t i hi
  have e1 : 0 ≤ ((d : Int) - 1) * zz c t := Int.mul_nonneg (by omega) (by omega)
  have e2 : (d : Int) * zz c t ≤ ((c.k : Int) - 1) * zz c t := Int.mul_le_mul_of_nonneg_right (by omega) (by omega)
  have e4 : ((d : Int) - 1) * zz c t = d * zz c t - zz c t := by rw [Int.sub_mul]; omega
  omega
/-- the search as the program does it: t is the least stage with n < en t -/
def cnt (c : Ct) (n : Int) (t : Nat) : Int :=
  if n < c.a0 then 0 else if t = 0 then 1 else if n - en c (t - 1) - c.sp (t - 1) < 0 then ((c.k ^ (t - 1) : Nat) : Int)
  else ((c.k ^ (t - 1) : Nat) : Int) * (1 + (n - en c (t - 1) - c.sp (t - 1)) / zz c (t - 1)) + ins c (t - 1) ((n - en c (t - 1) - c.sp (t - 1)) % zz c (t - 1))
end
end Sm
namespace Sm
/-! ### sizes and ends of a tree; the counter of a height -/
def siz (k : Nat) (l : Nat → Int) : Nat → Int
  | 0 => l 0
  | j + 1 => l (j + 1) + k * siz k l j
def ed (k : Nat) (s l : Nat → Int) : Nat → Int
  | 0 => s 0
  | j + 1 => ed k s l j + s (j + 1) + (k - 1) * siz k l j
def fp (k : Nat) (s l : Nat → Int) (h : Nat) : Int := (if h = 0 then 0 else ed k s l (h - 1)) + s h
def ctO (k : Nat) (s l : Nat → Int) (h : Nat) : Ct := ⟨k, fun j => if j = 0 then siz k l h else l (h + j), fun j => s (h + 1 + j), l h, fp k s l h, ed k s l h⟩
/-- the place of a node of height h with b such nodes before it -/
def pl (k : Nat) (s l : Nat → Int) (h b : Nat) : Int := pp (ctO k s l h) b
section
variable {k : Nat} {s l : Nat → Int}
theorem sz_pos (hk : 2 ≤ k) (hl : ∀ j, 0 ≤ l j) (h0 : 0 < l 0) : ∀ j, 0 < siz k l j
  | 0 => h0
  | j + 1 => by
    have h1 := sz_pos hk hl h0 j
    have h2 := hl (j + 1)
    have h3 : (0 : Int) < k * siz k l j := Int.mul_pos (by omega) h1
    rw [siz]
    omega
theorem sz_ge (hk : 2 ≤ k) (hl : ∀ j, 0 ≤ l j) (h0 : 0 < l 0) (j : Nat) : l j ≤ siz k l j := by
  cases j with
  | zero => exact Int.le_refl _
  | succ j =>
    have := sz_pos hk hl h0 j
    have h3 : (0 : Int) < k * siz k l j := Int.mul_pos (by omega) this
    rw [siz]
    omega
theorem ed_nn (hk : 2 ≤ k) (hs : ∀ j, 0 ≤ s j) (hl : ∀ j, 0 ≤ l j) (h0 : 0 < l 0) : ∀ j, 0 ≤ ed k s l j
  | 0 => hs 0
  | j + 1 => by
    have h1 := ed_nn hk hs hl h0 j
    have h2 := hs (j + 1)
    have h3 : 0 ≤ ((k : Int) - 1) * siz k l j := Int.mul_nonneg (by omega) (by have := sz_pos hk hl h0 j; omega)
    rw [ed]
    omega
theorem ct_ok (hk : 2 ≤ k) (hs : ∀ j, 0 ≤ s j) (hl : ∀ j, 0 ≤ l j) (h0 : 0 < l 0) (h : Nat) : CtOk (ctO k s l h) where
  k2 := hk
  la := fun j => by
    show 0 ≤ if j = 0 then siz k l h else l (h + j)
    split
    · have := sz_pos hk hl h0 h
      omega
    · exact hl _
  l0 := sz_pos hk hl h0 h
  sp := fun j => hs _
  o0 := hl h
  o1 := sz_ge hk hl h0 h
  a0 := by
    show 0 ≤ fp k s l h
    unfold fp
    have h1 := hs h
    split
    · omega
    · have := ed_nn hk hs hl h0 (h - 1)
      omega
  ae := by
    show fp k s l h ≤ ed k s l h
    unfold fp
    cases h with
    | zero =>
      show 0 + s 0 ≤ s 0
      omega
    | succ h =>
      rw [if_neg (by omega), Nat.add_sub_cancel, ed]
      have h3 : 0 ≤ ((k : Int) - 1) * siz k l h := Int.mul_nonneg (by omega) (by have := sz_pos hk hl h0 h; omega)
      omega
/-- as finishing reckons it -/
theorem pl_form {h b : Nat} (hb : 0 < b) {N N' : Nat} (hN : b < k ^ N) (hN' : b < k ^ (N' + 1)) (hk : 2 ≤ k) : pl k s l h b = ed k s l h + ((b : Int) - 1) * siz k l h + l h + smN (fun j => if k ^ j ≤ b then s (h + 1 + j) else 0) N + smN (fun j => ((b / k ^ (j + 1) : Nat) : Int) * l (h + (j + 1))) N' := by
  unfold pl pp
  rw [if_neg (by omega)]
  have e1 : smN (fun j => if (ctO k s l h).k ^ j ≤ b then (ctO k s l h).sp j else 0) b = smN (fun j => if k ^ j ≤ b then s (h + 1 + j) else 0) N := by
    show smN (fun j => if k ^ j ≤ b then s (h + 1 + j) else 0) b = _
    have key : ∀ m, b < k ^ m → ∀ j, m ≤ j → (if k ^ j ≤ b then s (h + 1 + j) else 0) = 0 := fun m hm j hj => if_neg (by
      have := Nat.pow_le_pow_right (n := k) (by omega) hj
      omega)
    rcases Nat.le_total N b with z | z
    · exact smN_ext z (key N hN)
    · exact (smN_ext z (key b (lt_pow hk b))).symm
  have e2 : fq (ctO k s l h) b b = (b : Int) * siz k l h + smN (fun j => ((b / k ^ (j + 1) : Nat) : Int) * l (h + (j + 1))) N' := by
    unfold fq
    rw [smN_head]
    show (if (0 : Nat) = 0 then siz k l h else l (h + 0)) * ((b / k ^ 0 : Nat) : Int) + smN (fun j => (if j + 1 = 0 then siz k l h else l (h + (j + 1))) * ((b / k ^ (j + 1) : Nat) : Int)) b = _
    rw [if_pos rfl, Nat.pow_zero, Nat.div_one, Int.mul_comm]
    congr 1
    have e3 : smN (fun j => (if j + 1 = 0 then siz k l h else l (h + (j + 1))) * ((b / k ^ (j + 1) : Nat) : Int)) b = smN (fun j => ((b / k ^ (j + 1) : Nat) : Int) * l (h + (j + 1))) b := smN_congr fun j _ => by rw [if_neg (by omega), Int.mul_comm]
    rw [e3]
    have key : ∀ m, b < k ^ (m + 1) → ∀ j, m ≤ j → ((b / k ^ (j + 1) : Nat) : Int) * l (h + (j + 1)) = 0 := fun m hm j hj => by
      have := Nat.pow_le_pow_right (n := k) (by omega) (show m + 1 ≤ j + 1 by omega)
      rw [Nat.div_eq_of_lt (by omega)]
      simp
    rcases Nat.le_total N' b with z | z
    · exact smN_ext z (key N' hN')
    · exact (smN_ext z (key b (Nat.lt_of_lt_of_le (lt_pow hk b) (Nat.pow_le_pow_right (by omega) (by omega))))).symm
  rw [e1, e2]
  show ed k s l h - siz k l h + l h + _ + _ = _
  rw [Int.sub_mul]
  omega
theorem pl_zero {h : Nat} : pl k s l h 0 = fp k s l h := rfl
/-! ### linear -/
variable {s1 l1 s2 l2 : Nat → Int}
variable {m : Int}
theorem pl_nn (hk : 2 ≤ k) (hs : ∀ j, 0 ≤ s j) (hl : ∀ j, 0 ≤ l j) (h0 : 0 < l 0) (h b : Nat) : 0 ≤ pl k s l h b := by
  have ok := ct_ok hk hs hl h0 h
  rcases Nat.eq_zero_or_pos b with z | z
  · subst z
    exact ok.a0
  · obtain ⟨u, d, i, rfl, d1, hd, hi⟩ := stage_of hk z
    have h1 : en (ctO k s l h) u ≤ pp (ctO k s l h) (d * k ^ u + i) := (pp_ge ok d1 hd hi).1
    have h2 := en_mono ok (Nat.zero_le u)
    have h3 := ok.ae
    have h4 := ok.a0
    have : en (ctO k s l h) 0 = (ctO k s l h).eh := rfl
    show 0 ≤ pp (ctO k s l h) _
    omega
/-- how many nodes of height h are finished by n -/
def Cnt (k : Nat) (s l : Nat → Int) (h : Nat) (n v : Int) : Prop := 0 ≤ v ∧ ∀ b : Nat, (b : Int) < v ↔ pl k s l h b ≤ n
end
end Sm
namespace K43
open PySem L2 Ab Sm
/-! ### counters: the cells -/
def szS (S : Sc) (j : Nat) : Int := siz S.a.toNat (item S.lv) j
def edS (S : Sc) (j : Nat) : Int := ed S.a.toNat (item S.sp) (item S.lv) j
def pwS (S : Sc) (j : Nat) : Int := ((S.a.toNat ^ j : Nat) : Int)
def ctS (S : Sc) (h : Nat) : Ct := ctO S.a.toNat (item S.sp) (item S.lv) h
def upL (g : Nat → Int) (n : Nat) : List Int := (List.range (n + 1)).map g
def cF (C : Addr) (S : Sc) (h : Nat) (p1 p2 p3 : Addr) : List (Str × Val) := [("own_schedule", scV C S), ("own_height", .int (h : Int)), ("sizes", .ptr p1), ("ends", .ptr p2), ("powers", .ptr p3)]
structure Cn (C C2 : Addr) (M : Mem) (i : Nat) (c p1 p2 p3 : Addr) (S : Sc) (h n : Nat) : Prop where
  c0 : M[i]? = some (c, .ins C2 (cF C S h p1 p2 p3))
  c1 : M[i + 1]? = some (p1, .lst ((upL (szS S) n).map .int))
  c2 : M[i + 2]? = some (p2, .lst ((upL (edS S) n).map .int))
  c3 : M[i + 3]? = some (p3, .lst ((upL (pwS S) n).map .int))
def grown (M : Mem) (i : Nat) (p1 p2 p3 : Addr) (S : Sc) (n : Nat) : Mem := ((M.set (i + 1) (p1, .lst ((upL (szS S) n).map .int))).set (i + 2) (p2, .lst ((upL (edS S) n).map .int))).set (i + 3) (p3, .lst ((upL (pwS S) n).map .int))
section
variable {C C2 : Addr} {M : Mem} {i : Nat} {c p1 p2 p3 : Addr} {S : Sc} {h n m : Nat}
theorem Cn.len (q : Cn C C2 M i c p1 p2 p3 S h n) : i + 3 < M.length := (List.getElem?_eq_some_iff.mp q.c3).1
theorem set_id {α : Type} {l : List α} {j : Nat} {x : α} (h : l[j]? = some x) : l.set j x = l := by
  apply List.ext_getElem?
  intro z
  by_cases e : j = z
  · subst e
    rw [List.getElem?_set_self (List.getElem?_eq_some_iff.mp h).1, h]
  · rw [List.getElem?_set_ne e]
theorem Cn.self (q : Cn C C2 M i c p1 p2 p3 S h n) : grown M i p1 p2 p3 S n = M := by
  unfold grown
  rw [set_id q.c1, set_id q.c2, set_id q.c3]
end
/-- spine_at, level_at, arity, as counters use them -/
structure Sm2 (P : Program) (w : World) (K : PySem.W.Frag) (mg : Str → Option Value) (base : Heap) (C : Addr) : Prop where
  sat : ∃ f, Meth K C "spine_at" f ∧ FX P w K mg base 3 f fun ds _ => aSat C ds
  lat : ∃ f, Meth K C "level_at" f ∧ FX P w K mg base 3 f fun ds _ => aLat C ds
section
variable {P : Program} {w : World} {K : PySem.W.Frag} {mg : Str → Option Value} {base : Heap} {k : Nat} {f C C2 : Addr}
theorem av_sa {X : Cx} {Γ : Gam} {M : Mem} {o e : Expr} {pos apos : Pos} {m : Nat} {S : Sc} {i : Int} {pl : Sem Bool} (T : Rs X.K X.mg C) (Q : Sm2 X.prog X.w X.K X.mg X.base C) (hr : Rm m X.A) (hm : 3 ≤ m) (ho : aV X o Γ M (scV C S)) (he : aV X e Γ M (.int i)) (hS : GoodS S) (h0 : 0 ≤ i) (hst : starEach [e] X.env = (false, eval e X.env) :: starEach [] X.env := by rfl)
    (ht : eval (.Call (.Attribute o "spine_at" apos) [e] [] pos) X.env = (do
      let ov ← eval o X.env
      standAt apos.atName
      let (f, first) ← holding [ov] (getMethod ov "spine_at" pl)
      callWith pos f first (backTo pos (starEach [e] X.env)) (backToKw pos (keywordEach [] X.env))) := by rfl) : aV X (.Call (.Attribute o "spine_at" apos) [e] [] pos) Γ M (.int (item S.sp i.toNat)) := by
  obtain ⟨f, mt, F⟩ := Q.sat
  exact ae_meth T.cl mt F (hr.mono hm) ho (.im _) rfl (aa_cons (he.val (aa_nil (ak_nil ⟨rfl, S, i, rfl, hS, h0, rfl, rfl⟩))) hst) rfl rfl hst (by rw [hst]; rfl) ht
theorem av_la {X : Cx} {Γ : Gam} {M : Mem} {o e : Expr} {pos apos : Pos} {m : Nat} {S : Sc} {i : Int} {pl : Sem Bool} (T : Rs X.K X.mg C) (Q : Sm2 X.prog X.w X.K X.mg X.base C) (hr : Rm m X.A) (hm : 3 ≤ m) (ho : aV X o Γ M (scV C S)) (he : aV X e Γ M (.int i)) (hS : GoodS S) (h0 : 0 ≤ i) (hst : starEach [e] X.env = (false, eval e X.env) :: starEach [] X.env := by rfl)
    (ht : eval (.Call (.Attribute o "level_at" apos) [e] [] pos) X.env = (do
      let ov ← eval o X.env
      standAt apos.atName
      let (f, first) ← holding [ov] (getMethod ov "level_at" pl)
      callWith pos f first (backTo pos (starEach [e] X.env)) (backToKw pos (keywordEach [] X.env))) := by rfl) : aV X (.Call (.Attribute o "level_at" apos) [e] [] pos) Γ M (.int (item S.lv i.toNat)) := by
  obtain ⟨f, mt, F⟩ := Q.lat
  exact ae_meth T.cl mt F (hr.mono hm) ho (.im _) rfl (aa_cons (he.val (aa_nil (ak_nil ⟨rfl, S, i, rfl, hS, h0, rfl, rfl⟩))) hst) rfl rfl hst (by rw [hst]; rfl) ht
/-! ### check_at_least -/
/-! ### grow -/
end
end K43
namespace K43
open PySem L2 Ab Sm
section
variable {S : Sc}
theorem GoodS.k2 (g : GoodS S) : 2 ≤ S.a.toNat := by have := g.a2; omega
theorem GoodS.k9 (g : GoodS S) : S.a.toNat ≤ 9 := by have := g.a9; omega
theorem GoodS.s0 (g : GoodS S) (j : Nat) : 0 ≤ item S.sp j := (g.ls.item j).1
theorem GoodS.l0 (g : GoodS S) (j : Nat) : 0 ≤ item S.lv j := (g.ll.item j).1
theorem GoodS.lp (g : GoodS S) : 0 < item S.lv 0 := by have := g.l0 0; have := g.lf; omega
theorem GoodS.ct (g : GoodS S) (h : Nat) : CtOk (ctS S h) := ct_ok g.k2 g.s0 g.l0 g.lp h
end
end K43
namespace K43
open PySem L2 Ab Sm
def CntS (S : Sc) (h : Nat) (n v : Int) : Prop := Cnt S.a.toNat (item S.sp) (item S.lv) h n v
end K43
namespace K43
open PySem L2 Ab Sm
theorem Cn.cons {C C2 : Addr} {M : Mem} {i : Nat} {c p1 p2 p3 : Addr} {S : Sc} {h n : Nat} {x : Addr × Cell} (q : Cn C C2 M i c p1 p2 p3 S h n) : Cn C C2 (x :: M) (i + 1) c p1 p2 p3 S h n := ⟨q.c0, q.c1, q.c2, q.c3⟩
end K43
namespace K43
open PySem L2 Ab Sm
/-! ### the law's streams of draws: a dict -/
def stD (cs : List Int) (t y : Int) : Cell := .dk [(.inr "cells", .lst (cs.map .int)), (.inr "at", .int t), (.inr "left", .int y)]
theorem stD_inj {cs cs' : List Int} {t y t' y' : Int} (h : stD cs t y = stD cs' t' y') : t = t' := by
  unfold stD at h
  injection h with h
  injection h with h
  injection h with h1 h
  injection h with h2 h
  have := congrArg Prod.snd h2
  simpa using this
/-- the stream's cell stands at place i; its count is at most N -/
def SD (M : Mem) (i : Nat) (a : Addr) (N : Nat) : Prop := ∃ cs t y, M[i]? = some (a, stD cs t y) ∧ cs ≠ [] ∧ cs.length ≤ 1000 ∧ 0 ≤ t ∧ t ≤ (N : Int)
def Dq (i : Nat) (a : Addr) (c : Nat) (M M' : Mem) : Prop := ∃ cs t y cs' t' y', M[i]? = some (a, stD cs t y) ∧ M' = M.set i (a, stD cs' t' y') ∧ (cs ≠ [] → cs' ≠ []) ∧ (cs.length ≤ 1000 → cs'.length ≤ 1000) ∧ (0 ≤ t → 0 ≤ t') ∧ t' ≤ t + (c : Int)
theorem Dq.trans {M M' M'' : Mem} {i : Nat} {a : Addr} {c e : Nat} (d : Dq i a c M M') (d' : Dq i a e M' M'') : Dq i a (c + e) M M'' := by
  obtain ⟨cs1, t1, y1, cs2, t2, y2, hm1, rfl, f1, f2, g0, g1⟩ := d
  obtain ⟨cs3, t3, y3, cs4, t4, y4, hm3, rfl, f3, f4, g2, g3⟩ := d'
  rw [List.getElem?_set_self (List.getElem?_eq_some_iff.mp hm1).1] at hm3
  have e := (Prod.mk.inj (Option.some.inj hm3)).2
  have et := stD_inj e
  have ec : cs2 = cs3 := by
    unfold stD at e
    injection e with e
    injection e with e
    injection e with e1 e
    have e2 := congrArg Prod.snd e1
    have e3 : cs2.map Val.int = cs3.map Val.int := by simpa using e2
    exact (List.map_inj_right (fun a b h => by injection h)).mp e3
  subst et ec
  exact ⟨cs1, t1, y1, cs4, t4, y4, hm1, by rw [List.set_set], fun h => f3 (f1 h), fun h => f4 (f2 h), fun h => g2 (g0 h), by omega⟩
theorem Dq.mono {M M' : Mem} {i : Nat} {a : Addr} {c e : Nat} (d : Dq i a c M M') (h : c ≤ e) : Dq i a e M M' := by
  obtain ⟨cs1, t1, y1, cs2, t2, y2, hm1, e1, f1, f2, g0, g1⟩ := d
  exact ⟨cs1, t1, y1, cs2, t2, y2, hm1, e1, f1, f2, g0, by omega⟩
theorem SD.refl {M : Mem} {i : Nat} {a : Addr} {N : Nat} (h : SD M i a N) : Dq i a 0 M M := by
  obtain ⟨cs, t, y, h, _⟩ := h
  exact ⟨cs, t, y, cs, t, y, h, (set_id h).symm, fun h => h, fun h => h, fun h => h, by omega⟩
theorem SD.cons {M : Mem} {i : Nat} {a : Addr} {N : Nat} {c : Addr × Cell} (h : SD M i a N) : SD (c :: M) (i + 1) a N := h
theorem Dq.cons {M M' : Mem} {i : Nat} {a : Addr} {e : Nat} {c : Addr × Cell} (h : Dq (i + 1) a e (c :: M) M') : ∃ M'', M' = c :: M'' ∧ Dq i a e M M'' := by
  obtain ⟨x1, t1, y1, x2, t2, y2, hm1, rfl, g⟩ := h
  exact ⟨_, rfl, x1, t1, y1, x2, t2, y2, hm1, rfl, g⟩
end K43
namespace Ab
open PySem PySem.Spec PyProof.Rows L2
end Ab
namespace Ab
open PySem PySem.Spec PyProof.Rows L2
/-! ### t[::-1] of a tuple -/
end Ab
/-! boxes: opened, closed; promises over boxes -/
namespace Ab
open PySem PySem.Spec PyProof.Rows L2
section
variable {X : Cx} {Γ : Gam} {M M' : Mem} {P : Val → Mem → Prop} {e : Expr} {sts : List Stmt} {k : AK} {p : Addr} {φ φ' : Mem0 → Prop} {B : Mem0} {i : Nat}
/-- a box is opened for the rest of a block -/
theorem as_open (hi : M[i]? = some (p, .box φ)) (h : ∀ B, φ B → p ∈ B.map (·.1) → aSs X sts Γ (bs B ++ M.eraseIdx i) k) : aSs X sts Γ M k := fun Hi H σ ok en D q => by
  obtain ⟨B, h1, h2, ok'⟩ := ok.opn hi
  exact h B h1 h2 Hi H σ ok' en D q
end
section
variable {P : Program} {w : World} {K : PySem.W.Frag} {mg : Str → Option Value} {base : Heap} {k : Nat} {f : Addr} {ks : List Str} {sp sp' : List V → List V → Hp → VK → Prop} {sx sx' : ASx}
theorem FnX.weak (F : FnX P w K mg base k f ks sp) (h : ∀ vs zs H Q, sp' vs zs H Q → sp vs zs H Q) : FnX P w K mg base k f ks sp' :=
  ⟨fun A outer s H us ws vs zs Q a b c d e g => F.run A outer s H us ws vs zs Q a b c d e (h vs zs H Q g)⟩
/-- a promise by another one -/
theorem FnX.imp (F : FnX P w K mg base k f ks (spX K sx)) (h : ∀ ds es M R, sx' ds es M R → sx ds es M R) : FnX P w K mg base k f ks (spX K sx') :=
  F.weak fun vs zs H Q ⟨Hi, M, ds, es, R, r1, r2, ok, hs, q⟩ => ⟨Hi, M, ds, es, R, r1, r2, ok, h ds es M R hs, q⟩
theorem set_at {α : Type} {M : List α} {i : Nat} {x : α} (h : M[i]? = some x) : M.set i x = M := by
  induction M generalizing i with
  | nil => rfl
  | cons y M ih =>
    cases i with
    | zero => cases h; rfl
    | succ i => rw [List.set_cons_succ, ih h]
/-- a promise over cells, told over their box -/
theorem FnX.box (F : FnX P w K mg base k f ks (spX K sx)) (h : ∀ ds es M R, sx' ds es M R → ∃ (i : Nat) (p : Addr) (φ : Mem0 → Prop), M[i]? = some (p, .box φ) ∧
    ∀ B, φ B → p ∈ B.map (·.1) → sx ds es (bs B ++ M.eraseIdx i) fun d M' => ∃ B' φ', M' = bs B' ++ M.eraseIdx i ∧ φ' B' ∧ p ∈ B'.map (·.1) ∧ R d (M.set i (p, .box φ'))) : FnX P w K mg base k f ks (spX K sx') :=
  F.weak fun vs zs H Q ⟨Hi, M, ds, es, R, r1, r2, ok, hs, q⟩ => by
    obtain ⟨i, p, φ, hi, hb⟩ := h ds es M R hs
    obtain ⟨B, h1, h2, ok'⟩ := ok.opn hi
    refine ⟨Hi, _, ds, es, _, r1, r2, ok', hb B h1 h2, fun d M' v Hi' H' hd s' ok2 r => ?_⟩
    obtain ⟨B', φ', rfl, h3, h4, h5⟩ := hd
    exact q d _ v Hi' H' h5 s' (ok2.clsAt hi h3 h4) r
end
end Ab
/-! repr of data of any depth; memories read otherwise -/
namespace Ab
open PySem PySem.Spec PyProof.Rows L2
mutual
def dpV : Val → Nat
  | .non => 0
  | .bl _ => 0
  | .int _ => 0
  | .str _ => 0
  | .lst xs => dpVs xs + 1
  | .tup xs => dpVs xs + 1
  | .ty _ => 0
  | .ptr _ => 0
  | .obj _ _ => 0
  | .exc _ _ => 0
  | .lam _ _ => 0
def dpVs : List Val → Nat
  | [] => 0
  | x :: xs => max (dpV x) (dpVs xs)
end
section
variable {P : Val → Mem → Prop} {d : Val} {M M' : Mem} {B : Mem0} {p : Addr} {φ : Mem0 → Prop} {x : Cell} {i : Nat}
/-- a def's end: the cells go back into their box -/
theorem Ret.clsAt (hi : M[i]? = some (p, x)) (h : φ B) (hp : p ∈ B.map (·.1)) (hr : Ret P d (M.set i (p, .box φ))) : Ret P d (bs B ++ M.eraseIdx i) := .tr (fun _ _ _ ok => ok.clsAt hi h hp) hr
theorem Ret.cls (h : φ B) (hp : p ∈ B.map (·.1)) (hr : Ret P d ((p, .box φ) :: M)) : Ret P d (bs B ++ M) := .tr (fun _ _ _ ok => ok.cls h hp) hr
theorem bx_get {α : Type} {M : List α} {i : Nat} {x y : α} (h : M[i]? = some x) : (M.set i y)[i]? = some y := List.getElem?_set_self (List.getElem?_eq_some_iff.mp h).1
end
end Ab
/-! comparisons whose outcome is known; data compared -/
namespace Ab
open PySem PySem.Spec PyProof.Rows L2
mutual
def dtV : Val → Prop
  | .non => True
  | .bl _ => True
  | .int _ => True
  | .str x => PyData.strOk x = true
  | .lst xs => dtVs xs
  | .tup xs => dtVs xs
  | .ty _ => False
  | .ptr _ => False
  | .obj _ _ => False
  | .exc _ _ => False
  | .lam _ _ => False
def dtVs : List Val → Prop
  | [] => True
  | x :: xs => dtV x ∧ dtVs xs
end
structure DtD (v : Val) (p : PyData) : Prop where
  td : toD v = some p
  cl : p.canLay0 = true
  dp : p.depth ≤ dpV v
structure DtDs (v : List Val) (p : List PyData) : Prop where
  td : toDs v = some p
  cl : PyData.canLayAll0 p = true
  dp : PyData.depthAll p ≤ dpVs v
mutual
theorem dtd : ∀ (v : Val), dtV v → ∃ p, DtD v p
  | .non, _ => ⟨.none, by unfold toD; rfl, rfl, by simp [PyData.depth]⟩
  | .bl b, _ => ⟨.bool b, by unfold toD; rfl, rfl, by simp [PyData.depth]⟩
  | .int i, h => ⟨.int i, by unfold toD; rfl, rfl, by simp [PyData.depth]⟩
  | .str x, h => ⟨.str x, by unfold toD; rfl, by unfold dtV at h; unfold PyData.canLay0; exact h, by simp [PyData.depth]⟩
  | .lst xs, h => by
    unfold dtV at h
    obtain ⟨ps, q⟩ := dtds xs h
    exact ⟨.list ps, by unfold toD; rw [q.td]; rfl, by unfold PyData.canLay0; exact q.cl, by unfold PyData.depth dpV; have := q.dp; omega⟩
  | .tup xs, h => by
    unfold dtV at h
    obtain ⟨ps, q⟩ := dtds xs h
    exact ⟨.tuple ps, by unfold toD; rw [q.td]; rfl, by unfold PyData.canLay0; exact q.cl, by unfold PyData.depth dpV; have := q.dp; omega⟩
  | .ty _, h => h.elim
  | .ptr _, h => h.elim
  | .obj _ _, h => h.elim
  | .exc _ _, h => h.elim
  | .lam _ _, h => h.elim
theorem dtds : ∀ (v : List Val), dtVs v → ∃ p, DtDs v p
  | [], _ => ⟨[], rfl, rfl, by simp [PyData.depthAll]⟩
  | x :: xs, h => by
    unfold dtVs at h
    obtain ⟨p, q⟩ := dtd x h.1
    obtain ⟨ps, qs⟩ := dtds xs h.2
    exact ⟨p :: ps, by unfold toDs; rw [q.td, qs.td]; rfl, by unfold PyData.canLayAll0; rw [q.cl, qs.cl]; rfl, by unfold PyData.depthAll dpVs; have := q.dp; have := qs.dp; omega⟩
end
section
variable {X : Cx} {Γ : Gam} {M M' : Mem} {P : Val → Mem → Prop} {e a b c o : Expr} {pos p1 : Pos} {sts : List Stmt} {k : AK} {d d1 d2 v w : Val} {n : Nat} {i j : Int}
theorem cmp_eqV (h1 : Vw M d1 v) (h2 : Vw M d2 w) (h : v = w) (hd : dtV v) (hp : dpV v ≤ 60) (hu : X.A.units + 64 < cLine) : Cmp X .Eq M d1 d2 true := by
  subst h
  obtain ⟨p, q⟩ := dtd v hd
  have hs : SeqAt.shaped p = true := Bool.and_eq_true_iff.mpr ⟨q.cl, decide_eq_true (by have := q.dp; omega)⟩
  have := cmp_eqD (X := X) h1 h2 q.td q.td hs hs hu
  rwa [SeqAt.eqv_refl _ q.cl] at this
theorem cmp_neT (h : i ≠ j) : Cmp X .NotEq M (.int i) (.int j) true := cmp_neI.eq (by simp [h])
theorem cmp_eqST {x y : Str} (h : x = y) : Cmp X .Eq M (.str x) (.str y) true := cmp_eqS.eq (by simp [h])
end
end Ab
namespace Ab
open PySem PySem.Spec PyProof.Rows L2
section
variable {P : Program} {w : World} {K : PySem.W.Frag} {mg : Str → Option Value} {base : Heap}
/-- a def with defaults, called by positions and keywords in any way -/
theorem fnx_dflG {x qual : Str} {params : Arguments} {body : List Stmt} {sc : Scope} {dvs : List V} {kws : List (Str × V)} {f : Addr} {fd : FuncData} {N ps ks : List Str} {k n : Nat} {s0 : ASp} (g : {α : Type} → List α → List α → List α → List α) (F : FunD K x qual params body sc dvs kws f fd) (S : FnScope N ps sc) (hd : dvs ≠ []) (dd : List Val) (hdd : ∀ H, RepA K H dd dvs)
    (h : ∀ (T : Addr) (kV doc pm : Value) (an : Option Addr) (cdv ct : Value) (us ws its : List Value), us.length = n → ws.length = ks.length → its.length = dvs.length →
      ∃ k, bindArgs (PySem.W.fnOf x qual params body sc (.ref T) kV doc pm an cdv ct) ⟨us, ks.zip ws⟩ = seqItems? (.ref T) >>= k ∧ k (some its.toArray) = pure (ps.zip (g us ws its)))
    (hv : ∀ {vs zs ys : List V} {us ws its : List Value}, Vals vs us → Vals zs ws → Vals ys its → Vals (g vs zs ys) (g us ws its))
    (hr : ∀ {H : Hp} {ds es fs : List Val} {vs zs ys : List V}, RepA K H ds vs → RepA K H es zs → RepA K H fs ys → RepA K H (g ds es fs) (g vs zs ys))
    (len : ∀ ds M R, s0 ds M R → ds.length = ps.length) (hb : BodyOk P w K mg base k f N qual sc body s0) : FnX P w K mg base (k + 1) f ks (spX K fun ds es M R => ds.length = n ∧ s0 (g ds es dd) M R) := by
  obtain ⟨oc, od, dV, kV, doc, pm, an, cdv, ct, osl, e, lk, hcd, hD, hK⟩ := F.ex
  rcases hD with ⟨e, _⟩ | ⟨_, T, o, its, m, e2, lT, oT, rT⟩
  · exact absurd e hd
  · subst e2
    subst e
    have l1 : its.length = dvs.length := rT.length.symm
    refine fnx_kbn (n := n) (ks := ks) (fun ds es => g ds es dd) F S (g := fun us ws => g us ws its) (gV := fun vs zs => g vs zs dvs) ⟨fun s us ws X l2 h2 => ?_, fun r1 r2 => hv r1 r2 rT⟩ (fun H ds vs es zs r1 r2 _ _ => hr r1 r2 (hdd H)) len hb
    obtain ⟨k', e1, e2⟩ := h T kV doc pm an cdv ct us ws its l2 h2 l1
    refine BindsTo.of_looks fun M => ?_
    show PySem.W.Looks M s.heap (bindArgs _ ⟨us, ks.zip ws⟩) _
    rw [e1]
    exact looks_items X lT oT (.of_pure e2)
end
end Ab
namespace K43
open PySem L2 Ab Sm
/-- a short stream -/
structure Sq3 (lo : Int) (s : Stm) : Prop where
  sq : Seq lo s
  a1 : ∀ v ∈ s.1, v ≤ 3
  a2 : ∀ v ∈ s.2, v ≤ 3
  l3 : s.1.length ≤ 3
theorem Sq3.it {lo : Int} {s : Stm} (h : Sq3 lo s) (i : Nat) : item s i ≤ 3 := by
  rcases item_mem h.sq.ne i with z | z
  · exact h.a1 _ z
  · exact h.a2 _ z
end K43
namespace Sm
/-! ### the value of a sequence of levels, as a limit -/
def ff (k : Int) (w : Nat → Int) : Nat → Int
  | 0 => 0
  | n + 1 => ff k w n * k + w n
structure Vl (k : Int) (w : Nat → Int) (x b : Int) : Prop where
  b0 : 0 < b
  bd : ∃ c : Int, ∀ n, -c ≤ x * k ^ n - b * ff k w n ∧ x * k ^ n - b * ff k w n ≤ c
/-! ### lowest terms -/
end Sm
/-! the mean gap as a fraction; blocks of leaves -/
namespace Sm
/-- a / b is k times the value of the levels w -/
structure Gq (k : Int) (w : Nat → Int) (a b : Nat) : Prop where
  b0 : 0 < b
  ex : ∃ x y, Vl k w x y ∧ 0 ≤ x ∧ (a : Int) * y = x * k * b
variable {k : Int} {w w1 w2 : Nat → Int} {a b a' b' a1 b1 a2 b2 : Nat} {x y : Int}
theorem Gq.of (hk : 2 ≤ k) (h : Vl k w x y) (h0 : 0 ≤ x) : Gq k w (x * k).toNat y.toNat := by
  have y0 := h.b0
  have xk : 0 ≤ x * k := Int.mul_nonneg h0 (by omega)
  exact ⟨by omega, x, y, h, h0, by rw [Int.toNat_of_nonneg xk, Int.toNat_of_nonneg (by omega)]⟩
/-! ### the place of a leaf, by counting and by the sum -/
theorem pl0_place {k : Nat} {s l : Nat → Int} {b : Nat} (hk : 2 ≤ k) : pl k s l 0 b = place k s l b := by
  rcases Nat.eq_zero_or_pos b with h | h
  · subst h
    rw [pl_zero, place_zero]
    simp [fp]
  · rw [pl_form h (lt_pow hk b) (Nat.lt_trans (lt_pow hk b) (Nat.pow_lt_pow_right (by omega) (Nat.lt_succ_self b))) hk]
    unfold place plT
    rw [smN_add, show ed k s l 0 = s 0 from rfl, show siz k l 0 = l 0 from rfl]
    have e1 : smN (fun j => if k ^ j ≤ b then s (0 + 1 + j) else 0) b = smN (fun j => if k ^ j ≤ b then s (j + 1) else 0) b := smN_congr fun j _ => by rw [show 0 + 1 + j = j + 1 by omega]
    have e2 : smN (fun j => ((b / k ^ (j + 1) : Nat) : Int) * l (0 + (j + 1))) b = smN (fun j => l (j + 1) * ((b / k ^ (j + 1) : Nat) : Int)) b := smN_congr fun j _ => by rw [Int.mul_comm, Nat.zero_add]
    rw [e1, e2, Int.sub_mul]
    omega
theorem smN_sub {f g : Nat → Int} {n : Nat} : smN (fun j => f j - g j) n = smN f n - smN g n := by
  induction n with
  | zero => rfl
  | succ n ih => rw [smN, smN, smN, ih]; omega
theorem place_two {k : Nat} {s l : Nat → Int} {b N : Nat} (hk : 2 ≤ k) (hN : b < k ^ N) : place k s l b = s 0 + smN (fun h => if k ^ h ≤ b then s (h + 1) else 0) N + smN (fun h => l h * ((b / k ^ h : Nat) : Int)) (N + 1) := by
  rw [place_N hk hN]
  unfold plT
  rw [smN_add, smN_head (f := fun h => l h * ((b / k ^ h : Nat) : Int)), Nat.pow_zero, Nat.div_one, Int.mul_comm (b : Int)]
  omega
end Sm
namespace K43
open PySem L2 Ab Sm
/-! ### the draws of stage 4: a dict in a box -/
section
variable {P : Program} {w : World} {K : PySem.W.Frag} {mg : Str → Option Value} {base : Heap} {k : Nat} {f C C2 : Addr}
def sm4 (v : Int) : Prop := 0 ≤ v ∧ v ≤ 29
/-- a small stream of draws -/
structure Sg4 (s : Stm) : Prop where
  l1 : s.1.length ≤ 4
  l2 : s.2.length ≤ 3
  ne : s.2 ≠ []
  a1 : ∀ v ∈ s.1, sm4 v
  a2 : ∀ v ∈ s.2, sm4 v
theorem Sg4.lim {s : Stm} (h : Sg4 s) : Lim s := ⟨by have := h.l1; omega, by have := h.l2; omega, h.ne, fun v hv => ⟨(h.a1 v hv).1, by have := (h.a1 v hv).2; omega⟩, fun v hv => ⟨(h.a2 v hv).1, by have := (h.a2 v hv).2; omega⟩⟩
theorem Sg4.item {s : Stm} (h : Sg4 s) (i : Nat) : sm4 (item s i) := by
  rcases item_mem h.ne i with z | z
  · exact h.a1 _ z
  · exact h.a2 _ z
/-! ### _law_item -/
end
end K43
namespace K43
open PySem L2 Ab Sm
section
variable {P : Program} {w : World} {K : PySem.W.Frag} {mg : Str → Option Value} {base : Heap} {k : Nat} {f C C2 : Addr}
/-! ### _law_lowest -/
/-! ### check_integer with both limits, grafted -/
def aChk3 : ASp := fun ds M R => ∃ n lo hi, ds = [.int n, .int lo, .int hi] ∧ lo ≤ n ∧ n ≤ hi ∧ R .non M
theorem b_check_integer3 (G : GInt P w K mg base) : BodyOk P w K mg base 1 f n_check_integer "check_integer" (defScope s_check_integer) (defBody s_check_integer) aChk3 := by
  rintro cdv A outer s H E hr ds M R ⟨n, lo, hi, rfl, hle, hhi, hp⟩
  refine as_one (as_if (at_not (at_val (ae_g G hr (by decide) (aa_cons ((v_ 0).val (aa_nil (ak_cons ((v_ 1).val (ak_cons ((v_ 2).val (ak_nil ⟨rfl, rfl, n, some lo, some hi, rfl, true, ?_, nft, fun _ => as_nil (.ok hp)⟩))))))))))))
  have e : within n (some lo) (some hi) = true := by simp [within]; exact ⟨hle, hhi⟩
  rw [e]
abbrev GChk3 (P : Program) (w : World) (K : PySem.W.Frag) (mg : Str → Option Value) (base : Heap) : Prop := Gd P w K mg base 2 "check_integer" [] fun ds _ => aChk3 ds
/-! ### Schedule(a), Schedule(a, levels=l), Schedule(a, spine=s) -/
end
end K43
/-! Ab102: x //= e, x *= e; enumerate of a list that is a cell (ints) -/
namespace Ab
open PySem PySem.Spec PyProof.Rows L2
section
variable {X : Cx} {Γ : Gam} {M : Mem} {e : Expr} {pos : Pos} {k : AK} {i : Int} {x : Str}
theorem as_augF {ps : Pos} (n : Nat) (hN : X.N.Nodup) (hΓ : Γ[n]? = some (some (.int i))) (he : aE X e Γ M fun d M' => ∃ j, d = .int j ∧ (0 < j ∧ j < 1073741824) ∧ k.nx (Γ.set n (some (.int (i / j)))) M') (hi : X.N[n]? = some x := by rfl) (hx : Loc X.env.scope x := by first | exact Or.inl rfl | exact Or.inr rfl)
    (hf : X.fn x = true ∨ X.env.scope.names.lookup x = some .local := by first | exact .inl rfl | exact .inr rfl | assumption) : aS X (.AugAssign (.Name x ps) .FloorDiv e pos) Γ M k := fun Hi H σ ok en D q => by
  refine ⟨_, ps_aug hN hi hx pe_we iop_fdiv hf, ?_⟩
  obtain ⟨v, hv, rv⟩ := en.2 n _ hΓ
  cases rv
  refine ⟨_, hv, ?_⟩
  refine he Hi H σ ok en _ fun x M1 v Hi1 H1 h1 s1 ok1 r1 => ?_
  obtain ⟨j, rfl, hj, h2⟩ := h1
  cases r1
  exact ⟨i, j, rfl, rfl, hj, q.nx _ _ _ Hi1 H1 h2 s1 ok1 ((en.mono s1).set (.int _))⟩
theorem as_augMu {ps : Pos} (n : Nat) (hN : X.N.Nodup) (hΓ : Γ[n]? = some (some (.int i))) (he : aE X e Γ M fun d M' => ∃ j, d = .int j ∧ CMul i j ∧ k.nx (Γ.set n (some (.int (i * j)))) M') (hi : X.N[n]? = some x := by rfl) (hx : Loc X.env.scope x := by first | exact Or.inl rfl | exact Or.inr rfl)
    (hf : X.fn x = true ∨ X.env.scope.names.lookup x = some .local := by first | exact .inl rfl | exact .inr rfl | assumption) : aS X (.AugAssign (.Name x ps) .Mult e pos) Γ M k := fun Hi H σ ok en D q => by
  refine ⟨_, ps_aug hN hi hx pe_we iop_mul hf, ?_⟩
  obtain ⟨v, hv, rv⟩ := en.2 n _ hΓ
  cases rv
  refine ⟨_, hv, ?_⟩
  refine he Hi H σ ok en _ fun x M1 v Hi1 H1 h1 s1 ok1 r1 => ?_
  obtain ⟨j, rfl, hj, h2⟩ := h1
  cases r1
  exact ⟨i, j, rfl, rfl, hj, q.nx _ _ _ Hi1 H1 h2 s1 ok1 ((en.mono s1).set (.int _))⟩
end
section
variable {X : Cx} {Γ : Gam} {M : Mem} {a : Expr} {pos p1 : Pos}
theorem ai_enumC {elts : List Expr} {kk n : Nat} {tpos : Pos} {R : Mem → Prop} {p : Addr} {ns : List Int} (hm : X.mg "enumerate" = none) (ha : aE X a Γ M fun d M' => d = .ptr p ∧ M'[n]? = some (p, .lst (ns.map .int)) ∧ R M') (hg : Gl X "enumerate" := by rfl) (hs : starEach [a] X.env = [(false, eval a X.env)] := by rfl) :
    aI X (.Tuple elts kk tpos) (.Call (.Name "enumerate" p1) [a] [] pos) Γ M (ns.map Val.int).length (fun i => .tup [.int i, (ns.map Val.int).getD i .non]) (fun M => M[n]? = some (p, .lst (ns.map .int))) R := fun Hi H σ ok en R' q => by
  refine ⟨_, pi_enum hg hm (pa_cons pe_we pa_nil hs) hs, ?_⟩
  refine ha Hi H σ ok en _ fun d M1 v Hi1 H1 h1 s1 ok1 r1 => ?_
  obtain ⟨rfl, hc, hp⟩ := h1
  have hv : Vw M1 (.ptr p) (.lst (ns.map .int)) := .lst n hc
  obtain ⟨p2, ys, rfl, hq, ra⟩ := hv.repL ok1 r1
  have ey := ra.ints
  subst ey
  cases r1
  refine ⟨p, _, rfl, hq, q _ M1 Hi1 H1 hp s1 ok1 ?_⟩
  rw [ra.length]
  refine walk_enum.mono (fun H' hG => ?_) fun i H' v H'' hi hG hy Hi' M' s2 ok2 _ => ?_
  · obtain ⟨Hi', M', s2, ok2, hg2⟩ := hG
    have hv2 : Vw M' (.ptr p) (.lst (ns.map .int)) := .lst n hg2
    obtain ⟨p3, ys2, e3, hq2, ra2⟩ := hv2.repL ok2 (.ptr p)
    cases e3
    have e2 := ra2.ints
    subst e2
    exact hq2
  · obtain ⟨T, x, y, rfl, hT, rfl, hx, hy⟩ := hy
    cases hx
    have s3 := same_upd (o := .tup [.int (i : Nat), y]) (ok2.none hT)
    exact ⟨_, s3, ok2.imm hT, .tup (SqT.of upd_same) (.cons (.int _) (.cons ((Sq.at ra hy).mono (s2.trans s3)) .nil))⟩
end
end Ab
/-! defs that say super(): judgements at the def's own code -/
namespace Ab
open PySem PySem.Spec PyProof.Rows L2 NdefX
def zE (X : Cx) (body : List Stmt) (e : Expr) (Γ : Gam) (M : Mem) (P : Val → Mem → Prop) : Prop := ∀ Hi H σ pins s, Ok X.K Hi M H → EnvR X.K Hi Γ σ → Inv X pins σ H s → ∀ Q : VK, Post X.K Hi P Q → PySem.wpAt (model X.prog X.w) X.A (.func body X.env) (eval e X.env) (EP X pins σ Q) X.xe s
structure ZR (X : Cx) (pins : List (Addr × Obj)) (Hi : Hp) (k : AK) (Φ : Flow → Shared → Prop) : Prop where
  nx : ∀ Γ M σ Hi' H' s', k.nx Γ M → Same Hi Hi' → Ok X.K Hi' M H' → EnvR X.K Hi' Γ σ → Inv X pins σ H' s' → Φ .next s'
  rt : ∀ d M v u σ Hi' H' s', k.rt d M → Same Hi Hi' → Ok X.K Hi' M H' → Rep X.K Hi' d v → Inv X pins σ H' s' → RelV v u → Φ (.ret u) s'
  bk : ∀ Γ M σ Hi' H' s', k.bk Γ M → Same Hi Hi' → Ok X.K Hi' M H' → EnvR X.K Hi' Γ σ → Inv X pins σ H' s' → Φ .brk s'
  ct : ∀ Γ M σ Hi' H' s', k.ct Γ M → Same Hi Hi' → Ok X.K Hi' M H' → EnvR X.K Hi' Γ σ → Inv X pins σ H' s' → Φ .cont s'
def zS (X : Cx) (body : List Stmt) (st : Stmt) (Γ : Gam) (M : Mem) (k : AK) : Prop := ∀ Hi H σ pins s, Ok X.K Hi M H → EnvR X.K Hi Γ σ → Inv X pins σ H s → ∀ Φ, ZR X pins Hi k Φ → PySem.wpAt (model X.prog X.w) X.A (.func body X.env) (exec st X.env) Φ X.xe s
def zSs (X : Cx) (body : List Stmt) (sts : List Stmt) (Γ : Gam) (M : Mem) (k : AK) : Prop := ∀ Hi H σ pins s, Ok X.K Hi M H → EnvR X.K Hi Γ σ → Inv X pins σ H s → ∀ Φ, ZR X pins Hi k Φ → PySem.wpAt (model X.prog X.w) X.A (.func body X.env) (execs sts X.env) Φ X.xe s
theorem ZR.up {X : Cx} {pins : List (Addr × Obj)} {Hi Hi1 : Hp} {k : AK} {Φ : Flow → Shared → Prop} (h : ZR X pins Hi k Φ) (e : Same Hi Hi1) : ZR X pins Hi1 k Φ :=
  ⟨fun Γ M σ Hi' H' s' p q => h.nx Γ M σ Hi' H' s' p (e.trans q), fun d M v u σ Hi' H' s' p q => h.rt d M v u σ Hi' H' s' p (e.trans q), fun Γ M σ Hi' H' s' p q => h.bk Γ M σ Hi' H' s' p (e.trans q), fun Γ M σ Hi' H' s' p q => h.ct Γ M σ Hi' H' s' p (e.trans q)⟩
section
variable {X : Cx} {body : List Stmt} {Γ : Gam} {M : Mem} {P : Val → Mem → Prop} {e a b c : Expr} {es : List Expr} {pos p0 p1 apos : Pos} {k : AK} {d : Val} {st : Stmt} {sts s1 s2 : List Stmt} {x m : Str}
/-- the ends that fit -/
def zD (X : Cx) (pins : List (Addr × Obj)) (Φ : Flow → Shared → Prop) : Ends where
  nx := fun σ' H' => ∀ s', Inv X pins σ' H' s' → Φ .next s'
  rt := fun v H' => ∀ σ' u s', Inv X pins σ' H' s' → RelV v u → Φ (.ret u) s'
  bk := fun σ' H' => ∀ s', Inv X pins σ' H' s' → Φ .brk s'
  ct := fun σ' H' => ∀ s', Inv X pins σ' H' s' → Φ .cont s'
theorem zr_real {pins : List (Addr × Obj)} {Hi : Hp} {Φ : Flow → Shared → Prop} (h : ZR X pins Hi k Φ) : Real X.K Hi k (zD X pins Φ) :=
  ⟨fun Γ M σ Hi' H' p q o en s' I => h.nx Γ M σ Hi' H' s' p q o en I, fun d M v Hi' H' p q o r σ' u s' I rv => h.rt d M v u σ' Hi' H' s' p q o r I rv, fun Γ M σ Hi' H' p q o en s' I => h.bk Γ M σ Hi' H' s' p q o en I, fun Γ M σ Hi' H' p q o en s' I => h.ct Γ M σ Hi' H' s' p q o en I⟩
theorem sp_phi {pins : List (Addr × Obj)} {Φ : Flow → Shared → Prop} {f : Flow} {s' : Shared} (h : SP X pins (zD X pins Φ) f s') : Φ f s' := by
  cases f with
  | next => obtain ⟨σ, H, I, q⟩ := h; exact q s' I
  | brk => obtain ⟨σ, H, I, q⟩ := h; exact q s' I
  | cont => obtain ⟨σ, H, I, q⟩ := h; exact q s' I
  | ret u => obtain ⟨v, σ, H, I, r, q⟩ := h; exact q σ u s' I r
theorem zs_of (h : aSs X sts Γ M k) : zSs X body sts Γ M k := fun Hi H σ pins s ok en I Φ q => wpAt_of_wpAny (wpAny_mono (pss_wb.run pins s σ H _ I (h Hi H σ ok en _ (zr_real q))) (fun _ _ z => sp_phi z) fun _ _ z => z)
theorem zs_cons (h : zS X body st Γ M { k with nx := fun Γ' M' => zSs X body sts Γ' M' k }) : zSs X body (st :: sts) Γ M k := fun Hi H σ pins s ok en I Φ q => by
  refine ks_wpAt_execs_cons (h Hi H σ pins s ok en I _ ⟨fun Γ' M' σ' Hi' H' s' p e o en' I' => ?_, fun d M v u σ' Hi' H' s' p e o r I' rv => ?_, fun Γ' M' σ' Hi' H' s' p e o en' I' => ?_, fun Γ' M' σ' Hi' H' s' p e o en' I' => ?_⟩)
  · exact p Hi' H' σ' pins s' o en' I' Φ (q.up e)
  · exact q.rt d M v u σ' Hi' H' s' p e o r I' rv
  · exact q.bk Γ' M' σ' Hi' H' s' p e o en' I'
  · exact q.ct Γ' M' σ' Hi' H' s' p e o en' I'
theorem zs_nil (h : k.nx Γ M) : zSs X body [] Γ M k := zs_of (as_nil h)
/-! ### super().m(e, ..) -/
/-- what the written part says of super() in a method at f of the class at D, for an instance of the class at C -/
structure Sup (K : PySem.W.Frag) (prog : Program) (f cda cc D C f2 : Addr) (m : Str) : Prop where
  fn : ∃ oc od fd osl ar, K.lookup f = some ⟨oc, od, .func fd, osl⟩ ∧ (fd.params.posonlyargs ++ fd.params.args).head? = some ar ∧ ar.arg = ("self" : Str)
  cd : ∃ ccl cdd vs ccs file tf, K.lookup cda = some ⟨ccl, cdd, .fields vs, ccs⟩ ∧ vs[2]? = some (.str file tf) ∧ ((prog.main.file : Str) == file) = true
  cl : ∃ c0 cld csl, K.lookup cc = some ⟨c0, cld, .cell (some (.ref D)), csl⟩
  cD : ∃ cd, PySem.W.clsIn K D = some cd
  sub : PySem.W.mroIn K C (.ref D) = some true
  tp : (prog.main.scope.names.lookup ("super" : Str)).isSome = false
  op : PySem.W.nsIn K cStatics "thirdparty.any" = some none
  fd : PySem.W.ks_superIn K C D m = some (some (.ref f2))
  ty : PySem.W.typeIn K (.ref f2) = some (.type "function")
  fi : PySem.W.fnIn K f2 = true
theorem ze_sup {n q : Nat} {f cda cc D C f2 : Addr} {fs : List (Str × Val)} {sx : ASx} {pl : Sem Bool} (S : Sup X.K X.prog f cda cc D C f2 m) (F : FnX X.prog X.w X.K X.mg X.base n f2 [] (spX X.K sx)) (hr : Rm q X.A) (hq : n ≤ q) (hms : X.mg "super" = none) (c : Cls X.K C)
    (hd : Γ[0]? = some (some d)) (hob : Ob M C d fs) (h : aA X (e :: es) Γ M fun ds M1 => sx (d :: ds) [] M1 P)
    (hN : X.N[0]? = some ("self" : Str) := by rfl) (hk : X.env.scope.kind = .function := by rfl) (hks : X.env.kindOf "super" = some .globalImplicit := by rfl) (hkc : X.env.kindOf "__class__" = some .free := by rfl) (hka : X.env.kindOf "self" = some .local := by rfl)
    (hfu : X.env.func = some f := by rfl) (hco : X.env.code = .ref cda := by rfl) (hcl : X.env.cells.lookup ("__class__" : Str) = some cc := by rfl) (hm : (m == ("__class__" : Str)) = false := by decide)
    (he : starEach (e :: es) X.env = (false, eval e X.env) :: starEach es X.env := by rfl) (hpl : (backTo pos (starEach es X.env)).any (·.1) = false := by rfl)
    (ht : eval (.Call (.Attribute (.Call (.Name "super" p0) [] [] p1) m apos) (e :: es) [] pos) X.env = (do
      let ov ← attributeBase (.Call (.Name "super" p0) [] [] p1) m X.env (eval (.Call (.Name "super" p0) [] [] p1) X.env)
      standAt apos.atName
      let (f, first) ← holding [ov] (getMethod ov m pl)
      callWith pos f first (backTo pos (starEach (e :: es) X.env)) []) := by rfl) : zE X body (.Call (.Attribute (.Call (.Name "super" p0) [] [] p1) m apos) (e :: es) [] pos) Γ M P := fun Hi H σ pins s ok en I Q q' => by
  obtain ⟨oc, od, fd, osl, ar, l1, l2, l3⟩ := S.fn
  obtain ⟨ccl, cdd, vs, ccs, file, tf, k1, k2, k3⟩ := S.cd
  obtain ⟨c0, cld, csl, z1⟩ := S.cl
  obtain ⟨cdD, hcD⟩ := S.cD
  have KX : X.K.In s.heap := I.kIn
  obtain ⟨v, hv, rv⟩ := en.2 0 d hd
  obtain ⟨xa, dx, gs, rfl, hx, rf⟩ := hob.rep ok rv
  obtain ⟨mA, O, _, _, _, _⟩ := ins_get I.hok hx
  obtain ⟨od', IA, _⟩ := O.look
  obtain ⟨oD, hD1, hD2⟩ : ∃ oD, s.heap.get? D = some oD ∧ oD.data = .cls cdD := by
    unfold PySem.W.clsIn at hcD
    split at hcD
    · rename_i c d cd' sl ho
      cases hcD
      exact ⟨_, KX _ _ ho, rfl⟩
    · cases hcD
  obtain ⟨mm, hns, hlk⟩ := I.loc
  obtain ⟨u, ru, lk⟩ := hlk 0 "self" (.ref xa) hN hv (.inl hka)
  obtain rfl : u = Value.ref xa := ru
  have hself : mm "self" = some (Value.ref xa) := by
    rcases lk with ⟨_, h⟩ | ⟨h, _⟩
    · exact h
    · rcases h with h | h <;> rw [hka] at h <;> cases h
  refine ks_wpAt_MethodCall (pl := pl) ?_ ht
  refine ks_wpAt_super_base hks hkc hm hfu (KX _ _ l1) rfl l2 hco (KX _ _ k1) rfl k2 k3 S.tp ?_
  obtain ⟨mb, h1, h2⟩ := I.mod.blt
  refine PySem.W.ks_loadName_global hk hks (Calls.loadGlobal_builtin (by rw [I.ok.glob]; exact I.mod.glob.keeps I.bk) hms (by rw [I.ok.blt]; exact h1.keeps I.bk) ((h2 "super" (by decide)).trans (by decide +kernel)) ⟨rfl, ?_⟩)
  refine wpAny_loadName_free hk hkc hcl ⟨_, KX _ _ z1, rfl⟩ ?_
  rw [l3]
  refine wpAny_loadName_local hk hka hns hself ?_
  refine ks_wpAny_isType_cls hD1 hD2 ⟨rfl, ?_⟩
  obtain ⟨hh, g, dr, t, os⟩ := s
  refine ks_wpAny_call_super hD1 hD2 IA.at_ IA.cls (fun c e => ?_) (PySem.W.looks_mroIn KX S.sub) (fun h' e' kp => ?_)
  · have := IA.no
    unfold PySem.W.notCls at this
    rw [e] at this
    exact Bool.noConfusion this
  have I1 : Inv X pins σ H ⟨h', g, dr, t, os⟩ := I.kept (s := ⟨hh, g, dr, t, os⟩) (t' := t) kp
  have KX1 : X.K.In h' := I1.kIn
  obtain ⟨mA1, O1, _, _, _, _⟩ := ins_get I1.hok hx
  obtain ⟨od1, IA1, _⟩ := O1.look
  cases hc : PySem.W.clsIn X.K C with
  | none =>
    have := S.fd
    unfold PySem.W.ks_superIn at this
    rw [hc] at this
    cases this
  | some cd =>
    have hsup := S.fd
    unfold PySem.W.ks_superIn at hsup
    rw [hc] at hsup
    obtain ⟨of, hof, hofc⟩ : ∃ of, h'.get? f2 = some of ∧ of.cls = .type "function" := by
      have ht' : (X.K.lookup f2).map (·.cls) = some (.type "function") := S.ty
      cases z : X.K.lookup f2 with
      | none => rw [z] at ht'; cases ht'
      | some of => rw [z] at ht'; exact ⟨of, KX1 _ _ z, Option.some.inj ht'⟩
    refine ks_wpAny_getMethod_super e' (PySem.W.looks_opaque KX1 S.op) (l₀ := cd.mro) (fun A Q E s k q => wpAny_bind ((PySem.W.looks_clsIn KX1 hc) A _ E s k (wpAny_pure q))) rfl KX1 hsup hof hofc (PySem.W.ks_ne KX1 IA1 hc) hm ?_
    have I2 : Inv X ((h'.objs.size, PySem.W.methodObj (.ref f2) (.ref xa)) :: pins) σ H ⟨h'.push (PySem.W.methodObj (.ref f2) (.ref xa)), g, dr, t + 1, os⟩ := ClX.pin_new (s := ⟨h', g, dr, t, os⟩) (t' := t + 1) I1 (fun _ _ z => Heap.get?_push_of_some _ z) (Nat.le_refl _) (Heap.get?_push_size h' rfl) (fun v z => nomatch z)
    have hb : X.base.get? h'.objs.size = none := ClX.base_none (s := ⟨h', g, dr, t, os⟩) I1 (Nat.le_refl _)
    refine PySem.W.callWith_M (K := X.K) (h₀ := X.base) (first := []) (q := h'.objs.size) (g := f2) (self := .ref xa) I2.ok.mod.kin (news_at (I2.pin (h'.objs.size, PySem.W.methodObj (.ref f2) (.ref xa)) (List.mem_append_right _ List.mem_cons_self)).2.2.1 hb (ClX.pin_at I2)) List.mem_cons_self S.fi ?_ he hpl
    refine wpAny_mono (pa_wa.run pos _ _ σ H (fun ws H2 => spX X.K sx (.ref xa :: ws) [] H2 Q) I2 (h Hi H σ ok en _ fun ds M1 ws Hi1 H1 p1 e1 o1 r1 => ⟨Hi1, M1, d :: ds, [], P, .cons (rv.mono e1) r1, .nil, o1, p1, q'.up e1⟩)) (fun us s3 z => ?_) fun _ _ z => z
    obtain ⟨ws, H3, I3, rw3, q3⟩ := z
    refine ⟨⟨ClX.pin_at I3, I3.kIn⟩, ?_⟩
    have zz : wpAny (model X.prog X.w) X.A (call (.ref h'.objs.size) us) (EP X ((h'.objs.size, PySem.W.methodObj (.ref f2) (.ref xa)) :: pins) σ Q) X.xe s3 := by
      refine wpAny_call (PySem.W.method_call (ClX.pin_at I3) (codeAny_mono (F.run X.A X.stack s3 H3 (.ref xa :: us) [] (.ref xa :: ws) [] Q (hr.mono hq) I3.env0 (.cons rfl rw3) .nil rfl q3) fun r s' hq => ?_))
      cases r with
      | error e => exact False.elim hq
      | ok fl =>
        cases fl with
        | ret u => exact I3.after hq
        | next => exact False.elim hq
        | brk => exact False.elim hq
        | cont => exact False.elim hq
    exact thn zz fun _ _ y => ClX.unpinE y
end
section
variable {P : Program} {w : World} {K : PySem.W.Frag} {mg : Str → Option Value} {base : Heap} {N ps : List Str} {F : NF} {f cc D : Addr} {k : Nat} {s0 : ASp}
abbrev zcx (P : Program) (w : World) (K : PySem.W.Frag) (mg : Str → Option Value) (base : Heap) (N : List Str) (F : NF) (f : Addr) (A : Around) (outer : List Env) (s : Shared) (H : Hp) : Cx := (ncx CX0 P w K mg base N F f A outer s H E0).nox
/-- what the body of a def that says super() must do -/
abbrev ZBody (P : Program) (w : World) (K : PySem.W.Frag) (mg : Str → Option Value) (base : Heap) (k : Nat) (f : Addr) (N : List Str) (F : NF) (s0 : ASp) : Prop :=
  ∀ A outer s H, Rm k (A.deeper (envF F f s.heap.objs.size)) → ∀ ds M R, s0 ds M R → zSs (zcx P w K mg base N F f A outer s H) F.body F.body (gam N ds) M (kOf R)
theorem fnx_sup {oc c0 : Value} {od cld : Option Addr} {osl csl : Array (Option Value)} {doc pm ctv : Value} (hcl : F.cl = [(("__class__" : Str), cc)]) (lk : K.lookup f = some ⟨oc, od, .func (F.fd doc pm ctv), osl⟩) (hcd : PySem.W.codeIn K (.ref F.c) F.qual = true)
    (hcell : K.lookup cc = some ⟨c0, cld, .cell (some (.ref D)), csl⟩) (S : NScope N ps ["__class__"] F.scope) (hb : ∀ (us : List Value), us.length = ps.length → bindArgs (F.fd doc pm ctv) ⟨us, []⟩ = pure (ps.zip us)) (len : ∀ ds M R, s0 ds M R → ds.length = ps.length)
    (hbody : ZBody P w K mg base k f N F s0) : FnX P w K mg base (k + 1) f [] (spX K fun ds _ => s0 ds) := by
  refine ⟨fun A outer s H us ws vs zs Q hr e0 r rz hz ⟨Hi, M, ds, es, R, ra, re, ok, hs, q⟩ => ?_⟩
  have hl : vs.length = ps.length := ra.length.symm.trans (len _ _ _ hs)
  have KX : K.In s.heap := e0.mod.kin.keeps fun b o e => (e0.bs b o e).1
  have lim : s.heap.NoLimit := e0.mod.nolimit.keeps fun b o e => (e0.bs b o e).1
  have hcb := e0.bs cc _ (e0.mod.kin _ _ hcell)
  have C : CellsAt F.cl ["__class__"] [some (.ref D)] s.heap H := by
    rw [hcl]
    refine ⟨rfl, fun y c h => ?_, fun x y c h1 h2 => ?_, fun i y h => ?_⟩
    · have : c = cc := by
        rw [List.lookup_cons] at h
        split at h
        · exact (Option.some.inj h).symm
        · cases h
      subst this
      exact ⟨hcb.2, _, _, hcb.1, rfl⟩
    · have one : ∀ z : Str, List.lookup z [(("__class__" : Str), cc)] = some c → z = ("__class__" : Str) := fun z h => by
        rw [List.lookup_cons] at h
        split at h
        · rename_i e
          exact eq_of_beq e
        · cases h
      rw [one x h1, one y h2]
    · cases i with
      | zero =>
        cases h
        exact ⟨cc, by rw [List.lookup_cons, beq_self_eq_true], fun v hv => by cases hv; exact ⟨_, rfl, _, hcb.1, rfl⟩⟩
      | succ i => cases h
  have e : ws = [] := List.length_eq_zero_iff.mp (rz.length.symm.trans hz)
  subst e
  refine codeAny_call_function hr.room.depth (KX _ _ lk) rfl S.co S.gen rfl (PySem.W.codeRec_of KX hcd) ?_
  show wpAny _ _ (bindArgs (F.fd doc pm ctv) ⟨us, []⟩) _ _ _
  rw [hb us (by rw [← r.length]; exact hl)]
  refine wpAny_pure (wpAny_newFunctionEnv S.nocell (fun ⟨n, _⟩ hy => S.par n (List.of_mem_zip hy).1) (fun h₁ hns hsb => ⟨lim.fresh _ hsb, ?_⟩) S.kind)
  show codeAny _ _ (.func F.body (envF F f s.heap.objs.size)) _ _
  refine ks_codeAny_funcAt ?_
  have kp : ∀ b o, s.heap.get? b = some o → h₁.get? b = some o := fun b o e => hsb.extBut b o (Nat.ne_of_lt (Heap.lt_size e)) (Heap.get?_push_of_some _ e)
  have I : Inv (ncx CX0 P w K mg base N F f A outer s H E0) [] (startF N vs [some (.ref D)]) H { s with heap := h₁, toks := s.toks + (ps.zip us).length } := inv_startN S hr.room.hd e0 hl r C hns kp
  have hpl : ps.length + 1 ≤ N.length := by
    have q := congrArg List.length S.pre
    rw [List.length_take, List.length_append] at q
    have : (["__class__"] : List Str).length = 1 := rfl
    omega
  have en : EnvR K Hi (gam N ds) (startF N vs [some (.ref D)]) := by
    have h0 := env_start (N := N) ra
    refine ⟨?_, fun i d hd => ?_⟩
    · unfold gam startF
      rw [List.length_append, List.length_append, List.length_append, List.length_map, List.length_map, List.length_replicate, List.length_replicate, ra.length]
      have : ([some (V.ref D)] : List (Option V)).length = 1 := rfl
      omega
    · obtain ⟨v, h1, h2⟩ := h0.2 i d hd
      refine ⟨v, ?_, h2⟩
      unfold L2.start at h1
      unfold startF
      by_cases hi : i < (vs.map some).length
      · rw [List.getElem?_append_left hi] at h1 ⊢
        exact h1
      · rw [List.getElem?_append_right (by omega), List.getElem?_replicate] at h1
        split at h1 <;> cases h1
  refine PySem.wpAt_mono (hbody A outer s H (hr.deeper _) ds M R hs Hi H _ [] _ ok en (I.wish _) (fun fl s' => CE outer P w H s Q (match fl with | .ret u => u | _ => .none) s') ⟨fun Γ M' σ' Hi' H' s' p e o en' J => ?_, fun d M' v u σ' Hi' H' s' p e o r' J rv => ?_, fun Γ M' σ' Hi' H' s' p => p.elim, fun Γ M' σ' Hi' H' s' p => p.elim⟩) (fun fl s' z => z) fun _ _ z => z.elim
  · exact ⟨.non, H', J.os, J.bare, J.base, J.hok, rfl, p.post q e o .non⟩
  · exact ⟨v, H', J.os, J.bare, J.base, J.hok, rv, p.post q e o r'⟩
end
end Ab
/-! methods of instances that stand in boxes -/
namespace Ab
open PySem PySem.Spec PyProof.Rows L2
/-- d is an instance of the class at C without an attribute m of its own -/
def ObM (M : Mem) (C : Addr) (d : Val) (m : Str) : Prop := ∀ K Hi H v, Ok K Hi M H → Rep K Hi d v → ∃ p dx gs, v = .ref p ∧ H p = some (.ins C dx gs) ∧ gs.lookup m = none
theorem Ob.obM {M : Mem} {C : Addr} {d : Val} {fs : List (Str × Val)} {m : Str} (h : Ob M C d fs) (hl : fs.lookup m = none) : ObM M C d m := fun K Hi H v ok r => by
  obtain ⟨p, dx, gs, h1, h2, h3⟩ := h.rep ok r
  exact ⟨p, dx, gs, h1, h2, h3.none hl⟩
section
variable {X : Cx} {Γ : Gam} {M : Mem} {P : Val → Mem → Prop} {e a b c o : Expr} {es : List Expr} {kws : List Keyword} {pos p1 p2 apos kpos : Pos} {k : AK} {d d1 d2 d3 : Val} {i j : Int} {x y m : Str} {n : Nat} {f C : Addr} {ks : List Str} {sx : ASx}
theorem ae_methG {pl : Sem Bool} (c : Cls X.K C) (hm : Meth X.K C m f) (F : FnX X.prog X.w X.K X.mg X.base n f ks (spX X.K sx)) (hr : Rm n X.A)
    (h : aE X o Γ M fun d M0 => ObM M0 C d m ∧ aA X (e :: es) Γ M0 fun ds M1 => aKw X kws Γ M1 fun zs M2 => zs.length = ks.length ∧ sx (d :: ds) zs M2 P)
    (hall : (backToKw pos (keywordEach kws X.env)).all (·.1.isSome) = true := by rfl) (hks : (backToKw pos (keywordEach kws X.env)).filterMap (·.1) = ks := by rfl)
    (he : starEach (e :: es) X.env = (false, eval e X.env) :: starEach es X.env := by rfl) (hpl : ((backTo pos (starEach (e :: es) X.env)).any (·.1) || (backToKw pos (keywordEach kws X.env)).any (·.1.isNone)) = false := by rfl)
    (ht : eval (.Call (.Attribute o m apos) (e :: es) kws pos) X.env = (do
      let ov ← eval o X.env
      standAt apos.atName
      let (f, first) ← holding [ov] (getMethod ov m pl)
      callWith pos f first (backTo pos (starEach (e :: es) X.env)) (backToKw pos (keywordEach kws X.env))) := by rfl) : aE X (.Call (.Attribute o m apos) (e :: es) kws pos) Γ M P := fun Hi H σ ok en Q q => by
  refine ⟨fun σ H Q => WE X o σ H fun x H0 => ∃ a dx fs, x = .ref a ∧ H0 a = some (.ins C dx fs) ∧ fs.lookup m = none ∧ WA X (e :: es) σ H0 fun vs H1 => WK X kws σ H1 fun zs H2 => zs.length = ks.length ∧ spX X.K sx (x :: vs) zs H2 Q, ⟨fun pins s σ H Q I h => ?_⟩, ?_⟩
  · refine PySem.W.methodCall_KW (pl := pl) (thn (pe_we.run pins s σ H _ I h) fun u s1 ⟨x, H1, I1, rx, a, dx, fs, ex, ea, l, q⟩ => ?_) ht
    subst ex
    obtain rfl : u = Value.ref a := rx
    refine getmeth_ok I1 ea c hm l ?_
    refine PySem.W.callWith_KW (first := [.ref a]) (h₀ := X.base) I.ok.mod.kin hm.kp hall (thn (pa_wa.run pos pins s1 σ H1 _ I1 q) fun us s2 ⟨vs, H2, I2, r, q2⟩ => ?_) hpl he
    refine thn (pk_wk.run pos pins s2 σ H2 _ I2 q2) fun ws s3 ⟨zs, H3, I3, rz, l2, q3⟩ => ⟨I3.kIn, ?_⟩
    rw [hks]
    exact run_x (us := .ref a :: us) (vs := .ref a :: vs) F hr I3 (.cons rfl r) rz l2 q3
  · refine h Hi H σ ok en _ fun x M0 v0 Hi0 H0 h0 s0 ok0 r0 => ?_
    obtain ⟨hob, h0⟩ := h0
    obtain ⟨p, dx, gs, rfl, hp, hn⟩ := hob _ _ _ _ ok0 r0
    refine ⟨p, dx, gs, rfl, hp, hn, ?_⟩
    refine h0 Hi0 H0 σ ok0 (en.mono s0) _ fun ds M1 vs Hi1 H1 h1 s1 ok1 r1 => ?_
    refine h1 Hi1 H1 σ ok1 (en.mono (s0.trans s1)) _ fun zs M2 ws Hi2 H2 h2 s2 ok2 r2 => ?_
    exact ⟨r2.length.symm.trans h2.1, Hi2, M2, _ :: ds, zs, P, .cons (r0.mono (s1.trans s2)) (r1.mono s2), r2, ok2, h2.2, q.up ((s0.trans s1).trans s2)⟩
/-- max(a, b), min(a, b), their parts changing cells -/
theorem ae_maxM (hm : X.mg "max" = none) (hc : X.calm = true) (h : aE X a Γ M fun x M1 => aE X b Γ M1 fun y M2 => ∃ i j, x = .int i ∧ y = .int j ∧ P (.int (max i j)) M2) (hg : Gl X "max" := by rfl)
    (hs : starEach [a, b] X.env = (false, eval a X.env) :: starEach [b] X.env := by rfl) (hs2 : starEach [b] X.env = (false, eval b X.env) :: starEach [] X.env := by rfl) (hpl : (backTo pos (starEach [b] X.env)).any (·.1) = false := by rfl) : aE X (.Call (.Name "max" p1) [a, b] [] pos) Γ M P := by
  refine ae_callB (call_max2 hc) hm boot_max (aa_cons (h.mono fun x M1 h1 => aa_cons (h1.mono fun y M2 h2 => aa_nil ?_) hs2) hs) hg (he := hs) (hpl := hpl)
  obtain ⟨i, j, rfl, rfl, hp⟩ := h2
  intro Hi H vs ok r Q q
  cases r with
  | cons r1 r =>
    cases r with
    | cons r2 r =>
      cases r
      cases r1
      cases r2
      refine ⟨i, j, rfl, q _ _ _ Hi H hp (Same.refl _) ok ?_⟩
      have : (if j > i then j else i) = max i j := by split <;> omega
      rw [this]
      exact .int _
end
end Ab
/-! two keywords in the other order -/
namespace Ab
open PySem PySem.Spec PyProof.Rows L2
end Ab
/-! list.extend -/
namespace Ab
open PySem PySem.Spec PyProof.Rows L2
end Ab
/-! Ab35: statements that end in more than one way are joined; boxes are weakened. -/
namespace Ab
open PySem PySem.Spec PyProof.Rows L2
section
variable {X : Cx} {Γ Γ1 : Gam} {M : Mem} {k : AK} {st : Stmt} {sts : List Stmt} {p : Addr} {φ φ' : Mem0 → Prop}
theorem aS.mono {k' : AK} (h : aS X st Γ M k) (f1 : ∀ Γ M, k.nx Γ M → k'.nx Γ M) (f2 : ∀ d M, k.rt d M → k'.rt d M) (f3 : ∀ Γ M, k.bk Γ M → k'.bk Γ M) (f4 : ∀ Γ M, k.ct Γ M → k'.ct Γ M) : aS X st Γ M k' := fun Hi H σ ok en D q =>
  h Hi H σ ok en D ⟨fun Γ M σ Hi' H' p => q.nx Γ M σ Hi' H' (f1 Γ M p), fun d M v Hi' H' p => q.rt d M v Hi' H' (f2 d M p), fun Γ M σ Hi' H' p => q.bk Γ M σ Hi' H' (f3 Γ M p), fun Γ M σ Hi' H' p => q.ct Γ M σ Hi' H' (f4 Γ M p)⟩
end
end Ab
/-! Ab36: own exception classes over any built-in base: made by an own __init__ that calls the base's and stores fields. -/
namespace Ab
open PySem PySem.Spec PyProof.Rows L2
structure XCl (K : PySem.W.Frag) (C : Addr) (B newId initId : String) (tl : List Value) : Prop where
  fb : ExcBaseFacts B newId initId tl
  sf : StoreFacts B tl "object.__setattr__" "object"
  ini : PySem.W.excInitIn K C tl newId = true
  ovr : PySem.W.excOver K C tl = true
  hd : PySem.W.hasDictIn K C = true
  sa : PySem.W.findIn K (.ref C) "__setattr__" = some (some (.builtin "object.__setattr__"))
  exC : PySem.W.subIn K (.ref C) (.type "BaseException") = some true
  tyC : PySem.W.typeIn K (.ref C) = some (.type "type")
  kC : PySem.W.keepIn K (.ref C) = true
section
open Builtin.ObjectAttr
variable {prog : Program} {w : World} {A : Around} {E : Value → Shared → Prop} {R : Result → Shared → Prop} {hp : Heap} {g : Array GenState} {d : Drawn} {t : Nat} {os : OsState}
variable {K : PySem.W.Frag} {C : Addr} {B newId initId : String} {tl : List Value}
theorem XCl.cd (T : XCl K C B newId initId tl) : ∃ cd, PySem.W.clsIn K C = some cd ∧ cd.hasDict = true := by
  have h0 := T.hd
  unfold PySem.W.hasDictIn at h0
  cases e : PySem.W.clsIn K C with
  | none => simp [e] at h0
  | some c0 => exact ⟨c0, rfl, by simpa [e] using h0⟩
/-- the first field -/
theorem xo_new {nm : Str} {tk : Tok} {v : Value} {x : Addr} {fv : Array Value} (T : XCl K C B newId initId tl) (KX : K.In hp) (hx : hp.get? x = some { cls := .ref C, data := .fields fv }) (ha : PySem.W.findIn K (.ref C) nm = some none)
    (hq : ∀ h' tk' dx, (∀ b o, b ≠ x → hp.get? b = some o → h'.get? b = some o) → hp.objs.size ≤ dx → dx ≠ x → h'.get? x = some { cls := .ref C, dict := some dx, data := .fields fv } → h'.Ns1 dx (fun y => if y = nm then some v else none) → R (.ok (.ret .none)) ⟨h', g, d, tk', os⟩) :
    codeAny (model prog w) A (.call (.builtin "object.__setattr__") ⟨[.ref x, .str nm tk, v], []⟩) R ⟨hp, g, d, t, os⟩ := by
  obtain ⟨cd, hcd, hdd⟩ := T.cd
  have hxs : x ≠ hp.objs.size := Nat.ne_of_lt (Heap.lt_size hx)
  have Lc : PySem.W.Looks (model prog w) hp (classData C) cd := PySem.W.looks_clsIn KX hcd
  refine PySem.W.osa_openX (od := none) T.sf KX (⟨hx, rfl, rfl, trivial⟩ : PySem.W.InstAt hp x { cls := .ref C, data := .fields fv } C none) T.ovr (r := none) (by unfold PySem.W.takerIn; rw [ha]; rfl) fun b0 => ?_
  show wpAny _ _ (storeInOwnDict (.ref x) (.ref C) (.str nm tk) nm v b0) _ _ _
  obtain ⟨n0, b1, b2, b3, b4, b5, b6, b7, b8, b9, b10⟩ := cd
  dsimp only at hdd
  subst hdd
  unfold storeInOwnDict ownDictForStores
  repeat (first | with_reducible refine PySem.HandSPX.store_in_new ?_ ?_ | with_reducible refine wpAny_loadPart_at hx ?_ | with_reducible refine Lc.at ?_ | wp_step)
  · exact ⟨_, #[], _, (Heap.get?_update_ne _ _ _ _ hxs.symm).trans (Heap.get?_push_at rfl rfl), rfl, fun z1 z2 => absurd z2 (by simp), fun _ => rfl⟩
  · intro h' tk' hn' hs
    have hx1 : (hp.push { cls := .type "dict", data := .dict #[] }).get? x = some { cls := .ref C, data := .fields fv } := Heap.get?_push_of_some _ hx
    refine hq h' tk' hp.objs.size (fun b1 o1 z1 z2 => ?_) (Nat.le_refl _) hxs.symm ?_ hn'
    · exact (hs.2 b1 (Nat.ne_of_lt (Heap.lt_size z2))).trans ((Heap.get?_update_ne _ _ _ _ z1).trans (Heap.get?_push_of_some _ z2))
    · exact (hs.2 x hxs).trans (Heap.get?_update_self _ hx1 rfl)
/-- a further field -/
theorem xo_old {nm : Str} {tk : Tok} {v : Value} {x dx : Addr} {fv : Array Value} {m0 : Str → Option Value} {nl : List Str} (T : XCl K C B newId initId tl) (KX : K.In hp) (hx : hp.get? x = some { cls := .ref C, dict := some dx, data := .fields fv }) (hns : hp.Ns1 dx m0) (hw : Within m0 nl) (hz : nl.length ≤ 1000) (ha : PySem.W.findIn K (.ref C) nm = some none)
    (hq : ∀ h' tk', (∀ b o, b ≠ dx → hp.get? b = some o → h'.get? b = some o) → h'.Ns1 dx (fun y => if y = nm then some v else m0 y) → R (.ok (.ret .none)) ⟨h', g, d, tk', os⟩) :
    codeAny (model prog w) A (.call (.builtin "object.__setattr__") ⟨[.ref x, .str nm tk, v], []⟩) R ⟨hp, g, d, t, os⟩ := by
  obtain ⟨cd, hcd, hdd⟩ := T.cd
  obtain ⟨o2, _, _, ho2, _, _⟩ := hns.count hw
  have Lc : PySem.W.Looks (model prog w) hp (classData C) cd := PySem.W.looks_clsIn KX hcd
  refine PySem.W.osa_openX (od := some o2) T.sf KX (⟨hx, rfl, rfl, ho2⟩ : PySem.W.InstAt hp x { cls := .ref C, dict := some dx, data := .fields fv } C (some o2)) T.ovr (r := none) (by unfold PySem.W.takerIn; rw [ha]; rfl) fun b0 => ?_
  show wpAny _ _ (storeInOwnDict (.ref x) (.ref C) (.str nm tk) nm v b0) _ _ _
  obtain ⟨n0, b1, b2, b3, b4, b5, b6, b7, b8, b9, b10⟩ := cd
  dsimp only at hdd
  subst hdd
  unfold storeInOwnDict ownDictForStores
  repeat (first | with_reducible refine PySem.OEX.store_in_old hns hw hz ?_ | with_reducible refine wpAny_loadPart_at hx ?_ | with_reducible refine Lc.at ?_ | wp_step)
  intro h' tk' hn' hs
  exact hq h' tk' (fun b1 o1 z1 z2 => (hs.2 b1 z1).trans z2) hn'
end
section
variable {X : Cx} {pins : List (Addr × Obj)} {σ : L2.St} {H : Hp} {s : Shared} {a C dx : Addr} {f : Str} {y : V} {u : Value} {fs : List (Str × V)} {E : Value → Shared → Prop} {A : Around} {B newId initId : String} {tl : List Value}
/-- Base.__init__(self, ..): nothing of it is told -/
theorem x_init {us : List Value} {Q : Value → Shared → Prop} (T : XCl X.K C B newId initId tl) (I : Inv X pins σ H s) (e : H a = some (exo a C none)) (hl : us.length ≤ sizeLine) (h : ∀ s', Inv X pins σ H s' → Q .none s') :
    wpAny (model X.prog X.w) A (call (.builtin initId) (.ref a :: us)) Q E s := by
  obtain ⟨t1, w1⟩ := exo_at I.hok e
  obtain ⟨n1, n2, n3, n4, bm, n5, n6, n7, n8, n9, n10, n11, n12, n13, n14, n15, hC, hT⟩ := PySem.W.excInit_of I.kIn T.ini
  obtain ⟨hp, g, d, t, os⟩ := s
  refine wpAny_call (PySem.HandSPX.init_base T.fb hT hC w1 hl fun h' t2 k1 w2 => ?_)
  have J := Inv.write (t' := t) (x := a) (o := exo a C none) I (by rw [e]; exact True.intro) (.inl rfl) k1 ⟨_, w2⟩ (exo_ok w2)
  rw [show upd H a (exo a C none) = H from funext fun b => by
    by_cases hb : b = a
    · subst hb; rw [upd_same, e]
    · exact upd_ne hb] at J
  exact h _ J
/-- self.f = y, the first field -/
theorem x_new {Q : Unit → Shared → Prop} (T : XCl X.K C B newId initId tl) (I : Inv X pins σ H s) (e : H a = some (exo a C none)) (hno : PySem.W.findIn X.K (.ref C) f = some none) (ry : RelV y u)
    (h : ∀ dx s', H dx = none → dx ≠ a → Inv X pins σ (upd (upd H dx (exd dx [(f, y)])) a (exo a C (some dx))) s' → Q () s') : wpAny (model X.prog X.w) A (setAttr (.ref a) f u) Q E s := by
  obtain ⟨t1, w1⟩ := exo_at I.hok e
  obtain ⟨hp, g, d, t, os⟩ := s
  refine PySem.W.set_plain I.kIn (od := none) (ox := { cls := .ref C, dict := none, data := .fields #[.ref t1, .none, .none, .none, .bool false, .none] }) ⟨w1, rfl, rfl, trivial⟩ T.sa ?_
  refine xo_new T I.kIn w1 hno (fun h' tk' dx k1 dn dne w2 hn => ?_)
  have hnd : H dx = none := I.hok.fresh dn
  have nd : ∀ {b : Addr} {o : Obj}, hp.get? b = some o → b ≠ dx := fun {b o} z => Nat.ne_of_lt (Nat.lt_of_lt_of_le (Heap.lt_size z) dn)
  have na : ∀ {b : Addr}, H b = none → b ≠ a := fun {b} z1 z2 => by
    subst z2
    rw [e] at z1
    cases z1
  refine h dx _ hnd dne (I.un (t' := tk') ⟨fun b o z z2 _ _ => k1 b o (na z2) z, fun b o z z2 _ _ => ⟨o.slots, k1 b o (na z2) z⟩, fun b o z z2 _ => by rw [upd_ne (na z2), upd_ne (nd z)]; exact z2, fun b o z _ => ?_, fun b xs z => ?_, fun b o v z => ?_, fun b ps z => ?_⟩ fun b o z => ?_)
  · by_cases hb : b = a
    · subst hb
      exact ⟨_, w2⟩
    · exact ⟨o, k1 b o hb z⟩
  · rw [upd_ne (at_ne e z exo_tup), upd_ne (ne_of_none z hnd)]
    exact z
  · rw [upd_ne (at_ne e z exo_frz), upd_ne (ne_of_none z hnd)]
    exact z
  · refine ⟨#[], ?_⟩
    rw [upd_ne (at_ne e z exo_tbl), upd_ne (ne_of_none z hnd), z]
    simp
  · by_cases hb : b = a
    · subst hb
      rw [upd_same] at z
      cases z
      exact exo_ok w2
    · rw [upd_ne hb] at z
      by_cases hd : b = dx
      · subst hd
        rw [upd_same] at z
        cases z
        exact exd_ok hn (relO_put (fs := []) ry fun _ => True.intro)
      · rw [upd_ne hd] at z
        refine (I.hok b o z).stay (fun c v hc z2 => k1 c v ?_ z2) (fun c hc => ?_) (fun c xs hc => ?_)
        · rcases hc with z3 | z3
          · rw [z3]; exact hb
          · exact at_ne e z3 exo_own
        · rw [upd_ne (at_ne e hc exo_own), upd_ne (ne_of_none hc hnd)]
          exact hc
        · rw [upd_ne (at_ne e hc exo_tup), upd_ne (ne_of_none hc hnd)]
          exact hc
/-- self.f = y, a further field -/
theorem x_old {Q : Unit → Shared → Prop} (T : XCl X.K C B newId initId tl) (I : Inv X pins σ H s) (e : H a = some (exo a C (some dx))) (ed : H dx = some (exd dx fs)) (hl : fs.length ≤ 900) (hno : PySem.W.findIn X.K (.ref C) f = some none) (ry : RelV y u)
    (h : ∀ s', Inv X pins σ (upd H dx (exd dx ((f, y) :: fs))) s' → Q () s') : wpAny (model X.prog X.w) A (setAttr (.ref a) f u) Q E s := by
  obtain ⟨t1, w1⟩ := exo_at I.hok e
  obtain ⟨mA, hns, rel⟩ := exd_at I.hok ed
  obtain ⟨o2, _, _, ho2, _, _⟩ := hns.count (within_of rel)
  obtain ⟨hp, g, d, t, os⟩ := s
  refine PySem.W.set_plain I.kIn (od := some o2) (ox := { cls := .ref C, dict := some dx, data := .fields #[.ref t1, .none, .none, .none, .bool false, .none] }) ⟨w1, rfl, rfl, ho2⟩ T.sa ?_
  refine xo_old T I.kIn w1 hns (within_of rel) (by rw [List.length_map]; omega) hno (fun h' tk' k1 hn => ?_)
  refine h _ (Inv.write (t' := tk') (x := dx) (e := dx) (o := exd dx ((f, y) :: fs)) I (by rw [ed]; exact True.intro) (.inl rfl) k1 ?_ (exd_ok hn (relO_put ry rel)))
  obtain ⟨o3, _, _, w3, _⟩ := hn
  exact ⟨o3, w3⟩
end
end Ab
/-! Ab37: the __init__ of an own exception class; C(..) makes an exception. -/
namespace Ab
open PySem PySem.Spec PyProof.Rows L2
section
variable {X : Cx} {B newId initId : String} {tl : List Value} {o e : Expr} {es : List Expr} {to te : TE} {ta : TA} {f : Str} {p p' p1 p2 pos : Pos}
/-- Base.__init__(self, ..), Base an own class -/
theorem px_init {C0 : Addr} {xb : Str} {pl : Sem Bool} (hh : PySem.W.handedIn (.builtin initId) = true) (r : ClX.CRead X.K C0 (.type "type")) (fv : PySem.W.findCls X.K (.ref C0) (.type "type") "__init__" = some (.val (.builtin initId))) (hg : Gl X xb) (hm : X.mg xb = some (.ref C0)) (ha : PA X (e :: es) ta)
    (hc : eval (.Call (.Attribute (.Name xb p1) "__init__" p2) (e :: es) [] pos) X.env = (do
      let v0 ← eval (.Name xb p1) X.env
      standAt p2.atName
      let (f0, first) ← holding [v0] (getMethod v0 "__init__" pl)
      callWith pos f0 first (backTo pos (starEach (e :: es) X.env)) (backToKw pos (keywordEach [] X.env))) := by rfl)
    (he : starEach (e :: es) X.env = (false, eval e X.env) :: starEach es X.env := by rfl) (hpl : (backTo pos (starEach es X.env)).any (·.1) = false := by rfl) (hdb : (xb == ("__debug__" : Str)) = false := by decide) :
    PE X (.Call (.Attribute (.Name xb p1) "__init__" p2) (e :: es) [] pos) (fun σ H Q => ta σ H fun vs H1 => ∃ (a C : Addr) (ws : List V), vs = .ref a :: ws ∧ ws.length ≤ 1000 ∧ XCl X.K C B newId initId tl ∧ H1 a = some (exo a C none) ∧ Q .non H1) := by
  refine ⟨fun pins s σ H Q I h => PySem.W.methodCall_KW (pl := pl) (ld_glob I hg hm ?_ hdb) hc⟩
  refine PySem.W.method_cls I.kIn r.ga (PySem.W.cls_value I.kIn r.rd fv hh ?_)
  show wpAny _ _ (callWith pos (Value.builtin initId) [] (backTo pos (starEach (e :: es) X.env)) []) _ _ _
  refine PyProof.Rows.callWith_method1 (thn (ha.run pos pins _ σ H _ (I.tok _) h) fun us s1 ⟨vs, H1, I1, r1, a, C, ws, ev, hl, T, ea, q⟩ => ?_) he hpl
  subst ev
  cases r1 with
  | @cons _ u0 _ ur ra rr =>
    obtain rfl : u0 = Value.ref a := ra
    exact x_init T I1 ea (by rw [← Paired.length rr, sizeLine_eq]; omega) fun s' J => ⟨.non, H1, J, rfl, q⟩
/-- self.f = e -/
theorem qx_set (ho : PE X o to) (he : PE X e te) (hs : swapsWith e (some (.Attribute o f p')) pos.line X.env = pure false := by rfl) :
    PS X (.Assign [.Attribute o f p'] e pos) (fun D σ H => te σ H fun y H1 => to σ H1 fun x H2 => ∃ a C : Addr, x = .ref a ∧ XCl X.K C B newId initId tl ∧ PySem.W.findIn X.K (.ref C) f = some none ∧
      ((H2 a = some (exo a C none) ∧ ∀ dx, H2 dx = none → dx ≠ a → D.nx σ (upd (upd H2 dx (exd dx [(f, y)])) a (exo a C (some dx)))) ∨
        ∃ (dx : Addr) (fs : List (Str × V)), H2 a = some (exo a C (some dx)) ∧ H2 dx = some (exd dx fs) ∧ fs.length ≤ 900 ∧ D.nx σ (upd H2 dx (exd dx ((f, y) :: fs))))) := by
  refine ⟨fun pins s σ H D I h => plainObj_wpAny_Assign_Attribute (thn (he.run pins s σ H _ I h) fun v s1 ⟨y, H1, I1, r1, q1⟩ => thn (ho.run pins s1 σ H1 _ I1 q1) fun u s2 ⟨x, H2, I2, r2, a, C, ex, T, hno, q⟩ => ?_) hs⟩
  subst ex
  obtain rfl : u = Value.ref a := r2
  rcases q with ⟨ea, q⟩ | ⟨dx, fs, ea, ed, hl, q⟩
  · exact x_new T I2 ea hno r1 fun dx s' n1 n2 J => ⟨σ, _, J, q dx n1 n2⟩
  · exact x_old T I2 ea ed hl hno r1 fun s' J => ⟨σ, _, J, q⟩
end
/-! ### a def told by readings -/
section
variable {P : Program} {w : World} {K : PySem.W.Frag} {mg : Str → Option Value} {base : Heap} {x qual : Str} {f : Addr} {fd : FuncData}
theorem fnx_raw {params : Arguments} {body : List Stmt} {sc : Scope} {kws : List (Str × V)} {N ps : List Str} {k : Nat} {sp : List V → Hp → VK → Prop} (F : FunD K x qual params body sc [] kws f fd) (S : FnScope N ps sc)
    (h : ∀ (kV doc pm : Value) (an : Option Addr) (cdv ct : Value) (us : List Value), us.length = ps.length → bindArgs (PySem.W.fnOf x qual params body sc .none kV doc pm an cdv ct) ⟨us, []⟩ = pure (ps.zip us))
    (hb : ∀ cdv A outer s H, Rm k (A.deeper (envOfC qual sc s.heap.objs.size f cdv)) → Mod K mg base → ∀ vs Q, sp vs H Q → ∃ t, PSs (cxOf CX0 P w K mg base N qual sc f cdv A outer s H E0) body t ∧ t { nx := fun _ H' => Q .non H', rt := Q } (L2.start N vs) H) :
    FnX P w K mg base (k + 1) f [] fun vs _ H Q => vs.length = ps.length ∧ sp vs H Q := by
  refine ⟨fun A outer s H us ws vs zs Q hr e0 r rz hz ⟨hl, hs⟩ => ?_⟩
  obtain ⟨oc, od, dV, kV, doc, pm, an, cdv, ct, osl, rfl, lk, hcd, hD, _⟩ := F.ex
  obtain ⟨_, rfl⟩ : ([] : List V) = [] ∧ dV = .none := by
    rcases hD with h | ⟨e, _⟩
    · exact h
    · exact absurd rfl e
  obtain rfl : ws = [] := by
    have : zs = [] := List.length_eq_zero_iff.mp hz
    subst this
    cases rz
    rfl
  refine StX.run_bnd (CX := CX0) (E := E0) (G := fun vs' H2 => vs' = vs ∧ H2 = H) lk hcd S hr.room e0 (fun A' Ex Q' h' => ?_) fun s2 H2 vs' hG hr' => ?_
  · exact BindsTo.of_eq (h kV doc pm an cdv ct us (by rw [← r.length]; exact hl)) _ _ _ _ (h' s H vs us e0 Un.refl rfl (fun _ _ z => z) r hl ⟨rfl, rfl⟩)
  · obtain ⟨rfl, rfl⟩ := hG
    exact hb cdv A outer s2 H2 (hr.deeper _) e0.mod vs' Q hs
end
/-! ### C(e, ..) -/
/-- what C(..) wants and gives: fs the fields, the last one first -/
abbrev SpI (C : Addr) (g : List V → List (Str × V)) (n : Nat) : List V → List V → Hp → VK → Prop := fun vs _ H Q => ∃ a ws, vs = .ref a :: ws ∧ ws.length = n ∧ H a = some (exo a C none) ∧ ∀ dx, H dx = none → dx ≠ a → Q .non (upd (upd H dx (exd dx (g ws))) a (exo a C (some dx)))
section
variable {X : Cx} {B newId initId : String} {tl : List Value} {x : Str} {C fI : Addr} {k n : Nat} {g : List V → List (Str × V)} {e : Expr} {es : List Expr} {p pos : Pos}
theorem pmk_x (T : XCl X.K C B newId initId tl) (iC : PySem.W.findIn X.K (.ref C) "__init__" = some (some (.ref fI))) (tI : PySem.W.typeIn X.K (.ref fI) = some (.type "function"))
    (F : FnX X.prog X.w X.K X.mg X.base k fI [] (SpI C g n)) (hr : Rm (k + 1) X.A) (hg : Gl X x) (hm : X.mg x = some (.ref C)) (hn : n ≤ 900)
    (hdb : (x == ("__debug__" : Str)) = false := by decide) (he : starEach (e :: es) X.env = (false, eval e X.env) :: starEach es X.env := by rfl) (hpl : (backTo pos (starEach es X.env)).any (·.1) = false := by rfl) :
    PMk X (.Call (.Name x p) (e :: es) [] pos) (fun σ H Q => WA X (e :: es) σ H fun vs H1 => vs.length = n ∧ ∀ d, H1 d = none → Q (.ref C) (some d) (upd H1 d (.xd (g vs)))) := by
  intro pins s σ H Q I h
  obtain ⟨n1, n2, n3, n4, bm, n5, n6, n7, n8, n9, n10, n11, n12, n13, n14, n15, hC, hT⟩ := PySem.W.excInit_of I.kIn T.ini
  refine wpAny_Call_Name_kw (ld_glob I hg hm ?_ hdb)
  refine PySem.W.callWith_K (h₀ := X.base) I.ok.mod.kin T.kC (thn (pa_wa.run pos pins s σ H _ I h) fun us s1 ⟨vs, H1, I1, r1, hz, q1⟩ => ⟨I1.kIn, ?_⟩) he hpl
  show wpAny _ _ (call (.ref C) us) _ _ _
  obtain ⟨m1, m2, m3, m4, bm', m5, m6, m7, m8, m9, m10, m11, m12, m13, m14, m15, hC1, hT1⟩ := PySem.W.excInit_of I1.kIn T.ini
  obtain ⟨hp, g0, dr, tk, os⟩ := s1
  have hsz : hp.objs.size ≤ hp.objs.size + 1 := Nat.le_succ _
  have hnA : H1 (hp.objs.size + 1) = none := I1.hok.fresh hsz
  have kk : ∀ b u, hp.get? b = some u → ((hp.push (PySem.W.kdv_tup us)).push (PySem.HandSPX.excO C hp.objs.size)).get? b = some u := fun b u z => Heap.get?_push_of_some _ (Heap.get?_push_of_some _ z)
  have hgt : ((hp.push (PySem.W.kdv_tup us)).push (PySem.HandSPX.excO C hp.objs.size)).get? (hp.objs.size + 1) = some (PySem.HandSPX.excO C hp.objs.size) := by heap_get
  have I2 : Inv X pins σ (upd H1 (hp.objs.size + 1) (exo (hp.objs.size + 1) C none)) ⟨(hp.push (PySem.W.kdv_tup us)).push (PySem.HandSPX.excO C hp.objs.size), g0, dr, tk, os⟩ :=
    Inv.laid (t' := tk) I1 kk hsz (exo_ok hgt)
  have r2 : Vals (V.ref (hp.objs.size + 1) :: vs) (Value.ref (hp.objs.size + 1) :: us) := .cons rfl r1
  have hus : us.length ≤ sizeLine := by
    rw [← Paired.length r1, sizeLine_eq, hz]
    omega
  have hq : SpI C g n (V.ref (hp.objs.size + 1) :: vs) [] (upd H1 (hp.objs.size + 1) (exo (hp.objs.size + 1) C none)) (fun v H2 => v = .non ∧ ∃ (d : Addr) (fs : List (Str × V)), H2 (hp.objs.size + 1) = some (exo (hp.objs.size + 1) C (some d)) ∧ H2 d = some (exd d fs) ∧ H1 d = none ∧ Q (.ref C) (some d) (upd (del H2 (hp.objs.size + 1)) d (.xd fs))) := by
    refine ⟨_, vs, rfl, hz, upd_same, fun d hd hda => ⟨rfl, d, g vs, upd_same, ?_, ?_, ?_⟩⟩
    · rw [upd_ne hda, upd_same]
    · rw [upd_ne hda] at hd
      exact hd
    · rw [upd_ne hda] at hd
      have ee : upd (del (upd (upd (upd H1 (hp.objs.size + 1) (exo (hp.objs.size + 1) C none)) d (exd d (g vs))) (hp.objs.size + 1) (exo (hp.objs.size + 1) C (some d))) (hp.objs.size + 1)) d (.xd (g vs)) = upd H1 d (.xd (g vs)) := funext fun b => by
        by_cases h1 : b = d
        · rw [h1, upd_same, upd_same]
        · rw [upd_ne h1, upd_ne h1]
          by_cases h2 : b = hp.objs.size + 1
          · rw [h2, del_same, hnA]
          · rw [del_ne h2, upd_ne h2, upd_ne h1, upd_ne h2]
      rw [ee]
      exact q1 d hd
  refine wpAny_call (PySem.HandSPX.call_own T.fb hT1 hC1 (PySem.W.looks_findIn I1.kIn iC) (fun self => PySem.W.bind_fn I1.kIn self tI) hus
    (codeAny_mono (F.run _ X.stack _ _ (Value.ref (hp.objs.size + 1) :: us) [] _ [] _ (hr.make C us []) (I2.env0.make C us []) r2 .nil rfl hq) fun r s' hq' => ?_))
  cases r with
  | error er => exact False.elim hq'
  | ok fl =>
    cases fl with
    | ret u =>
      obtain ⟨v, H2, os2, bare2, un2, hok2, rv, ev, d, fs, ea, ed, hd1, q2⟩ := hq'
      subst ev
      obtain ⟨h2, g2, d2, t2, os'⟩ := s'
      exact ⟨rv, mk_end (raises_own T.exC T.tyC) I1 hsz kk un2 hok2 os2 bare2 ea ed hd1 q2⟩
    | next => exact False.elim hq'
    | brk => exact False.elim hq'
    | cont => exact False.elim hq'
end
end Ab
/-! Ab38: pieces that may raise: yE, yS, ySs; raise; calls of defs that may raise; the promise of such a def. -/
namespace Ab
open PySem PySem.Spec PyProof.Rows L2
def XRep (K : PySem.W.Frag) (H : Hp) (cls : Value) (d : Option Addr) (C : Addr) (fs : List (Str × Val)) : Prop := cls = .ref C ∧ ((d = none ∧ fs = []) ∨ ∃ dd gs, d = some dd ∧ H dd = some (.xd gs) ∧ RepF K H fs gs)
theorem XRep.mono {K : PySem.W.Frag} {H H' : Hp} {cls : Value} {d : Option Addr} {C : Addr} {fs : List (Str × Val)} (e : Same H H') (h : XRep K H cls d C fs) : XRep K H' cls d C fs := by
  obtain ⟨h1, h2 | ⟨dd, gs, h2, h3, h4⟩⟩ := h
  · exact ⟨h1, .inl h2⟩
  · exact ⟨h1, .inr ⟨dd, gs, h2, e _ _ h3, h4.mono e⟩⟩
/-- an exception's class, fields, the memory -/
abbrev XP := Addr → List (Str × Val) → Mem → Prop
abbrev XG := Gam → XP
def XPost (K : PySem.W.Frag) (Hi : Hp) (PE : XP) (E : XK) : Prop := ∀ C fs M' Hi' H' cls d, PE C fs M' → Same Hi Hi' → Ok K Hi' M' H' → XRep K Hi' cls d C fs → E cls d H'
theorem XPost.up {K : PySem.W.Frag} {Hi Hi1 : Hp} {PE : XP} {E : XK} (h : XPost K Hi PE E) (e : Same Hi Hi1) : XPost K Hi1 PE E := fun C fs M' Hi' H' cls d p s => h C fs M' Hi' H' cls d p (e.trans s)
def XReal (K : PySem.W.Frag) (Hi : Hp) (ex : XG) (W : WX) : Prop := ∀ Γ C fs M' σ Hi' H' cls d, ex Γ C fs M' → Same Hi Hi' → Ok K Hi' M' H' → EnvR K Hi' Γ σ → XRep K Hi' cls d C fs → W cls d σ H'
theorem XReal.up {K : PySem.W.Frag} {Hi Hi1 : Hp} {ex : XG} {W : WX} (h : XReal K Hi ex W) (e : Same Hi Hi1) : XReal K Hi1 ex W := fun Γ C fs M' σ Hi' H' cls d p s => h Γ C fs M' σ Hi' H' cls d p (e.trans s)
theorem XReal.at {K : PySem.W.Frag} {Hi : Hp} {ex : XG} {W : WX} {Γ : Gam} {σ : L2.St} (h : XReal K Hi ex W) (en : EnvR K Hi Γ σ) : XPost K Hi (ex Γ) fun cls d H => W cls d σ H := fun C fs M' Hi' H' cls d p s ok => h Γ C fs M' σ Hi' H' cls d p s ok (en.mono s)
abbrev Po (X : Cx) : Prop := PassesOwn (model X.prog X.w) X.A X.env X.xe
def yE (X : Cx) (e : Expr) (Γ : Gam) (M : Mem) (P : Val → Mem → Prop) (PE : XP) : Prop := ∀ W, Takes X W → Po X → ∀ Hi H σ, Ok X.K Hi M H → EnvR X.K Hi Γ σ → ∀ Q : VK, Post X.K Hi P Q → XPost X.K Hi PE (fun cls d H' => W cls d σ H') → WE X e σ H Q
def yS (X : Cx) (s : Stmt) (Γ : Gam) (M : Mem) (k : AK) (ex : XG) : Prop := ∀ W, Takes X W → Po X → ∀ Hi H σ, Ok X.K Hi M H → EnvR X.K Hi Γ σ → ∀ D, Real X.K Hi k D → XReal X.K Hi ex W → WS X s D σ H
def ySs (X : Cx) (s : List Stmt) (Γ : Gam) (M : Mem) (k : AK) (ex : XG) : Prop := ∀ W, Takes X W → Po X → ∀ Hi H σ, Ok X.K Hi M H → EnvR X.K Hi Γ σ → ∀ D, Real X.K Hi k D → XReal X.K Hi ex W → WB X s D σ H
/-- a block that ends by an exception -/
abbrev k0 : AK := { nx := fun _ _ => False, rt := fun _ _ => False }
section
variable {X : Cx} {Γ : Gam} {M : Mem} {P : Val → Mem → Prop} {PE : XP} {ex : XG} {e c : Expr} {es : List Expr} {pos p1 : Pos} {k : AK} {st : Stmt} {sts s1 s2 : List Stmt} {x : Str} {n : Nat}
theorem ys_of (h : aS X st Γ M k) : yS X st Γ M k ex := fun _ _ _ Hi H σ ok en D q _ => h Hi H σ ok en D q
theorem ys_cons (h : yS X st Γ M { k with nx := fun Γ' M' => ySs X sts Γ' M' k ex } ex) : ySs X (st :: sts) Γ M k ex := fun W tk po Hi H σ ok en D q y =>
  ⟨_, pss_cons ps_ws pss_wb, h W tk po Hi H σ ok en { D with nx := WB X sts D } ⟨fun Γ' M' σ' Hi' H' hn s ok' en' => hn W tk po Hi' H' σ' ok' en' D (q.up s) (y.up s), q.rt, q.bk, q.ct⟩ y⟩
theorem ys_one (h : yS X st Γ M k ex) : ySs X [st] Γ M k ex := fun W tk po Hi H σ ok en D q y => ⟨_, pss_one ps_ws, h W tk po Hi H σ ok en D q y⟩
theorem ys_expr (h : yE X e Γ M (fun _ M' => k.nx Γ M') (ex Γ)) (hs : swapsWith e none pos.line X.env = pure false := by rfl) : yS X (.Expr e pos) Γ M k ex := fun W tk po Hi H σ ok en D q y =>
  ⟨_, ps_expr pe_we hs, h W tk po Hi H σ ok en _ (fun d M1 v Hi1 H1 h1 s1 ok1 r1 => q.nx _ _ _ Hi1 H1 h1 s1 ok1 (en.mono s1)) (y.at en)⟩
theorem ys_set {ps : Pos} (n : Nat) (hN : X.N.Nodup) (he : yE X e Γ M (fun d M' => k.nx (Γ.set n (some d)) M') (ex Γ)) (hi : X.N[n]? = some x := by rfl) (hx : Loc X.env.scope x := by first | exact Or.inl rfl | exact Or.inr rfl)
    (hs : swapsWith e (some (.Name x ps)) pos.line X.env = pure false := by rfl) (hf : X.fn x = true ∨ X.env.scope.names.lookup x = some .local := by first | exact .inl rfl | exact .inr rfl | assumption) : yS X (.Assign [.Name x ps] e pos) Γ M k ex := fun W tk po Hi H σ ok en D q y =>
  ⟨_, ps_set hN hi hx pe_we hs hf, he W tk po Hi H σ ok en _ (fun d M1 v Hi1 H1 h1 s1 ok1 r1 => q.nx _ _ _ Hi1 H1 h1 s1 ok1 ((en.mono s1).set r1)) (y.at en)⟩
theorem yE.mono {P' : Val → Mem → Prop} {PE' : XP} (h : yE X e Γ M P PE) (f : ∀ d M', P d M' → P' d M') (f2 : ∀ C fs M', PE C fs M' → PE' C fs M') : yE X e Γ M P' PE' := fun W tk po Hi H σ ok en Q q y => h W tk po Hi H σ ok en Q (fun d M1 v Hi1 H1 p => q d M1 v Hi1 H1 (f d M1 p)) fun C fs M' Hi' H' cls d p => y C fs M' Hi' H' cls d (f2 C fs M' p)
end
/-! ### raise C(e, ..) -/
/-- an exception class as its name says: n arguments, their fields g -/
structure XMk (P : Program) (w : World) (K : PySem.W.Frag) (mg : Str → Option Value) (base : Heap) (x : Str) (C : Addr) (n : Nat) (g : List Val → List (Str × Val)) : Prop where
  ex : ∃ B newId initId tl fI gV, XCl K C B newId initId tl ∧ PySem.W.findIn K (.ref C) "__init__" = some (some (.ref fI)) ∧ PySem.W.typeIn K (.ref fI) = some (.type "function") ∧ FnX P w K mg base 1 fI [] (SpI C gV n) ∧ mg x = some (.ref C) ∧ ∀ H ds vs, RepA K H ds vs → ds.length = n → RepF K H (g ds) (gV vs)
  n9 : n ≤ 900
section
variable {X : Cx} {Γ : Gam} {M : Mem} {ex : XG} {e : Expr} {es : List Expr} {pos p1 pos' : Pos} {k : AK} {x : Str} {n m : Nat} {C : Addr} {g : List Val → List (Str × Val)}
theorem ys_raise (T : XMk X.prog X.w X.K X.mg X.base x C n g) (hr : Rm m X.A) (hm : 2 ≤ m) (hc : X.calm = true) (h : aA X (e :: es) Γ M fun ds M1 => ds.length = n ∧ ex Γ C (g ds) M1) (hg : Gl X x := by rfl)
    (hdb : (x == ("__debug__" : Str)) = false := by decide) (he : starEach (e :: es) X.env = (false, eval e X.env) :: starEach es X.env := by rfl) (hpl : (backTo pos (starEach es X.env)).any (·.1) = false := by rfl) :
    yS X (.Raise (some (.Call (.Name x p1) (e :: es) [] pos)) none pos') Γ M k ex := fun W tk po Hi H σ ok en D q y => by
  obtain ⟨B, newId, initId, tl, fI, gV, T1, iC, tI, F, mx, rel⟩ := T.ex
  refine ⟨_, ps_raise hc tk (pmk_x T1 iC tI F (hr.mono hm) hg mx T.n9 hdb he hpl), ?_⟩
  refine h Hi H σ ok en _ fun ds M1 vs Hi1 H1 h1 z1 ok1 r1 => ⟨r1.length.symm.trans h1.1, fun d hd => ?_⟩
  have z2 := same_upd (o := .xd (gV vs)) (Ok.none ok1 hd)
  exact y Γ C (g ds) M1 σ (upd Hi1 d (.xd (gV vs))) _ _ _ h1.2 (z1.trans z2) (ok1.imm hd) ((en.mono z1).mono z2) ⟨rfl, .inr ⟨d, gV vs, rfl, upd_same, (rel Hi1 ds vs r1 h1.1).mono z2⟩⟩
end
end Ab
/-! Ab39: calls of defs that may raise, their promises. -/
namespace Ab
open PySem PySem.Spec PyProof.Rows L2
abbrev ASe := List Val → Mem → (Val → Mem → Prop) → XP → Prop
abbrev ASxe := List Val → List Val → Mem → (Val → Mem → Prop) → XP → Prop
def spE (K : PySem.W.Frag) (s : ASxe) (vs zs : List V) (H : Hp) (Q : VK) (E : XK) : Prop := ∃ Hi M ds es P PE, RepA K Hi ds vs ∧ RepA K Hi es zs ∧ Ok K Hi M H ∧ s ds es M P PE ∧ Post K Hi P Q ∧ XPost K Hi PE E
structure FnE (P : Program) (w : World) (K : PySem.W.Frag) (mg : Str → Option Value) (base : Heap) (k : Nat) (f : Addr) (ks : List Str) (sp : List V → List V → Hp → VK → XK → Prop) : Prop where
  run : ∀ (A : Around) (outer : List Env) (s : Shared) (H : Hp) (us ws : List Value) (vs zs : List V) (Q : VK) (E : XK), Rm k A → Env0 P w K mg base A outer s H → Vals vs us → Vals zs ws → zs.length = ks.length → sp vs zs H Q E →
    codeAny (model P w) A (.call (.ref f) ⟨us, ks.zip ws⟩) (CR (L2.CX P w) outer P w H s Q E) s
/-- the cells of a def may be dropped when it raises -/
inductive RetX (PE : XP) : XP
  | ok {C : Addr} {fs : List (Str × Val)} {M : Mem} : PE C fs M → RetX PE C fs M
  | drop {C : Addr} {fs : List (Str × Val)} {c : Addr × Cell} {M : Mem} : RetX PE C fs M → RetX PE C fs (c :: M)
theorem RetX.post {K : PySem.W.Frag} {PE : XP} {E : XK} {Hi : Hp} (q : XPost K Hi PE E) {C : Addr} {fs : List (Str × Val)} {M : Mem} (h : RetX PE C fs M) : ∀ {Hi' H' : Hp} {cls : Value} {d : Option Addr}, Same Hi Hi' → Ok K Hi' M H' → XRep K Hi' cls d C fs → E cls d H' := by
  induction h with
  | ok p => exact fun s ok r => q _ _ _ _ _ _ _ p s ok r
  | drop _ ih => exact fun s ok r => ih s ok.tail r
abbrev ecx (P : Program) (w : World) (K : PySem.W.Frag) (mg : Str → Option Value) (base : Heap) (N : List Str) (qual : Str) (sc : Scope) (f : Addr) (cdv : Value) (A : Around) (outer : List Env) (s : Shared) (H : Hp) (E : XK) : Cx := cxOf (L2.CX P w) P w K mg base N qual sc f cdv A outer s H E
abbrev BodyE (P : Program) (w : World) (K : PySem.W.Frag) (mg : Str → Option Value) (base : Heap) (k : Nat) (f : Addr) (N : List Str) (qual : Str) (sc : Scope) (body : List Stmt) (s0 : ASe) : Prop :=
  ∀ cdv A outer s H E, Rm k (A.deeper (envOfC qual sc s.heap.objs.size f cdv)) → Po (ecx P w K mg base N qual sc f cdv A outer s H E) → ∀ ds M R PE, s0 ds M R PE → ySs (ecx P w K mg base N qual sc f cdv A outer s H E) body (gam N ds) M (kOf R) fun _ => RetX PE
section
variable {P : Program} {w : World} {K : PySem.W.Frag} {mg : Str → Option Value} {base : Heap} {x qual : Str} {f : Addr} {fd : FuncData}
theorem fne_kbn {params : Arguments} {body : List Stmt} {sc : Scope} {dvs : List V} {kws : List (Str × V)} {N ps ks : List Str} {k n : Nat} {s0 : ASe} {g : List Value → List Value → List Value} {gV : List V → List V → List V} (gA : List Val → List Val → List Val)
    (F : FunD K x qual params body sc dvs kws f fd) (S : FnScope N ps sc) (b : KBn K fd ps n ks g gV)
    (hrel : ∀ H ds vs es zs, RepA K H ds vs → RepA K H es zs → ds.length = n → es.length = ks.length → RepA K H (gA ds es) (gV vs zs)) (len : ∀ ds M R PE, s0 ds M R PE → ds.length = ps.length)
    (hb : BodyE P w K mg base k f N qual sc body s0) : FnE P w K mg base (k + 1) f ks (spE K fun ds es M R PE => ds.length = n ∧ s0 (gA ds es) M R PE) := by
  refine ⟨fun A outer s H us ws vs zs Q E hr e0 r rz hz ⟨Hi, M, ds, es, R, PE, ra, re, ok, ⟨hn, hs⟩, q, qx⟩ => ?_⟩
  obtain ⟨oc, od, dV, kV, doc, pm, an, cdv, ct, osl, rfl, lk, hcd, _, _⟩ := F.ex
  have KX : K.In s.heap := e0.mod.kin.keeps fun b1 o1 z1 => (e0.bs b1 o1 z1).1
  have hbt := b.to s us ws KX (by rw [← r.length, ← ra.length]; exact hn) (by rw [← rz.length]; exact hz)
  have rg := hrel Hi ds vs es zs ra re hn (re.length.trans hz)
  have hl : (gV vs zs).length = ps.length := rg.length.symm.trans (len _ _ _ _ hs)
  refine StX.run_bnd (CX := L2.CX P w) (E := E) (G := fun vs' H2 => vs' = gV vs zs ∧ H2 = H) lk hcd S hr.room e0 (fun A' Ex Q' h => ?_) fun s2 H2 vs' hG hr' => ?_
  · exact hbt _ _ _ _ (h s H (gV vs zs) (g us ws) e0 Un.refl rfl (fun _ _ z => z) (b.rel r rz) hl ⟨rfl, rfl⟩)
  · obtain ⟨rfl, rfl⟩ := hG
    obtain ⟨t, p, z⟩ := hb cdv A outer s2 H2 E (hr.deeper _) (passes_of (K := fun e s'' => L2.CX P w outer H2 s2 E e s'') (E₁ := _) rfl) (gA ds es) M R PE hs (fun cls d _ H => E cls d H) (takes_of rfl rfl rfl rfl) (passes_of (K := fun e s'' => L2.CX P w outer H2 s2 E e s'') (E₁ := _) rfl) Hi H2 _ ok (env_start rg)
      { nx := fun _ H' => Q .non H', rt := Q } ⟨fun Γ M' σ Hi' H' h1 s1 ok1 _ => h1.post q s1 ok1 .non, fun d M' v Hi' H' h1 s1 ok1 r1 => h1.post q s1 ok1 r1, fun _ _ _ _ _ z => z.elim, fun _ _ _ _ _ z => z.elim⟩
      (fun Γ C fs M' σ Hi' H' cls d h1 s1 ok1 _ r1 => h1.post qx s1 ok1 r1)
    exact ⟨t, p, z⟩
theorem fne_pos {params : Arguments} {body : List Stmt} {sc : Scope} {kws : List (Str × V)} {N ps : List Str} {k : Nat} {s0 : ASe} (F : FunD K x qual params body sc [] kws f fd) (S : FnScope N ps sc)
    (h : ∀ (kV doc pm : Value) (an : Option Addr) (cdv ct : Value) (us : List Value), us.length = ps.length → bindArgs (PySem.W.fnOf x qual params body sc .none kV doc pm an cdv ct) ⟨us, []⟩ = pure (ps.zip us))
    (len : ∀ ds M R PE, s0 ds M R PE → ds.length = ps.length) (hb : BodyE P w K mg base k f N qual sc body s0) : FnE P w K mg base (k + 1) f [] (spE K fun ds _ => s0 ds) := by
  have F1 := fne_kbn (n := ps.length) (ks := []) (fun ds _ => ds) F S (g := fun us _ => us) (gV := fun vs _ => vs) (by
    obtain ⟨oc, od, dV, kV, doc, pm, an, cdv, ct, osl, rfl, lk, hcd, hD, _⟩ := F.ex
    obtain ⟨_, rfl⟩ : ([] : List V) = [] ∧ dV = .none := by
      rcases hD with z | ⟨z, _⟩
      · exact z
      · exact absurd rfl z
    refine ⟨fun s us ws _ h1 h2 => .of_eq ?_, fun r1 _ => r1⟩
    obtain rfl := List.length_eq_zero_iff.mp h2
    exact h kV doc pm an cdv ct us h1) (fun H ds vs es zs r _ _ _ => r) len hb
  exact ⟨fun A outer s H us ws vs zs Q E hr e0 r rz hz ⟨Hi, M, ds, es, R, PE, ra, re, ok, hs, q, qx⟩ => F1.run A outer s H us ws vs zs Q E hr e0 r rz hz ⟨Hi, M, ds, es, R, PE, ra, re, ok, ⟨len _ _ _ _ hs, hs⟩, q, qx⟩⟩
theorem FnE.weak {k : Nat} {ks : List Str} {sp sp' : List V → List V → Hp → VK → XK → Prop} (F : FnE P w K mg base k f ks sp) (h : ∀ vs zs H Q E, sp' vs zs H Q E → sp vs zs H Q E) : FnE P w K mg base k f ks sp' :=
  ⟨fun A outer s H us ws vs zs Q E hr e0 r rz hz hs => F.run A outer s H us ws vs zs Q E hr e0 r rz hz (h _ _ _ _ _ hs)⟩
theorem FnE.imp {k : Nat} {ks : List Str} {sx sx' : ASxe} (F : FnE P w K mg base k f ks (spE K sx)) (h : ∀ ds es M R PE, sx' ds es M R PE → sx ds es M R PE) : FnE P w K mg base k f ks (spE K sx') :=
  F.weak fun vs zs H Q E ⟨Hi, M, ds, es, R, PE, r1, r2, ok, hs, q⟩ => ⟨Hi, M, ds, es, R, PE, r1, r2, ok, h _ _ _ _ _ hs, q⟩
theorem FnE.mono {j k : Nat} {ks : List Str} {sp : List V → List V → Hp → VK → XK → Prop} (F : FnE P w K mg base j f ks sp) (h : j ≤ k) : FnE P w K mg base k f ks sp := ⟨fun A outer s H us ws vs zs Q E hr => F.run A outer s H us ws vs zs Q E (hr.mono h)⟩
end
/-- a method that may raise -/
abbrev MtE (P : Program) (w : World) (K : PySem.W.Frag) (mg : Str → Option Value) (base : Heap) (C : Addr) (n : Nat) (m : Str) (ks : List Str) (s : ASxe) : Prop := ∃ f, Meth K C m f ∧ FnE P w K mg base n f ks (spE K s)
section
variable {X : Cx} {Γ : Gam} {M : Mem} {P : Val → Mem → Prop} {PE : XP} {e o : Expr} {es : List Expr} {kws : List Keyword} {pos p1 apos : Pos} {x m : Str} {n q : Nat} {f C : Addr} {ks : List Str} {sx : ASxe} {W : WX}
theorem run_e {pins : List (Addr × Obj)} {σ : L2.St} {H : Hp} {s : Shared} {Q : VK} {us ws : List Value} {vs zs : List V} {sp : List V → List V → Hp → VK → XK → Prop} (tk : Takes X W) (F : FnE X.prog X.w X.K X.mg X.base n f ks sp) (hr : Rm n X.A)
    (I : Inv X pins σ H s) (r : Vals vs us) (rz : Vals zs ws) (l2 : zs.length = ks.length) (h : sp vs zs H Q fun cls d H' => W cls d σ H') : wpAny (model X.prog X.w) X.A (call (.ref f) us (ks.zip ws)) (EP X pins σ Q) X.xe s := by
  refine wpAny_call (codeAny_mono (F.run X.A X.stack s H us ws vs zs Q _ hr I.env0 r rz l2 h) fun r s' hq => ?_)
  cases r with
  | error e => exact tk e s' (XE.of_call I (fun _ _ _ z => z) hq)
  | ok fl =>
    cases fl with
    | ret u => exact I.after hq
    | next => exact False.elim hq
    | brk => exact False.elim hq
    | cont => exact False.elim hq
/-- o.m(e, .., k = v, ..) -/
theorem ye_m {pl : Sem Bool} (c : Cls X.K C) (F : MtE X.prog X.w X.K X.mg X.base C n m ks sx) (hr : Rm q X.A) (hq : n ≤ q)
    (h : aE X o Γ M fun d M0 => ObM M0 C d m ∧ aA X (e :: es) Γ M0 fun ds M1 => aKw X kws Γ M1 fun zs M2 => zs.length = ks.length ∧ sx (d :: ds) zs M2 P PE)
    (hall : (backToKw pos (keywordEach kws X.env)).all (·.1.isSome) = true := by rfl) (hks : (backToKw pos (keywordEach kws X.env)).filterMap (·.1) = ks := by rfl)
    (he : starEach (e :: es) X.env = (false, eval e X.env) :: starEach es X.env := by rfl) (hpl : ((backTo pos (starEach (e :: es) X.env)).any (·.1) || (backToKw pos (keywordEach kws X.env)).any (·.1.isNone)) = false := by rfl)
    (ht : eval (.Call (.Attribute o m apos) (e :: es) kws pos) X.env = (do
      let ov ← eval o X.env
      standAt apos.atName
      let (f, first) ← holding [ov] (getMethod ov m pl)
      callWith pos f first (backTo pos (starEach (e :: es) X.env)) (backToKw pos (keywordEach kws X.env))) := by rfl) : yE X (.Call (.Attribute o m apos) (e :: es) kws pos) Γ M P PE := fun W tk po Hi H σ ok en Q q1 y1 => by
  obtain ⟨f, hm, F⟩ := F
  refine ⟨fun σ H Q => WE X o σ H fun x H0 => ∃ a dx fs, x = .ref a ∧ H0 a = some (.ins C dx fs) ∧ fs.lookup m = none ∧ WA X (e :: es) σ H0 fun vs H1 => WK X kws σ H1 fun zs H2 => zs.length = ks.length ∧ spE X.K sx (x :: vs) zs H2 Q fun cls d H' => W cls d σ H', ⟨fun pins s σ H Q I h => ?_⟩, ?_⟩
  · refine PySem.W.methodCall_KW (pl := pl) (thn (pe_we.run pins s σ H _ I h) fun u s1 ⟨x, H1, I1, rx, a, dx, fs, ex, ea, l, z⟩ => ?_) ht
    subst ex
    obtain rfl : u = Value.ref a := rx
    refine getmeth_ok I1 ea c hm l ?_
    refine PySem.W.callWith_KW (first := [.ref a]) (h₀ := X.base) I.ok.mod.kin hm.kp hall (thn (pa_wa.run pos pins s1 σ H1 _ I1 z) fun us s2 ⟨vs, H2, I2, r, z2⟩ => ?_) hpl he
    refine thn (pk_wk.run pos pins s2 σ H2 _ I2 z2) fun ws s3 ⟨zs, H3, I3, rz, l2, z3⟩ => ⟨I3.kIn, ?_⟩
    rw [hks]
    exact run_e (us := .ref a :: us) (vs := .ref a :: vs) tk (F.mono hq) hr I3 (.cons rfl r) rz l2 z3
  · refine h Hi H σ ok en _ fun x M0 v0 Hi0 H0 h0 s0 ok0 r0 => ?_
    obtain ⟨hob, h0⟩ := h0
    obtain ⟨p, dx, gs, rfl, hp, hn⟩ := hob _ _ _ _ ok0 r0
    refine ⟨p, dx, gs, rfl, hp, hn, ?_⟩
    refine h0 Hi0 H0 σ ok0 (en.mono s0) _ fun ds M1 vs Hi1 H1 h1 s1 ok1 r1 => ?_
    refine h1 Hi1 H1 σ ok1 (en.mono (s0.trans s1)) _ fun zs M2 ws Hi2 H2 h2 s2 ok2 r2 => ?_
    exact ⟨r2.length.symm.trans h2.1, Hi2, M2, _ :: ds, zs, P, PE, .cons (r0.mono (s1.trans s2)) (r1.mono s2), r2, ok2, h2.2, q1.up ((s0.trans s1).trans s2), y1.up ((s0.trans s1).trans s2)⟩
end
end Ab
/-! Ab40: try: .. except C as n: ..; the caught exception is a value from then on. -/
namespace Ab
open PySem PySem.Spec PyProof.Rows L2
/-! ### the same over values -/
end Ab
/-! Ab41: a caught exception's fields, its class. -/
namespace Ab
open PySem PySem.Spec PyProof.Rows L2
end Ab
/-! Ab42: loops whose body may raise; slots and cells forgotten. -/
namespace Ab
open PySem PySem.Spec PyProof.Rows L2
section
variable {X : Cx} {Γ : Gam} {M : Mem} {k : AK} {ex : XG} {c : Expr} {pos : Pos} {sts : List Stmt} {st : Stmt}
/-! slots and cells may be forgotten -/
theorem ySs.mono {k' : AK} (h : ySs X sts Γ M k ex) (f1 : ∀ Γ M, k.nx Γ M → k'.nx Γ M) (f2 : ∀ d M, k.rt d M → k'.rt d M) (f3 : ∀ Γ M, k.bk Γ M → k'.bk Γ M) (f4 : ∀ Γ M, k.ct Γ M → k'.ct Γ M) : ySs X sts Γ M k' ex := fun W tk po Hi H σ ok en D q y =>
  h W tk po Hi H σ ok en D ⟨fun Γ M σ Hi' H' p => q.nx Γ M σ Hi' H' (f1 Γ M p), fun d M v Hi' H' p => q.rt d M v Hi' H' (f2 d M p), fun Γ M σ Hi' H' p => q.bk Γ M σ Hi' H' (f3 Γ M p), fun Γ M σ Hi' H' p => q.ct Γ M σ Hi' H' (f4 Γ M p)⟩ y
end
end Ab
/-! Ab43: defs that may raise, with defaults or keywords. -/
namespace Ab
open PySem PySem.Spec PyProof.Rows L2
end Ab
/-! Ab44: repr of a number, a truth value, None, a text -/
namespace Ab
open PySem PySem.Spec PyProof.Rows L2
end Ab
/-! Ab45: classmethods (with keywords), making an instance through a local name, zip, not in, isinstance of several classes, constants of a class -/
namespace Ab
open PySem PySem.Spec PyProof.Rows L2
/-! ### classmethods -/
theorem callWith_MKW {K : PySem.W.Frag} {M : Model} {A : Around} {s : Shared} {E : Value → Shared → Prop} {env : Env} {pos : Pos} {q g : Addr} {self : Value} {Q : Value → Shared → Prop} {e : Expr} {rest : List Expr} {kws : List Keyword} (hf : PySem.W.fnIn K g = true) (hall : (backToKw pos (keywordEach kws env)).all (·.1.isSome) = true)
    (h : wpAny M A (spliced (backTo pos (starEach (e :: rest) env))) (fun vs s₁ => wpAny M A (evalAll ((backToKw pos (keywordEach kws env)).map (·.2)))
      (fun ks s₂ => PySem.W.MethP K q g self s₂.heap ∧ wpAny M A (call (.ref q) vs (((backToKw pos (keywordEach kws env)).filterMap (·.1)).zip ks)) Q E s₂) E s₁) E s)
    (hplain : ((backTo pos (starEach (e :: rest) env)).any (·.1) || (backToKw pos (keywordEach kws env)).any (·.1.isNone)) = false := by rfl) (he : starEach (e :: rest) env = (false, eval e env) :: starEach rest env := by rfl) :
    wpAny M A (callWith pos (.ref q) [] (backTo pos (starEach (e :: rest) env)) (backToKw pos (keywordEach kws env))) Q E s :=
  PySem.W.callWith_of hplain (PySem.W.keeps_M hf) (PyProof.Rows.evalArgs_kw2 hall h he)
section
variable {X : Cx} {Γ : Gam} {M : Mem} {P : Val → Mem → Prop} {o e a b : Expr} {es : List Expr} {pos p1 apos : Pos} {kws : List Keyword} {n q : Nat} {m x : Str} {C : Addr} {ks : List Str} {sx : ASx} {d d1 d2 : Val}
/-- C.m(e, .., k=..) -/
theorem ae_cmeth {mc : Value} {p g : Addr} {pl : Sem Bool} (r : ClX.CRead X.K C mc) (cm : ClX.CMet X.K C mc m p g) (F : FnX X.prog X.w X.K X.mg X.base n g ks (spX X.K sx)) (hr : Rm q X.A) (hq : n ≤ q) (ho : aV X o Γ M (.ptr C))
    (h : aA X (e :: es) Γ M fun ds M1 => aKw X kws Γ M1 fun zs M2 => zs.length = ks.length ∧ sx (.ptr C :: ds) zs M2 P)
    (hall : (backToKw pos (keywordEach kws X.env)).all (·.1.isSome) = true := by rfl) (hks : (backToKw pos (keywordEach kws X.env)).filterMap (·.1) = ks := by rfl)
    (he : starEach (e :: es) X.env = (false, eval e X.env) :: starEach es X.env := by rfl) (hpl : ((backTo pos (starEach (e :: es) X.env)).any (·.1) || (backToKw pos (keywordEach kws X.env)).any (·.1.isNone)) = false := by rfl)
    (ht : eval (.Call (.Attribute o m apos) (e :: es) kws pos) X.env = (do
      let ov ← eval o X.env
      standAt apos.atName
      let (f, first) ← holding [ov] (getMethod ov m pl)
      callWith pos f first (backTo pos (starEach (e :: es) X.env)) (backToKw pos (keywordEach kws X.env))) := by rfl) : aE X (.Call (.Attribute o m apos) (e :: es) kws pos) Γ M P := fun Hi H σ ok en Q qq => by
  refine ⟨fun σ H Q => WE X o σ H fun x H0 => x = .ref C ∧ WA X (e :: es) σ H0 fun vs H1 => WK X kws σ H1 fun zs H2 => zs.length = ks.length ∧ spX X.K sx (.ref C :: vs) zs H2 Q, ⟨fun pins s σ H Q I h => ?_⟩, ?_⟩
  · refine PySem.W.methodCall_KW (pl := pl) (thn (pe_we.run pins s σ H _ I h) fun u s1 ⟨x, H1, I1, rx, ex, q⟩ => ?_) ht
    subst ex
    obtain rfl : u = Value.ref C := rx
    refine ClX.getmethcm_ok I1 r cm fun s' I2 => ?_
    refine callWith_MKW (self := .ref C) cm.fi hall (thn (pa_wa.run pos _ _ σ H1 _ I2 q) fun us s2 ⟨vs, H2, I3, rv, q2⟩ => ?_) hpl he
    refine thn (pk_wk.run pos _ s2 σ H2 _ I3 q2) fun ws s3 ⟨zs, H3, I4, rz, l2, q3⟩ => ⟨⟨ClX.pin_at I4, I4.kIn⟩, ?_⟩
    rw [hks]
    have z : wpAny (model X.prog X.w) X.A (call (.ref s1.heap.objs.size) us (ks.zip ws)) (EP X ((s1.heap.objs.size, PySem.W.methodObj (.ref g) (.ref C)) :: pins) σ Q) X.xe s3 := by
      refine wpAny_call (PySem.W.method_call (ClX.pin_at I4) (codeAny_mono (F.run X.A X.stack s3 H3 (.ref C :: us) ws (.ref C :: vs) zs Q (hr.mono hq) I4.env0 (.cons rfl rv) rz l2 q3) fun r s'' hq' => ?_))
      cases r with
      | error e => exact False.elim hq'
      | ok fl =>
        cases fl with
        | ret u => exact I4.after hq'
        | next => exact False.elim hq'
        | brk => exact False.elim hq'
        | cont => exact False.elim hq'
    exact thn z fun _ _ y => ClX.unpinE y
  · refine ho Hi H σ ok en _ fun x M0 v0 Hi0 H0 h0 s0 ok0 r0 => ?_
    obtain ⟨rfl, rfl⟩ := h0
    cases r0
    refine ⟨rfl, ?_⟩
    refine h Hi0 H0 σ ok0 (en.mono s0) _ fun ds M1 vs Hi1 H1 h1 s1 ok1 r1 => ?_
    refine h1 Hi1 H1 σ ok1 (en.mono (s0.trans s1)) _ fun zs M2 ws Hi2 H2 h2 s2 ok2 r2 => ?_
    exact ⟨r2.length.symm.trans h2.1, Hi2, M2, _, zs, P, .cons (.ptr C) (r1.mono s2), r2, ok2, h2.2, qq.up ((s0.trans s1).trans s2)⟩
/-- x(e, .., k=..), x a local name that holds the class at C -/
theorem ae_makeL {f : Addr} (i : Nat) (Mk_ : Mk X.K C f) (F : FnX X.prog X.w X.K X.mg X.base n f ks (spX X.K sx)) (hr : Rm q X.A) (hq : n + 1 ≤ q) (hi : Γ[i]? = some (some (.ptr C)))
    (h : aA X (e :: es) Γ M fun ds M1 => aKw X kws Γ M1 fun zs M2 => zs.length = ks.length ∧ ∀ p, p ∉ M2.map (·.1) → sx (.ptr p :: ds) zs ((p, .ins C []) :: M2) (fun v M3 => v = .non ∧ P (.ptr p) M3))
    (hN : X.N[i]? = some x := by rfl) (hv : Vis X.env.scope x := by first | exact Or.inl rfl | exact Or.inr (Or.inl rfl) | exact Or.inr (Or.inr rfl)) (hall : (backToKw pos (keywordEach kws X.env)).all (·.1.isSome) = true := by rfl) (hks : (backToKw pos (keywordEach kws X.env)).filterMap (·.1) = ks := by rfl) (hdb : (x == ("__debug__" : Str)) = false := by decide) (hcd : (x == ("__classdict__" : Str)) = false := by decide)
    (he : starEach (e :: es) X.env = (false, eval e X.env) :: starEach es X.env := by rfl) (hpl : ((backTo pos (starEach (e :: es) X.env)).any (·.1) || (backToKw pos (keywordEach kws X.env)).any (·.1.isNone)) = false := by rfl) : aE X (.Call (.Name x p1) (e :: es) kws pos) Γ M P := fun Hi H σ ok en Q qq => by
  refine ⟨fun σ H Q => σ[i]? = some (some (.ref C)) ∧ WA X (e :: es) σ H fun vs H1 => WK X kws σ H1 fun zs H2 => zs.length = ks.length ∧ ∀ x dx, H2 x = none → H2 dx = none → dx ≠ x → spX X.K sx (.ref x :: vs) zs (upd (upd H2 dx (.own x)) x (.ins C dx [])) (fun v H3 => v = .non ∧ Q (.ref x) H3), ⟨fun pins s σ H Q I h => ?_⟩, ?_⟩
  · obtain ⟨hs, h⟩ := h
    refine wpAny_Call_Name_kw (thn ((pe_var (pos := p1) hN hv hdb hcd).run pins s σ H (fun v H1 => v = .ref C ∧ H1 = H) I ⟨.ref C, hs, rfl, rfl⟩) fun u s0 ⟨v, H0, I0, r0, q0⟩ => ?_)
    obtain ⟨ev, eH⟩ := q0
    subst ev
    rw [eH] at I0
    obtain rfl : u = Value.ref C := r0
    refine PySem.W.callWith_KW (first := []) (h₀ := X.base) I.ok.mod.kin Mk_.kp hall (thn (pa_wa.run pos pins s0 σ H _ I0 h) fun us s1 ⟨vs, H1, I1, r, q⟩ => ?_) hpl he
    refine thn (pk_wk.run pos pins s1 σ H1 _ I1 q) fun ws s2 ⟨zs, H2, I2, rz, l2, q2⟩ => ⟨I2.kIn, ?_⟩
    rw [hks]
    exact run_mk Mk_ F (hr.mono hq) I2 r rz l2 q2
  · have hσ : σ[i]? = some (some (.ref C)) := by
      obtain ⟨v, h1, h2⟩ := en.2 _ _ hi
      cases h2
      exact h1
    refine ⟨hσ, ?_⟩
    refine h Hi H σ ok en _ fun ds M1 vs Hi1 H1 h1 s1 ok1 r1 => ?_
    refine h1 Hi1 H1 σ ok1 (en.mono s1) _ fun zs M2 ws Hi2 H2 h2 s2 ok2 r2 => ?_
    refine ⟨r2.length.symm.trans h2.1, fun x dx hx hdx hne => ?_⟩
    have s3 := same_upd (o := .own x) (ok2.none hdx)
    have ok3 : Ok X.K (upd Hi2 dx (.own x)) M2 (upd H2 dx (.own x)) := ok2.imm hdx
    have hx3 : upd H2 dx (.own x) x = none := by rw [upd_ne hne.symm]; exact hx
    refine ⟨_, (x, .ins C []) :: M2, .ptr x :: ds, zs, _, .cons (.ptr x) (r1.mono (s2.trans s3)), r2.mono s3, ok3.new hx3 ⟨dx, [], rfl, .nil⟩, h2.2 x (ok2.fresh hx), ?_⟩
    rintro d M4 v Hi4 H4 ⟨rfl, hp⟩ s4 ok4 r4
    cases r4
    exact ⟨rfl, qq _ _ _ Hi4 H4 hp (((s1.trans s2).trans s3).trans s4) ok4 (.ptr x)⟩
/-- C.f, a constant of the class -/
theorem av_cval {mc u : Value} {f : Str} {v : V} (r : ClX.CRead X.K C mc) (k : ClX.CVal X.K C mc f v u) (ha : aV X a Γ M (.ptr C)) (rep : ∀ H, Rep X.K H d v) (hb : attributeBase a f X.env (eval a X.env) = eval a X.env := by rfl) : aV X (.Attribute a f pos) Γ M d := fun Hi H σ ok en Q q => by
  refine ⟨_, ClX.pe_cval pe_we hb, ?_⟩
  refine ha Hi H σ ok en _ fun x M1 w Hi1 H1 h1 s1 ok1 r1 => ?_
  obtain ⟨rfl, rfl⟩ := h1
  cases r1
  exact ⟨C, mc, v, u, rfl, r, k, q _ _ v Hi1 H1 ⟨rfl, rfl⟩ s1 ok1 (rep _)⟩
/-! ### zip of two tuples -/
theorem walk_zipT {K : PySem.W.Frag} {p1 p2 : Addr} {xs ys : List V} {n : Nat} (hn : n = min xs.length ys.length) : Walk (RZ.ItzT K p1 p2) n (fun H => SqT K H p1 xs ∧ SqT K H p2 ys) (YPair (fun i => xs[i]?) (fun i => ys[i]?)) := by
  refine ⟨fun i H hi ⟨hx, hy⟩ => ⟨xs, ys, xs[i], ys[i], hx, hy, List.getElem?_eq_getElem (by omega), List.getElem?_eq_getElem (by omega)⟩, fun H ⟨hx, hy⟩ => ⟨xs, ys, hx, hy, by omega⟩, fun i H v H' hi ⟨hx, hy⟩ h => ?_⟩
  obtain ⟨T, x, y, h1, h2, h3, h4, h5⟩ := h
  exact ⟨T, x, y, h1, h2, h3, h4 xs hx, h5 ys hy⟩
theorem ai_zipT {elts : List Expr} {kk : Nat} {tpos : Pos} {R : Mem → Prop} {xs ys : List Val} (hm : X.mg "zip" = none) (ha : aA X [a, b] Γ M fun ds M' => ds = [.tup xs, .tup ys] ∧ R M') (hg : Gl X "zip" := by rfl)
    (hs : starEach [a, b] X.env = (false, eval a X.env) :: starEach [b] X.env := by rfl) (hpl : (backTo pos (starEach [b] X.env)).any (·.1) = false := by rfl) :
    aI X (.Tuple elts kk tpos) (.Call (.Name "zip" p1) [a, b] [] pos) Γ M (min xs.length ys.length) (fun i => .tup [xs.getD i .non, ys.getD i .non]) (fun _ => True) R := fun Hi H σ ok en R' q => by
  refine ⟨_, RZ.pi_zipA hg hm pa_wa hs hpl, ?_⟩
  refine ha Hi H σ ok en _ fun ds M1 vs Hi1 H1 h1 s1 ok1 r1 => ?_
  obtain ⟨rfl, hp⟩ := h1
  cases r1 with
  | cons ra r1 =>
    cases r1 with
    | cons rb r1 =>
      cases r1
      cases ra with
      | @tup p zs _ hq1 ra =>
        cases rb with
        | @tup p' zs' _ hq2 rb =>
          refine ⟨p, p', zs, zs', rfl, .inr ⟨sameT ok1.im hq1, sameT ok1.im hq2, q _ M1 Hi1 H1 hp s1 ok1 ?_⟩⟩
          rw [ra.length, rb.length]
          refine (walk_zipT rfl).mono (fun H' hG => ?_) fun i H' v H'' hi hG hy Hi' M' s2 ok2 _ => ?_
          · obtain ⟨Hi', M', s2, ok2, _⟩ := hG
            exact ⟨sameT ok2.im (sameT s2 hq1), sameT ok2.im (sameT s2 hq2)⟩
          · obtain ⟨T, x, y, rfl, hT, rfl, hx, hy⟩ := hy
            have s3 := same_upd (o := .tup [x, y]) (ok2.none hT)
            exact ⟨_, s3, ok2.imm hT, .tup (SqT.of upd_same) (.cons ((Sq.at ra hx).mono (s2.trans s3)) (.cons ((Sq.at rb hy).mono (s2.trans s3)) .nil))⟩
/-! ### i not in (j, ..) -/
end
end Ab
/-! Ab46: isinstance(x, (C1, C2)) -/
namespace Ab
open PySem PySem.Spec PyProof.Rows L2
section
variable {X : Cx} {Γ : Gam} {M : Mem} {P : Val → Mem → Prop} {a b : Expr} {pos p1 : Pos} {d1 d2 d3 : Val}
theorem call_isiQ : CallR X (.builtin "isinstance") (fun xs H Q => ∃ (x : V) (tp : Addr) (cs : List V) (t : Value) (us : List Value) (b : Bool), xs = [x, .ref tp] ∧ SqT X.K H tp cs ∧ Paired ClsV cs us ∧ TyX X.K H x t ∧ PySem.W.kitAny X.K t us = some b ∧ Q (.bl b) H) := by
  intro pins s σ H xs us Q I r h
  obtain ⟨x, tp, cs, t, ws, b, rfl, hT, k, ty, e, q⟩ := h
  obtain ⟨u1, u2, rfl, r1, r2⟩ := vals2 r
  cases (show u2 = Value.ref tp from r2)
  obtain ⟨P, Z, p, hx⟩ := kit_of I r1 ty
  obtain ⟨its, rv, p', _⟩ := I.tuple hT
  obtain ⟨o, h1, h2, n, h3⟩ := p'
  have e3 := ClsV.all k rv
  subst e3
  obtain ⟨oc, od, dt, sl⟩ := o
  simp only at h2 h3
  subst h2 h3
  exact PySem.W.kia_tup Z I.kIn p h1 e hx fun tk => ⟨.bl b, H, I.tok tk, rfl, q⟩
theorem ae_isi2 {t u1 u2 : Value} {bb : Bool} (hm : X.mg "isinstance" = none) (ha : aV X a Γ M d1) (hb : aV X b Γ M (.tup [d2, d3])) (hc : ClV d2 u1) (hc2 : ClV d3 u2) (ht : TyV X.K M d1 t) (hk : PySem.W.kitAny X.K t [u1, u2] = some bb) (h : P (.bl bb) M) (hg : Gl X "isinstance" := by rfl)
    (hs : starEach [a, b] X.env = (false, eval a X.env) :: starEach [b] X.env := by rfl) (hs2 : starEach [b] X.env = (false, eval b X.env) :: starEach [] X.env := by rfl) (hpl : (backTo pos (starEach [b] X.env)).any (·.1) = false := by rfl) : aE X (.Call (.Name "isinstance" p1) [a, b] [] pos) Γ M P :=
  ae_callB call_isiQ hm (by decide +kernel) (aa_cons (ha.val (aa_cons (hb.val (aa_nil fun Hi H vs ok r Q q => by
    have kc : ∀ {d : Val} {u : Value} {v : V}, ClV d u → Rep X.K Hi d v → ClsV v u := fun {d u v} hc r => by
      cases hc with
      | ty n => cases r; exact .ty n
      | own C => cases r; exact .own C
    cases r with
    | cons r1 r2 =>
      cases r2 with
      | cons r2 r3 =>
        cases r3
        cases r2 with
        | @tup p ys _ hq ra =>
          cases ra with
          | cons q1 ra =>
            cases ra with
            | cons q2 ra =>
              cases ra
              exact ⟨_, p, _, t, _, bb, rfl, sameT ok.im hq, .cons (kc hc q1) (.cons (kc hc2 q2) .nil), ht.tyx ok r1, hk, q _ _ _ Hi H h (Same.refl _) ok (.bl _)⟩)) hs2)) hs) hg (he := hs) (hpl := hpl)
end
end Ab
/-! Ab103: sequences of ints: tuples, frozen lists, cells -/
namespace Ab
open PySem PySem.Spec PyProof.Rows L2
inductive Sv (M : Mem) : Val → List Int → Prop
  | t {ns : List Int} : Sv M (.tup (ns.map .int)) ns
  | l {ns : List Int} : Sv M (.lst (ns.map .int)) ns
  | c (n : Nat) {p : Addr} {ns : List Int} : M[n]? = some (p, .lst (ns.map .int)) → Sv M (.ptr p) ns
theorem Sv.sq {M : Mem} {d : Val} {ns : List Int} (h : Sv M d ns) : Sq M d (ns.map .int) := by
  cases h with
  | t => exact .t
  | l => exact .l (.self _)
  | c n h => exact .l (.lst n h)
theorem Sv.ix {M : Mem} {d : Val} {ns : List Int} {i : Int} (h : Sv M d ns) (h0 : 0 ≤ i) (h1 : i < ns.length) : IxIs M d i (.int (at0 ns i)) := by
  cases h with
  | t => exact .iT h0 h1
  | l => exact .iL h0 h1
  | c n h => exact .ci n h h0 h1
section
variable {X : Cx} {Γ : Gam} {M : Mem} {a b : Expr} {d : Val} {ns : List Int} {pos p1 : Pos}
theorem av_lenSv (hm : X.mg "len" = none) (ha : aV X a Γ M d) (h : Sv M d ns) (hg : Gl X "len" := by rfl) (hst : starEach [a] X.env = [(false, eval a X.env)] := by rfl) : aV X (.Call (.Name "len" p1) [a] [] pos) Γ M (.int (ns.length : Int)) := by
  have := av_len (pos := pos) (p1 := p1) hm ha h.sq hg hst
  rw [List.length_map] at this
  exact this
theorem av_lenSvN {n : Nat} (hm : X.mg "len" = none) (ha : aV X a Γ M d) (h : Sv M d ns) (e : ns.length = n) (hg : Gl X "len" := by rfl) (hst : starEach [a] X.env = [(false, eval a X.env)] := by rfl) : aV X (.Call (.Name "len" p1) [a] [] pos) Γ M (.int (n : Int)) := by
  subst e
  exact av_lenSv hm ha h hg hst
theorem av_tupSv (hm : X.mg "tuple" = none) (ha : aV X a Γ M d) (h : Sv M d ns) (hg : Gl X "tuple" := by rfl) (hst : starEach [a] X.env = [(false, eval a X.env)] := by rfl) : aV X (.Call (.Name "tuple" p1) [a] [] pos) Γ M (.tup (ns.map .int)) := av_tuple hm ha h.sq hg hst
theorem av_ixSv {i : Int} (ha : aV X a Γ M d) (hb : aV X b Γ M (.int i)) (h : Sv M d ns) (h0 : 0 ≤ i) (h1 : i < ns.length) (hs : PlainIx b := by exact fun _ _ => rfl) : aV X (.Subscript a b pos) Γ M (.int (at0 ns i)) := av_ix ha hb (h.ix h0 h1) hs
theorem ai_G {tg iter : Expr} {n : Nat} {it : Nat → Val} {G G' : Mem → Prop} {R : Mem → Prop} (h : aI X tg iter Γ M n it G R) (hg : ∀ M, G' M → G M) : aI X tg iter Γ M n it G' R := fun Hi H σ ok en R' q =>
  h Hi H σ ok en R' fun J M1 Hi1 H1 h1 s1 ok1 w => q J M1 Hi1 H1 h1 s1 ok1 (w.mono (fun H' ⟨Hi', M', a, b, c⟩ => ⟨Hi', M', a, b, hg M' c⟩) fun i H' v H'' _ _ hy Hi' M' a b c => hy Hi' M' a b (hg M' c))
/-- enumerate(xs) -/
theorem ai_enumS {elts : List Expr} {kk : Nat} {tpos : Pos} {R : Mem → Prop} (hm : X.mg "enumerate" = none) (ha : aE X a Γ M fun x M' => x = d ∧ M' = M) (h : Sv M d ns) (hR : R M) (hg : Gl X "enumerate" := by rfl) (hs : starEach [a] X.env = [(false, eval a X.env)] := by rfl) :
    aI X (.Tuple elts kk tpos) (.Call (.Name "enumerate" p1) [a] [] pos) Γ M (ns.map Val.int).length (fun i => .tup [.int i, (ns.map Val.int).getD i .non]) (fun M' => M' = M) R := by
  cases h with
  | t => exact ai_G (ai_enumT hm (ha.mono fun x M' ⟨e1, e2⟩ => ⟨e1, e2 ▸ hR⟩) hg hs) fun _ _ => trivial
  | l => exact ai_G (ai_enumL hm (ha.mono fun x M' ⟨e1, e2⟩ => ⟨e1, e2 ▸ hR⟩) hg hs) fun _ _ => trivial
  | c n h => exact ai_G (ai_enumC (n := n) hm (ha.mono fun x M' ⟨e1, e2⟩ => ⟨e1, e2 ▸ h, e2 ▸ hR⟩) hg hs) fun _ e => e ▸ h
/-- isinstance(xs, (list, tuple)) -/
theorem ae_isiS {P : Val → Mem → Prop} (hm : X.mg "isinstance" = none) (ha : aV X a Γ M d) (hb : aV X b Γ M (.tup [.ty "list", .ty "tuple"])) (h : Sv M d ns) (hP : P (.bl true) M) (hg : Gl X "isinstance" := by rfl)
    (hs : starEach [a, b] X.env = (false, eval a X.env) :: starEach [b] X.env := by rfl) (hs2 : starEach [b] X.env = (false, eval b X.env) :: starEach [] X.env := by rfl) (hpl : (backTo pos (starEach [b] X.env)).any (·.1) = false := by rfl) : aE X (.Call (.Name "isinstance" p1) [a, b] [] pos) Γ M P := by
  have k1 : ∀ K : PySem.W.Frag, PySem.W.kitAny K (.type "list") [.type "list", .type "tuple"] = some true := fun K => by
    unfold PySem.W.kitAny
    rw [show PySem.W.kitOne K (.type "list") (.type "list") = some true from if_pos (by simp)]
  have k2 : ∀ K : PySem.W.Frag, PySem.W.kitAny K (.type "tuple") [.type "list", .type "tuple"] = some true := fun K => by
    unfold PySem.W.kitAny
    rw [show PySem.W.kitOne K (.type "tuple") (.type "list") = some false by kernel_rfl]
    unfold PySem.W.kitAny
    rw [show PySem.W.kitOne K (.type "tuple") (.type "tuple") = some true from if_pos (by simp)]
  cases h with
  | t => exact ae_isi2 hm ha hb (.ty "list") (.ty "tuple") (.tup _) (k2 _) hP hg hs hs2 hpl
  | l => exact ae_isi2 hm ha hb (.ty "list") (.ty "tuple") (.lst (.self _)) (k1 _) hP hg hs hs2 hpl
  | c n h => exact ae_isi2 hm ha hb (.ty "list") (.ty "tuple") (.lst (.lst n h)) (k1 _) hP hg hs hs2 hpl
end
end Ab
/-! Ab74: try with several clauses `except C as n` -/
namespace Ab
open PySem PySem.Spec PyProof.Rows L2
/-- a clause: its class, the slot of its name, its suite -/
structure Cls3 where
  c : Value
  i : Nat
  suite : List Stmt
abbrev TSx := Addr → Addr → Option Addr → TS
inductive HdsV (X : Cx) : List ExceptHandler → List (Cls3 × TSx) → Prop
  | nil : HdsV X [] []
  | cons {x n : Str} {c : Cls3} {ts : TSx} {b0 : Stmt} {suite : List Stmt} {np pos' : Pos} {hds : List ExceptHandler} {l : List (Cls3 × TSx)} (hc : Names X x c.c) (hi : X.N[c.i]? = some n) (hln : X.env.kindOf n = some .local)
      (hsu : ∀ (a C : Addr) (d : Option Addr) (pn : List (Addr × Obj)), PSs (X.suite a pn) (b0 :: suite) (ts a C d)) (r : HdsV X hds l) :
      HdsV X (.ExceptHandler (some (.Name x np)) (some n) (b0 :: suite) pos' :: hds) ((c, ts) :: l)
/-! ### the same over values -/
inductive HdsW (X : Cx) : List ExceptHandler → List Cls3 → Prop
  | nil : HdsW X [] []
  | cons {x n : Str} {c : Value} {i : Nat} {b0 : Stmt} {suite : List Stmt} {np pos' : Pos} {hds : List ExceptHandler} {l : List Cls3} (hc : Names X x c) (hi : X.N[i]? = some n) (hln : X.env.kindOf n = some .local) (r : HdsW X hds l) :
      HdsW X (.ExceptHandler (some (.Name x np)) (some n) (b0 :: suite) pos' :: hds) (⟨c, i, b0 :: suite⟩ :: l)
abbrev tsV (X : Cx) (c : Cls3) : TSx := fun a C d D1 σ1 H1 => ∀ pn, WB (X.suite a pn) c.suite D1 σ1 H1
theorem HdsW.v {X : Cx} {hds : List ExceptHandler} {l : List Cls3} (h : HdsW X hds l) : HdsV X hds (l.map fun c => (c, tsV X c)) := by
  induction h with
  | nil => exact .nil
  | cons hc hi hln r ih => exact .cons hc hi hln (fun a C d pn => ⟨fun pins s σ1 H1 D1 I1 h1 => pss_wb.run pins s σ1 H1 D1 I1 (h1 pn)⟩) ih
end Ab
/-! Ab75: x(*y, k=e) where x is a local name that holds a class; t * 1; tuple(range(a, b)); a def that may raise but does not -/
namespace Ab
open PySem PySem.Spec PyProof.Rows L2
section
variable {P : Program} {w : World} {K : PySem.W.Frag} {mg : Str → Option Value} {base : Heap} {f : Addr}
theorem FnE.impL {k : Nat} {ks : List Str} {sx sx' : ASxe} (F : FnE P w K mg base k f ks (spE K sx)) (h : ∀ ds es M R PE, es.length = ks.length → sx' ds es M R PE → sx ds es M R PE) : FnE P w K mg base k f ks (spE K sx') :=
  ⟨fun A outer s H us ws vs zs Q E hr e0 r rz hz ⟨Hi, M, ds, es, R, PE, ra, re, ok, hs, q, qx⟩ => F.run A outer s H us ws vs zs Q E hr e0 r rz hz ⟨Hi, M, ds, es, R, PE, ra, re, ok, h _ _ _ _ _ (re.length.trans hz) hs, q, qx⟩⟩
theorem FnX.impL {k : Nat} {ks : List Str} {sx sx' : ASx} (F : FnX P w K mg base k f ks (spX K sx)) (h : ∀ ds es M R, es.length = ks.length → sx' ds es M R → sx ds es M R) : FnX P w K mg base k f ks (spX K sx') :=
  ⟨fun A outer s H us ws vs zs Q hr e0 r rz hz ⟨Hi, M, ds, es, R, ra, re, ok, hs, q⟩ => F.run A outer s H us ws vs zs Q hr e0 r rz hz ⟨Hi, M, ds, es, R, ra, re, ok, h _ _ _ _ (re.length.trans hz) hs, q⟩⟩
end
/-! ### t * 1 -/
end Ab
/-! Ab76: == and != of instances that stand in boxes; Name(*y, k=e); a box behind which new cells are left -/
namespace Ab
open PySem PySem.Spec PyProof.Rows L2
end Ab
/-! repr of great ints (up to 12900 binary digits), alone and within lists and tuples -/
namespace Ab
open PySem PySem.Spec PyProof.Rows L2 PySem.Builtin
section
variable {prog : Program} {w : World} {A : Around} {E : Value → Shared → Prop} {s : Shared} {h₀ : Heap}
def Tells (prog : Program) (w : World) (h₀ : Heap) (v : Value) (p : PyData) : Prop := ∃ bs, ReadAtMost h₀ p.depth bs ∧ ReprK prog w bs h₀ p.depth v p.shown
theorem Tells.of {v : Value} {p : PyData} (h : ReprK prog w [] h₀ p.depth v p.shown) : Tells prog w h₀ v p := ⟨[], (fun _ z => nomatch z), h⟩
end
/-! ### on values -/
end Ab
/-! a run that cannot wake the generators that slept when it began leaves them as they are -/
namespace Ab
open PySem PySem.Spec PyProof.Rows L2 GenW
/-- what stands at a place of the two tables: in the run whose sleepers cannot be woken, in the run itself -/
inductive Tw : GenState → GenState → Prop
  | same {x : GenState} (h : ∀ k l c p fs cl, x = .suspended k l c p fs cl → splitAtGen fs = none) : Tw x x
  | slept {k : Resume → Sem PySem.Fin} {l : List Value} {c : Code} {p : Pos} {fs : List Frame} {cl : Bool} : Tw (.suspended (fun _ => .unsupported "slept") l c p fs cl) (.suspended k l c p fs cl)
def GTw (a b : Array GenState) : Prop := a.size = b.size ∧ ∀ (i : Nat) x y, a[i]? = some x → b[i]? = some y → Tw x y
def Sl (x : GenState) : Prop := ∃ l c p fs cl, x = .suspended (fun _ => .unsupported "slept") l c p fs cl
def Stay (a b a' b' : Array GenState) : Prop := ∀ (i : Nat) x, a[i]? = some x → Sl x → a'[i]? = some x ∧ b'[i]? = b[i]?
def EndOk : End → Prop
  | .ret _ => True
  | .susp _ _ _ _ _ _ fs => splitAtGen fs = none
theorem Stay.refl (a b : Array GenState) : Stay a b a b := fun i x h _ => ⟨h, rfl⟩
theorem Stay.trans {a b a1 b1 a2 b2 : Array GenState} (h : Stay a b a1 b1) (h2 : Stay a1 b1 a2 b2) : Stay a b a2 b2 := fun i x e z => by
  obtain ⟨e1, e2⟩ := h i x e z
  obtain ⟨e3, e4⟩ := h2 i x e1 z
  exact ⟨e3, e4.trans e2⟩
theorem Tw.seen {x y : GenState} (h : Tw x y) : x.seen = y.seen := by
  cases h with
  | same => rfl
  | slept => rfl
theorem Tw.bare {x y : GenState} (h : Tw x y) : x.bare = y.bare := by
  cases h with
  | same => rfl
  | slept => rfl
theorem GTw.get {a b : Array GenState} (h : GTw a b) {i : Nat} {x : GenState} (e : a[i]? = some x) : ∃ y, b[i]? = some y ∧ Tw x y := by
  obtain ⟨hi, _⟩ := Array.getElem?_eq_some_iff.mp e
  have hi' : i < b.size := h.1 ▸ hi
  exact ⟨b[i], Array.getElem?_eq_getElem hi', h.2 i x _ e (Array.getElem?_eq_getElem hi')⟩
theorem GTw.set {a b : Array GenState} (h : GTw a b) (g : Nat) {x : GenState} (hx : ∀ k l c p fs cl, x = .suspended k l c p fs cl → splitAtGen fs = none) : GTw (a.setIfInBounds g x) (b.setIfInBounds g x) := by
  refine ⟨by rw [Array.size_setIfInBounds, Array.size_setIfInBounds]; exact h.1, fun i u v hu hv => ?_⟩
  rw [Array.getElem?_setIfInBounds] at hu hv
  by_cases e : g = i
  · subst e
    rw [if_pos rfl] at hu hv
    by_cases hl : g < a.size
    · rw [if_pos hl] at hu
      rw [if_pos (h.1 ▸ hl)] at hv
      cases hu
      cases hv
      exact .same hx
    · rw [if_neg hl] at hu
      cases hu
  · rw [if_neg e] at hu hv
    exact h.2 i u v hu hv
theorem GTw.push {a b : Array GenState} (h : GTw a b) (c : Code) : GTw (a.push (.fresh c)) (b.push (.fresh c)) := by
  refine ⟨by rw [Array.size_push, Array.size_push, h.1], fun i u v hu hv => ?_⟩
  rw [Array.getElem?_push] at hu hv
  by_cases e : i = a.size
  · rw [if_pos e] at hu
    rw [if_pos (e.trans h.1)] at hv
    cases hu
    cases hv
    exact .same fun _ _ _ _ _ _ z => nomatch z
  · rw [if_neg e] at hu
    rw [if_neg (fun z => e (z.trans h.1.symm))] at hv
    exact h.2 i u v hu hv
theorem stay_push {a b : Array GenState} (h : a.size = b.size) (c : Code) : Stay a b (a.push (.fresh c)) (b.push (.fresh c)) := fun i x e _ => by
  obtain ⟨hi, _⟩ := Array.getElem?_eq_some_iff.mp e
  rw [Array.getElem?_push, Array.getElem?_push, if_neg (Nat.ne_of_lt hi), if_neg (Nat.ne_of_lt (h ▸ hi))]
  exact ⟨e, rfl⟩
theorem stay_set {a b : Array GenState} {g : Nat} {x0 x : GenState} (e0 : a[g]? = some x0) (n : ¬ Sl x0) : Stay a b (a.setIfInBounds g x) (b.setIfInBounds g x) := fun i y e z => by
  have hne : g ≠ i := fun q => by
    subst q
    rw [e0] at e
    cases e
    exact n z
  rw [Array.getElem?_setIfInBounds, Array.getElem?_setIfInBounds, if_neg hne, if_neg hne]
  exact ⟨e, rfl⟩
/-- g is set behind a run that began with g in its hands -/
theorem stay_back {a b a1 b1 : Array GenState} {g : Nat} {x0 : GenState} (e0 : a[g]? = some x0) (n : ¬ Sl x0) (x y : GenState) (h : Stay (a.setIfInBounds g x) (b.setIfInBounds g x) a1 b1) : Stay a b (a1.setIfInBounds g y) (b1.setIfInBounds g y) := fun i z e s => by
  have hne : g ≠ i := fun q => by
    subst q
    rw [e0] at e
    cases e
    exact n s
  have h1 : (a.setIfInBounds g x)[i]? = some z := by rw [Array.getElem?_setIfInBounds, if_neg hne]; exact e
  obtain ⟨h2, h3⟩ := h i z h1 s
  rw [Array.getElem?_setIfInBounds, if_neg hne] at h3
  rw [Array.getElem?_setIfInBounds, Array.getElem?_setIfInBounds, if_neg hne, if_neg hne]
  exact ⟨h2, h3⟩
theorem split_app : ∀ {a b : List Frame}, splitAtGen a = none → splitAtGen b = none → splitAtGen (a ++ b) = none
  | [], b, _, h => h
  | f :: a, b, h1, h2 => by
    cases f with
    | gen => simp [splitAtGen] at h1
    | ret =>
      unfold splitAtGen at h1 ⊢
      have h3 : splitAtGen a = none := by simpa using h1
      show (splitAtGen (a ++ b)).map _ = none
      rw [split_app h3 h2]
      rfl
theorem split_cons {f : Frame} {a : List Frame} (h : splitAtGen (f :: a) = none) : splitAtGen a = none := by
  cases f with
  | gen => simp [splitAtGen] at h
  | ret =>
    unfold splitAtGen at h
    simpa using h
theorem uns0 {M : Model} {Γ : PySem.Ctx} {p : Pos} {w : String} {s s' : Shared} {e : End} (h : Runs M Γ p (.unsupported w) [] s e s') : False := by
  cases h
theorem uns {M : Model} {Γ : PySem.Ctx} {p : Pos} {w : String} {fs : List Frame} {s s' : Shared} {e : End} (h : Runs M Γ p (.unsupported w) fs s e s') : False := by
  cases h with
  | segRet h1 _ => exact uns0 h1
  | segGen h1 _ => exact uns0 h1
  | segSuspOut _ h1 => exact uns0 h1
  | segSuspGen _ h1 _ _ => exact uns0 h1
theorem not_sl_fresh {c : Code} : ¬ Sl (.fresh c) := fun ⟨_, _, _, _, _, e⟩ => nomatch e
theorem endOk_gs {e : End} (h : EndOk e) : ∀ k l c p fs cl, e.genState = .suspended k l c p fs cl → splitAtGen fs = none := fun k l c p fs cl q => by
  cases e with
  | ret r => cases q
  | susp v g l0 k0 c0 p0 fs0 =>
    cases q
    exact h
/-- the run itself, from the run whose sleepers cannot be woken -/
theorem runs_tw {M : Model} {Γ : PySem.Ctx} {p : Pos} {t : Sem PySem.Fin} {fs : List Frame} {s s' : Shared} {e : End} (h : Runs M Γ p t fs s e s') : splitAtGen fs = none → ∀ G, GTw s.gens G →
    ∃ G', Runs M Γ p t fs { s with gens := G } e { s' with gens := G' } ∧ GTw s'.gens G' ∧ Stay s.gens G s'.gens G' ∧ EndOk e := by
  induction h with
  | done => exact fun _ G hG => ⟨G, .done, hG, .refl _ _, trivial⟩
  | raise => exact fun _ G hG => ⟨G, .raise, hG, .refl _ _, trivial⟩
  | again hq _ ih => exact fun hf G hG => let ⟨G', r, h⟩ := ih hf G hG; ⟨G', .again hq r, h⟩
  | rule _ ih => exact fun hf G hG => let ⟨G', r, h⟩ := ih hf G hG; ⟨G', .rule r, h⟩
  | «at» _ ih => exact fun hf G hG => let ⟨G', r, h⟩ := ih hf G hG; ⟨G', .at r, h⟩
  | load ho _ ih => exact fun hf G hG => let ⟨G', r, h⟩ := ih hf G hG; ⟨G', .load ho r, h⟩
  | update ho _ ih => exact fun hf G hG => let ⟨G', r, h⟩ := ih hf G hG; ⟨G', .update ho r, h⟩
  | loadIfAlive _ ih => exact fun hf G hG => let ⟨G', r, h⟩ := ih hf G hG; ⟨G', .loadIfAlive r, h⟩
  | point _ ih => exact fun hf G hG => let ⟨G', r, h⟩ := ih hf G hG; ⟨G', .point r, h⟩
  | alloc _ ih => exact fun hf G hG => let ⟨G', r, h⟩ := ih hf G hG; ⟨G', .alloc r, h⟩
  | fresh _ ih => exact fun hf G hG => let ⟨G', r, h⟩ := ih hf G hG; ⟨G', .fresh r, h⟩
  | ask _ ih => exact fun hf G hG => let ⟨G', r, h⟩ := ih hf G hG; ⟨G', .ask r, h⟩
  | choose hn _ ih => exact fun hf G hG => let ⟨G', r, h⟩ := ih hf G hG; ⟨G', .choose hn r, h⟩
  | os _ ih => exact fun hf G hG => let ⟨G', r, h⟩ := ih hf G hG; ⟨G', .os r, h⟩
  | handled _ ih => exact fun hf G hG => let ⟨G', r, h⟩ := ih hf G hG; ⟨G', .handled r, h⟩
  | genState hs _ ih =>
    intro hf G hG
    obtain ⟨y, hy, tw⟩ := hG.get hs
    obtain ⟨G', r, h⟩ := ih hf G hG
    exact ⟨G', .genState hy (tw.seen ▸ r), h⟩
  | stack _ ih => exact fun hf G hG => let ⟨G', r, h⟩ := ih hf G hG; ⟨G', .stack r, h⟩
  | thread _ ih => exact fun hf G hG => let ⟨G', r, h⟩ := ih hf G hG; ⟨G', .thread r, h⟩
  | @newGen Γ p k s e s' c _ ih =>
    intro hf G hG
    obtain ⟨G', r, h1, h2, h3⟩ := ih hf (G.push (.fresh c)) (hG.push c)
    refine ⟨G', .newGen ?_, h1, (stay_push hG.1 c).trans h2, h3⟩
    rw [show ({ s with gens := G } : Shared).gens.size = s.gens.size from hG.1.symm]
    exact r
  | call _ _ ih1 ih2 =>
    intro hf G hG
    obtain ⟨G1, r1, h1, h2, _⟩ := ih1 rfl G hG
    obtain ⟨G2, r2, h3, h4, h5⟩ := ih2 hf G1 h1
    exact ⟨G2, .call r1 r2, h3, h2.trans h4, h5⟩
  | callSusp _ ih =>
    intro hf G hG
    obtain ⟨G1, r1, h1, h2, h3⟩ := ih rfl G hG
    exact ⟨G1, .callSusp r1, h1, h2, split_app h3 rfl⟩
  | yield => exact fun _ G hG => ⟨G, .yield, hG, .refl _ _, rfl⟩
  | @resumeFresh Γ p g l k s c e₁ s₁ e s' hs _ hq _ ih1 ih2 =>
    intro hf G hG
    obtain ⟨y, hy, tw⟩ := hG.get hs
    have ey : y = .fresh c := by cases tw; rfl
    subst ey
    obtain ⟨G1, r1, h1, h2, h3⟩ := ih1 rfl _ (hG.set g (x := .running) fun _ _ _ _ _ _ z => nomatch z)
    obtain ⟨G2, r2, h4, h5, h6⟩ := ih2 hf _ (h1.set g (endOk_gs h3))
    exact ⟨G2, .resumeFresh hy r1 hq r2, h4, (stay_back hs not_sl_fresh _ _ h2).trans h5, h6⟩
  | @resumeSuspended Γ p g r l k s k₀ l₀ c₀ p₀ fs cl e₁ s₁ e s' hs hr hq _ ih1 ih2 =>
    intro hf G hG
    obtain ⟨y, hy, tw⟩ := hG.get hs
    cases tw with
    | slept => exact (uns hr).elim
    | same hx =>
      have nsl : ¬ Sl (.suspended k₀ l₀ c₀ p₀ fs cl) := fun ⟨l', c', p', fs', cl', z⟩ => by
        cases z
        exact uns hr
      obtain ⟨G1, r1, h1, h2, h3⟩ := ih1 (hx _ _ _ _ _ _ rfl) _ (hG.set g (x := .running) fun _ _ _ _ _ _ z => nomatch z)
      obtain ⟨G2, r2, h4, h5, h6⟩ := ih2 hf _ (h1.set g (endOk_gs h3))
      exact ⟨G2, .resumeSuspended hy r1 hq r2, h4, (stay_back hs nsl _ _ h2).trans h5, h6⟩
  | @resumeJustStarted g v Γ p k s e s' l c hs hv _ ih =>
    intro hf G hG
    obtain ⟨y, hy, tw⟩ := hG.get hs
    have ey : y = .fresh c := by cases tw; rfl
    subst ey
    obtain ⟨G', r, h⟩ := ih hf G hG
    exact ⟨G', .resumeJustStarted hy hv r, h⟩
  | @resumeThrowFresh g Γ p k e s' x l s c hs _ ih =>
    intro hf G hG
    obtain ⟨y, hy, tw⟩ := hG.get hs
    have ey : y = .fresh c := by cases tw; rfl
    subst ey
    obtain ⟨G', r, h1, h2, h3⟩ := ih hf _ (hG.set g (x := .finished) fun _ _ _ _ _ _ z => nomatch z)
    exact ⟨G', .resumeThrowFresh hy r, h1, (stay_set hs not_sl_fresh).trans h2, h3⟩
  | resumeRunning hs _ ih =>
    intro hf G hG
    obtain ⟨y, hy, tw⟩ := hG.get hs
    have ey : y = .running := by cases tw; rfl
    subst ey
    obtain ⟨G', r, h⟩ := ih hf G hG
    exact ⟨G', .resumeRunning hy r, h⟩
  | resumeFinished hs _ ih =>
    intro hf G hG
    obtain ⟨y, hy, tw⟩ := hG.get hs
    have ey : y = .finished := by cases tw; rfl
    subst ey
    obtain ⟨G', r, h⟩ := ih hf G hG
    exact ⟨G', .resumeFinished hy r, h⟩
  | segRet _ _ ih1 ih2 =>
    intro hf G hG
    obtain ⟨G1, r1, h1, h2, _⟩ := ih1 rfl G hG
    obtain ⟨G2, r2, h3, h4, h5⟩ := ih2 (split_cons hf) G1 h1
    exact ⟨G2, .segRet r1 r2, h3, h2.trans h4, h5⟩
  | segGen _ _ _ _ => exact fun hf _ _ => by simp [splitAtGen] at hf
  | segSuspGen hn _ _ _ _ _ => exact fun hf _ _ => by rw [hf] at hn; cases hn
  | segSuspOut hn _ ih =>
    intro hf G hG
    obtain ⟨G1, r1, h1, h2, h3⟩ := ih rfl G hG
    exact ⟨G1, .segSuspOut hn r1, h1, h2, split_app h3 hn⟩
theorem wakes_tw {M : Model} {Γ : PySem.Ctx} {p : Pos} {g : Nat} {r : Resume} {s s' : Shared} {res : GenResult} (h : Wakes M Γ p g r s res s') {G : Array GenState} (hG : GTw s.gens G) :
    ∃ G', Wakes M Γ p g r { s with gens := G } res { s' with gens := G' } ∧ GTw s'.gens G' ∧ Stay s.gens G s'.gens G' := by
  unfold Wakes at h
  split at h
  · exact h.elim
  · rename_i c hs
    obtain ⟨y, hy, tw⟩ := hG.get hs
    have ey : y = .fresh c := by cases tw; rfl
    subst ey
    cases r with
    | throw x =>
      obtain ⟨hres, rfl⟩ := h
      refine ⟨G.setIfInBounds g .finished, ?_, hG.set g (x := .finished) (fun _ _ _ _ _ _ z => nomatch z), stay_set hs not_sl_fresh⟩
      unfold Wakes
      rw [show ({ s with gens := G } : Shared).gens[g]? = _ from hy]
      exact ⟨hres, rfl⟩
    | send v =>
      by_cases hv : v = .none
      · subst hv
        obtain ⟨e₁, s₁, hr, hq, hres, rfl⟩ := h
        obtain ⟨G1, r1, h1, h2, h3⟩ := runs_tw hr rfl _ (hG.set g (x := .running) fun _ _ _ _ _ _ z => nomatch z)
        refine ⟨G1.setIfInBounds g e₁.genState, ?_, h1.set g (endOk_gs h3), stay_back hs not_sl_fresh _ _ h2⟩
        unfold Wakes
        rw [show ({ s with gens := G } : Shared).gens[g]? = _ from hy]
        exact ⟨e₁, _, r1, hq, hres, rfl⟩
      · have h' : res = .justStarted ∧ s' = s := by
          cases v with
          | none => exact absurd rfl hv
          | _ => exact h
        obtain ⟨hres, rfl⟩ := h'
        refine ⟨G, ?_, hG, .refl _ _⟩
        unfold Wakes
        rw [show ({ s' with gens := G } : Shared).gens[g]? = _ from hy]
        cases v with
        | none => exact absurd rfl hv
        | _ => exact ⟨hres, rfl⟩
  · rename_i k₀ l₀ c₀ p₀ fs cl hs
    obtain ⟨y, hy, tw⟩ := hG.get hs
    obtain ⟨e₁, s₁, hr, hq, hres, rfl⟩ := h
    cases tw with
    | slept => exact (uns hr).elim
    | same hx =>
      have nsl : ¬ Sl (.suspended k₀ l₀ c₀ p₀ fs cl) := fun ⟨l', c', p', fs', cl', z⟩ => by
        cases z
        exact uns hr
      obtain ⟨G1, r1, h1, h2, h3⟩ := runs_tw hr (hx _ _ _ _ _ _ rfl) _ (hG.set g (x := .running) fun _ _ _ _ _ _ z => nomatch z)
      refine ⟨G1.setIfInBounds g e₁.genState, ?_, h1.set g (endOk_gs h3), stay_back hs nsl _ _ h2⟩
      unfold Wakes
      rw [show ({ s with gens := G } : Shared).gens[g]? = _ from hy]
      exact ⟨e₁, _, r1, hq, hres, rfl⟩
  · rename_i hs
    obtain ⟨y, hy, tw⟩ := hG.get hs
    have ey : y = .running := by cases tw; rfl
    subst ey
    obtain ⟨hres, rfl⟩ := h
    refine ⟨G, ?_, hG, .refl _ _⟩
    unfold Wakes
    rw [show ({ s' with gens := G } : Shared).gens[g]? = _ from hy]
    exact ⟨hres, rfl⟩
  · rename_i hs
    obtain ⟨y, hy, tw⟩ := hG.get hs
    have ey : y = .finished := by cases tw; rfl
    subst ey
    obtain ⟨hres, rfl⟩ := h
    refine ⟨G, ?_, hG, .refl _ _⟩
    unfold Wakes
    rw [show ({ s' with gens := G } : Shared).gens[g]? = _ from hy]
    exact ⟨hres, rfl⟩
/-- .. and wp -/
theorem wp_tw {α : Type} (M : Model) (Γ : PySem.Ctx) (a0 b0 : Array GenState) (t : Sem α) : ∀ (Q : α → Pos → Shared → Prop) (E : Value → Pos → Shared → Prop) (p : Pos) (s : Shared) (G : Array GenState), GTw s.gens G → Stay a0 b0 s.gens G → Sem.wp M Γ t Q E p s →
    Sem.wp M Γ t (fun a p' s' => ∃ g', Q a p' { s' with gens := g' } ∧ GTw g' s'.gens ∧ Stay a0 b0 g' s'.gens) (fun a p' s' => ∃ g', E a p' { s' with gens := g' } ∧ GTw g' s'.gens ∧ Stay a0 b0 g' s'.gens) p { s with gens := G } := by
  induction t with
  | pure a => intro Q E p s G hG hS h; exact ⟨s.gens, h, hG, hS⟩
  | raise e => intro Q E p s G hG hS h; exact ⟨s.gens, h, hG, hS⟩
  | unsupported _ => intro Q E p s G _ _ h; exact h
  | finish _ => intro Q E p s G _ _ h; exact h
  | rule _ k ih => intro Q E p s G hG hS h; exact ih () Q E p s G hG hS h
  | «at» p' k ih => intro Q E p s G hG hS h; exact ih () Q E p' s G hG hS h
  | load a _ k ih => intro Q E p s G hG hS h; obtain ⟨o, ho, h⟩ := h; exact ⟨o, ho, ih o Q E p s G hG hS h⟩
  | update a _ f k ih => intro Q E p s G hG hS h; exact ⟨h.1, ih () Q E p { s with heap := s.heap.update a f } G hG hS h.2⟩
  | loadIfAlive a k ih => intro Q E p s G hG hS h; exact ih _ Q E p s G hG hS h
  | point _ k ih => intro Q E p s G hG hS h; exact ih () Q E p s G hG hS h
  | register _ _ => intro Q E p s G _ _ h; exact h
  | alloc o k ih => intro Q E p s G hG hS h; exact ih _ Q E p { s with heap := s.heap.push o } G hG hS h
  | fresh k ih => intro Q E p s G hG hS h; exact ih _ Q E p { s with toks := s.toks + 1 } G hG hS h
  | ask k ih => intro Q E p s G hG hS h; exact ih _ Q E p s G hG hS h
  | choose src m k ih => intro Q E p s G hG hS h; exact ⟨h.1, ih _ Q E p { s with drawn := s.drawn.bump src } G hG hS h.2⟩
  | os q _ k ih => intro Q E p s G hG hS h; exact ih _ Q E p { s with os := (Os.step s.os q).1 } G hG hS h
  | call c hd _ _ k ih =>
    intro Q E p s G hG hS h
    obtain ⟨r, s', hr, h⟩ := h
    obtain ⟨G', r1, h1, h2, _⟩ := runs_tw hr rfl G hG
    exact ⟨r, _, r1, ih r Q E p s' G' h1 (hS.trans h2) h⟩
  | handled own k ih => intro Q E p s G hG hS h; exact ih _ Q E p s G hG hS h
  | genState g k ih =>
    intro Q E p s G hG hS h
    obtain ⟨st, hs, h⟩ := h
    obtain ⟨y, hy, tw⟩ := hG.get hs
    exact ⟨y, hy, tw.seen ▸ ih _ Q E p s G hG hS h⟩
  | newGen c k ih =>
    intro Q E p s G hG hS h
    have := ih _ Q E p { s with gens := s.gens.push (.fresh c) } (G.push (.fresh c)) (hG.push c) (hS.trans (stay_push hG.1 c)) h
    show Sem.wp M Γ (k G.size) _ _ p { s with gens := G.push (.fresh c) }
    rw [← hG.1]
    exact this
  | resume g r _ k ih =>
    intro Q E p s G hG hS h
    obtain ⟨res, s', hw, h⟩ := h
    obtain ⟨G', w1, h1, h2⟩ := wakes_tw hw hG
    exact ⟨res, _, w1, ih res Q E p s' G' h1 (hS.trans h2) h⟩
  | yield _ _ _ _ => intro Q E p s G _ _ h; exact h
  | stack k ih => intro Q E p s G hG hS h; exact ih _ Q E p s G hG hS h
  | fork _ _ => intro Q E p s G _ _ h; exact h
  | thread k ih => intro Q E p s G hG hS h; exact ih _ Q E p s G hG hS h
  | await _ _ _ _ _ => intro Q E p s G _ _ h; exact h
def tw : GenState → GenState
  | .suspended _ l c p fs cl => .suspended (fun _ => .unsupported "slept") l c p fs cl
  | x => x
theorem tw_tw (x : GenState) : Tw (tw x) x := by
  cases x with
  | suspended => exact .slept
  | fresh => exact .same fun _ _ _ _ _ _ z => nomatch z
  | running => exact .same fun _ _ _ _ _ _ z => nomatch z
  | finished => exact .same fun _ _ _ _ _ _ z => nomatch z
def twA (G : Array GenState) : Array GenState := G.map tw
theorem gtw_map (G : Array GenState) : GTw (twA G) G := by
  refine ⟨by unfold twA; rw [Array.size_map], fun i x y hx hy => ?_⟩
  unfold twA at hx
  rw [Array.getElem?_map, hy] at hx
  cases hx
  exact tw_tw y
theorem bare_l {a b : Array GenState} (h : GTw a b) (hb : AllBare b) : AllBare a := fun x hx => by
  obtain ⟨i, hi, rfl⟩ := Array.mem_iff_getElem.mp hx
  obtain ⟨y, hy, tw⟩ := h.get (Array.getElem?_eq_getElem hi)
  rw [tw.bare]
  exact hb y (Array.mem_of_getElem? hy)
theorem bare_r {a b : Array GenState} (h : GTw a b) (ha : AllBare a) : AllBare b := fun y hy => by
  obtain ⟨i, hi, rfl⟩ := Array.mem_iff_getElem.mp hy
  have hi' : i < a.size := h.1 ▸ hi
  have t := h.2 i _ _ (Array.getElem?_eq_getElem hi') (Array.getElem?_eq_getElem hi)
  rw [← t.bare]
  exact ha _ (Array.getElem_mem hi')
/-- THE FRAME: what holds of the run whose sleepers cannot be woken holds of the run itself, and the sleepers are as they were -/
theorem wpAny_slept {α : Type} {M : Model} {A : Around} {t : Sem α} {Q : α → Shared → Prop} {E : Value → Shared → Prop} {s : Shared} (h : wpAny M A t Q E { s with gens := twA s.gens }) :
    wpAny M A t (fun a s' => ∃ g', Q a { s' with gens := g' } ∧ GTw g' s'.gens ∧ ∀ (i : Nat) k l c p fs cl, s.gens[i]? = some (.suspended k l c p fs cl) → s'.gens[i]? = some (.suspended k l c p fs cl))
      (fun a s' => ∃ g', E a { s' with gens := g' } ∧ GTw g' s'.gens ∧ ∀ (i : Nat) k l c p fs cl, s.gens[i]? = some (.suspended k l c p fs cl) → s'.gens[i]? = some (.suspended k l c p fs cl)) s := by
  have fin : ∀ {g' b : Array GenState}, Stay (twA s.gens) s.gens g' b → ∀ (i : Nat) k l c p fs cl, s.gens[i]? = some (.suspended k l c p fs cl) → b[i]? = some (.suspended k l c p fs cl) := fun {g' b} hs i k l c p fs cl e => by
    have e1 : (twA s.gens)[i]? = some (tw (.suspended k l c p fs cl)) := by
      unfold twA
      rw [Array.getElem?_map, e]
      rfl
    rw [(hs i _ e1 ⟨l, c, p, fs, cl, rfl⟩).2]
    exact e
  intro Γ p hΓ
  refine Sem.wp_mono M Γ t ?_ ?_ p s (wp_tw M Γ (twA s.gens) s.gens t _ _ p { s with gens := twA s.gens } s.gens (gtw_map _) (.refl _ _) (h Γ p hΓ))
  · rintro a p' s' ⟨g', h1, h2, h3⟩
    exact ⟨g', h1, h2, fin h3⟩
  · rintro a p' s' ⟨g', h1, h2, h3⟩
    exact ⟨g', h1, h2, fin h3⟩
end Ab
/-! generators: the heap cut, objects that stand by while one sleeps -/
namespace Ab
open PySem PySem.Spec PyProof.Rows L2 GenW
/-- the first B objects -/
def cutH (B : Nat) (h : Heap) : Heap := ⟨(h.objs.toList.take B).toArray, h.life⟩
theorem cut_get {B : Nat} {h : Heap} {b : Addr} (hb : b < B) : (cutH B h).get? b = h.get? b := by
  unfold cutH Heap.get?
  have e : ((h.objs.toList.take B).toArray)[b]? = h.objs[b]? := by
    rw [List.getElem?_toArray, List.getElem?_take, if_pos hb, Array.getElem?_toList]
  dsimp only
  rw [e]
theorem cutH_len {B : Nat} {h : Heap} : (cutH B h).objs.size = min B h.objs.size := by
  show ((h.objs.toList.take B).toArray).size = _
  rw [List.size_toArray, List.length_take, Array.length_toList]
theorem cut_some {B : Nat} {h : Heap} {b : Addr} {o : Obj} (e : (cutH B h).get? b = some o) : b < B ∧ h.get? b = some o := by
  by_cases hb : b < B
  · exact ⟨hb, (cut_get hb).symm.trans e⟩
  · exfalso
    have hs := Heap.lt_size e
    rw [cutH_len] at hs
    exact hb (Nat.lt_of_lt_of_le hs (Nat.min_le_left _ _))
theorem cut_size {B : Nat} {h : Heap} (hb : B ≤ h.objs.size) : (cutH B h).objs.size = B := by
  rw [cutH_len]
  omega
theorem cut_frames {B : Nat} {h base : Heap} : ∀ {l : List Env}, h.FunFrames base l → (∀ b ∈ frs l, b < B) → (cutH B h).FunFrames base l
  | [], _, _ => trivial
  | env :: r, ⟨hk, ⟨L, o, hf, hn, ho, hd⟩, hr⟩, hb => by
    have hm : frs (env :: r) = L :: frs r := by
      unfold frs
      rw [List.filterMap_cons, hf]
    refine ⟨hk, ⟨L, o, hf, hn, (cut_get (hb L (by rw [hm]; exact List.mem_cons_self))).trans ho, hd⟩, cut_frames hr fun b h => hb b (by rw [hm]; exact List.mem_cons_of_mem _ h)⟩
def cutS (B : Nat) (s : Shared) : Shared := { s with heap := cutH B s.heap }
/-! ### what stands by -/
abbrev Own := List (Addr × Obj)
def trk (ow : Own) (H : Hp) : Hp := fun b => match ow.lookup b with
  | some o => some (rawH b o)
  | none => H b
def unt (ow : Own) (H : Hp) : Hp := fun b => match ow.lookup b with
  | some _ => none
  | none => H b
section
variable {ow : Own} {H H' Hi Hi' : Hp} {b : Addr} {o : Obj} {x : HO}
theorem trk_in (h : ow.lookup b = some o) : trk ow H b = some (rawH b o) := by unfold trk; rw [h]
theorem trk_out (h : ow.lookup b = none) : trk ow H b = H b := by unfold trk; rw [h]
theorem unt_in (h : ow.lookup b = some o) : unt ow H b = none := by unfold unt; rw [h]
theorem unt_out (h : ow.lookup b = none) : unt ow H b = H b := by unfold unt; rw [h]
theorem look_mem : ∀ {ow : Own}, ow.lookup b = some o → (b, o) ∈ ow
  | (c, u) :: r, h => by
    rw [List.lookup_cons] at h
    cases q : b == c with
    | true =>
      rw [q] at h
      cases h
      rw [beq_iff_eq] at q
      subst q
      exact List.mem_cons_self
    | false =>
      rw [q] at h
      exact List.mem_cons_of_mem _ (look_mem h)
theorem look_none : ∀ {ow : Own}, (∀ p ∈ ow, p.1 ≠ b) → ow.lookup b = none
  | [], _ => rfl
  | (c, u) :: r, h => by
    rw [List.lookup_cons]
    have q : (b == c) = false := by
      rw [beq_eq_false_iff_ne]
      exact fun z => h (c, u) List.mem_cons_self z.symm
    rw [q]
    exact look_none fun p hp => h p (List.mem_cons_of_mem _ hp)
theorem look_some : ∀ {ow : Own}, b ∈ ow.map (·.1) → ∃ o, ow.lookup b = some o
  | (c, u) :: r, h => by
    rw [List.lookup_cons]
    cases q : b == c with
    | true => exact ⟨u, rfl⟩
    | false =>
      rcases List.mem_cons.mp h with e | e
      · have e : b = c := e
        rw [beq_eq_false_iff_ne] at q
        exact absurd e q
      · exact look_some e
theorem same_trk (h : ∀ p ∈ ow, H p.1 = none) : Same H (trk ow H) := fun b x e => by
  rw [trk_out (look_none fun p hp z => by subst z; rw [h p hp] at e; cases e)]
  exact e
theorem trk_mono (s : Same H H') : Same (trk ow H) (trk ow H') := fun b x e => by
  cases q : ow.lookup b with
  | none =>
    rw [trk_out q] at e ⊢
    exact s b x e
  | some o =>
    rw [trk_in q] at e ⊢
    exact e
/-- back from what grew over trk -/
theorem same_unt (h : ∀ p ∈ ow, H p.1 = none) (s : Same (trk ow H) H') : Same H (unt ow H') := fun b x e => by
  have q : ow.lookup b = none := look_none fun p hp z => by subst z; rw [h p hp] at e; cases e
  rw [unt_out q]
  exact s b x (by rw [trk_out q]; exact e)
theorem unt_none (p : Addr × Obj) (h : p ∈ ow) : unt ow H p.1 = none := by
  obtain ⟨o, e⟩ := look_some (List.mem_map.mpr ⟨p, h, rfl⟩)
  exact unt_in e
/-- a raw thing is no exception -/
theorem raw_exc {C : Addr} {d : Option Addr} {o : Obj} : rawH b o ≠ exH b C d := fun e => by
  unfold rawH exH at e
  have e1 := HO.ext.inj e
  let o1 : Obj := { cls := .ref C, dict := d, data := .fields #[], slots := #[] }
  let o2 : Obj := { cls := .ref C, dict := d, data := .fields #[.none], slots := #[] }
  have go : ∀ (u : Obj) (vs : Array Value), u.data = .fields vs → Zc (.ref C) d u → u = o := fun u vs hd hz => by
    have hp : ∃ h : Heap, h.get? b = some u := by
      refine ⟨⟨Array.replicate (b + 1) u, {}⟩, ?_⟩
      unfold Heap.get?
      simp only [Array.getElem?_replicate, Nat.lt_succ_self, if_true]
      obtain ⟨c, dd, dt, sl⟩ := u
      have hd : dt = .fields vs := hd
      subst hd
      rfl
    obtain ⟨h, hh⟩ := hp
    have := congrFun e1 h
    have h2 : h.get? b = some o := this.mpr ⟨u, vs, hh, hz, hd⟩
    rw [hh] at h2
    cases h2
    rfl
  have e2 := go o1 #[] rfl ⟨rfl, rfl⟩
  have e3 := go o2 #[.none] rfl ⟨rfl, rfl⟩
  have e4 : o1 = o2 := e2.trans e3.symm
  have e5 := congrArg Obj.data e4
  cases e5
/-- nor a code object -/
theorem raw_code {q : Str} {o : Obj} : rawH b o ≠ LamX.CodeO b q := fun e => by
  unfold rawH LamX.CodeO at e
  have e1 := HO.ext.inj e
  let o1 : Obj := { cls := .none, dict := none, data := .fields #[.none, .str q 0], slots := #[] }
  let o2 : Obj := { cls := .none, dict := none, data := .fields #[.none, .str q 1], slots := #[] }
  have go : ∀ (u : Obj) (vs : Array Value) (tk : Tok), u.data = .fields vs → vs[1]? = some (.str q tk) → u = o := fun u vs tk hd hz => by
    have hp : ∃ h : Heap, h.get? b = some u := by
      refine ⟨⟨Array.replicate (b + 1) u, {}⟩, ?_⟩
      unfold Heap.get?
      simp only [Array.getElem?_replicate, Nat.lt_succ_self, if_true]
      obtain ⟨c, dd, dt, sl⟩ := u
      have hd : dt = .fields vs := hd
      subst hd
      rfl
    obtain ⟨h, hh⟩ := hp
    have := congrFun e1 h
    have h2 : h.get? b = some o := this.mpr ⟨u, vs, tk, hh, hd, hz⟩
    rw [hh] at h2
    cases h2
    rfl
  have e2 := go o1 #[.none, .str q 0] 0 rfl rfl
  have e3 := go o2 #[.none, .str q 1] 1 rfl rfl
  have e4 : o1 = o2 := e2.trans e3.symm
  have e5 := congrArg Obj.data e4
  simp [o1, o2] at e5
theorem kp_unt (h : ∀ p ∈ ow, ∃ o, H p.1 = some (rawH p.1 o)) : Kp H (unt ow H) := fun b x e n => by
  cases q : ow.lookup b with
  | none =>
    rw [unt_out q]
    exact e
  | some o =>
    obtain ⟨o', e'⟩ := h (b, o) (look_mem q)
    have e' : H b = some (rawH b o') := e'
    rw [e] at e'
    cases e'
    exact absurd rfl (n o')
theorem Kp.sqL {K : PySem.W.Frag} {a : Addr} {xs : List V} (e : Kp H H') (h : SqL K H a xs) : SqL K H' a xs := by
  rcases h with (h | ⟨o, h⟩) | h
  · exact .inl (.inl (e _ _ h fun o z => by cases z))
  · exact .inl (.inr ⟨o, e _ _ h fun o z => by cases z⟩)
  · exact .inr h
theorem Kp.sqT {K : PySem.W.Frag} {a : Addr} {xs : List V} (e : Kp H H') (h : SqT K H a xs) : SqT K H' a xs := by
  rcases h with (h | ⟨o, h⟩) | h
  · exact .inl (.inl (e _ _ h fun o z => by cases z))
  · exact .inl (.inr ⟨o, e _ _ h fun o z => by cases z⟩)
  · exact .inr h
end
mutual
theorem Rep.kp {K : PySem.W.Frag} {H H' : Hp} (e : Kp H H') : ∀ {d : Val} {v : V}, Rep K H d v → Rep K H' d v
  | _, _, .non => .non
  | _, _, .bl b => .bl b
  | _, _, .int i => .int i
  | _, _, .str x => .str x
  | _, _, .ty n => .ty n
  | _, _, .ptr a => .ptr a
  | _, _, .lst h r => .lst (e.sqL h) (RepA.kp e r)
  | _, _, .tup h r => .tup (e.sqT h) (RepA.kp e r)
  | _, _, .obj h r => .obj (e _ _ h fun o z => by cases z) (RepF.kp e r)
  | _, _, .exc h d r => .exc (e _ _ h fun o z => raw_exc z.symm) (e _ _ d fun o z => by cases z) (RepF.kp e r)
  | _, _, .exc0 h => .exc0 (e _ _ h fun o z => raw_exc z.symm)
  | _, _, .lam h => .lam (h.trans e)
theorem RepA.kp {K : PySem.W.Frag} {H H' : Hp} (e : Kp H H') : ∀ {ds : List Val} {vs : List V}, RepA K H ds vs → RepA K H' ds vs
  | _, _, .nil => .nil
  | _, _, .cons a r => .cons (Rep.kp e a) (RepA.kp e r)
theorem RepF.kp {K : PySem.W.Frag} {H H' : Hp} (e : Kp H H') : ∀ {ds : List (Str × Val)} {vs : List (Str × V)}, RepF K H ds vs → RepF K H' ds vs
  | _, _, .nil => .nil
  | _, _, .cons a r => .cons (Rep.kp e a) (RepF.kp e r)
end
theorem RepK.kp {K : PySem.W.Frag} {H H' : Hp} (e : Kp H H') : ∀ {ds : List (Key × Val)} {vs : List (Key × V)}, RepK K H ds vs → RepK K H' ds vs
  | _, _, .nil => .nil
  | _, _, .cons a r => .cons (a.kp e) (RepK.kp e r)
theorem RepC.kp {K : PySem.W.Frag} {H H' : Hp} (e : Kp H H') : ∀ {c : Cell0} {o : HO}, RepC K H c o → RepC K H' c o
  | .lst _, _, ⟨xs, h, r⟩ => ⟨xs, h, r.kp e⟩
  | .dk _, _, ⟨kvs, h, r⟩ => ⟨kvs, h, r.kp e⟩
  | .ins _ _, _, ⟨dx, fs, h, r⟩ => ⟨dx, fs, h, r.kp e⟩
  | .fz _ _ _, _, ⟨h, r⟩ => ⟨h, r.kp e⟩
  | .tb _, _, ⟨ps, h, t, r⟩ => ⟨ps, h, t, fun pos cv hc => let ⟨c, h1, h2⟩ := r pos cv hc; ⟨c, h1, e _ _ h2 fun o z => raw_code z.symm⟩⟩
theorem EnvR.kp {K : PySem.W.Frag} {H H' : Hp} {Γ : Gam} {σ : L2.St} (e : Kp H H') (h : EnvR K H Γ σ) : EnvR K H' Γ σ := ⟨h.1, fun i d q => let ⟨v, h1, h2⟩ := h.2 i d q; ⟨v, h1, h2.kp e⟩⟩
section
variable {K : PySem.W.Frag} {ow : Own} {H H' Hi Hi' : Hp} {M : Mem} {F : Mem0} {b : Addr} {o : Obj} {x : HO} {P : Program} {w : World} {h : Heap}
theorem ok_trk (k : Ok K Hi M H) (n : ∀ p ∈ ow, H p.1 = none) : Ok K (trk ow Hi) M (trk ow H) := by
  have ni : ∀ p ∈ ow, Hi p.1 = none := fun p hp => k.none (n p hp)
  obtain ⟨F, f, k⟩ := k
  refine ⟨F, f, trk_mono k.im, fun a c hm => ?_, k.nd⟩
  obtain ⟨e0, o, e, r⟩ := k.ce a c hm
  have q : ow.lookup a = none := look_none fun p hp z => by subst z; rw [n p hp] at e; cases e
  exact ⟨by rw [trk_out q]; exact e0, o, by rw [trk_out q]; exact e, r.mono (same_trk ni)⟩
theorem ok_unt (k : Ok K Hi M H) (n : ∀ p ∈ ow, ∃ o, Hi p.1 = some (rawH p.1 o)) : Ok K (unt ow Hi) M (unt ow H) := by
  obtain ⟨F, f, k⟩ := k
  refine ⟨F, f, fun b x e => ?_, fun a c hm => ?_, k.nd⟩
  · cases q : ow.lookup b with
    | none =>
      rw [unt_out q] at e ⊢
      exact k.im b x e
    | some o =>
      rw [unt_in q] at e
      cases e
  · obtain ⟨e0, o, e, r⟩ := k.ce a c hm
    have q : ow.lookup a = none := look_none fun p hp z => by
      subst z
      obtain ⟨u, eu⟩ := n p hp
      rw [eu] at e0
      cases e0
    exact ⟨by rw [unt_out q]; exact e0, o, by rw [unt_out q]; exact e, r.kp (kp_unt n)⟩
theorem hok_trk (k : HOk P w H h) (n : ∀ p ∈ ow, H p.1 = none ∧ h.get? p.1 = some p.2) : HOk P w (trk ow H) h := fun b x e => by
  cases q : ow.lookup b with
  | some o =>
    rw [trk_in q] at e
    cases e
    obtain ⟨_, h2⟩ := n (b, o) (look_mem q)
    have h2 : h.get? b = some o := h2
    exact ⟨h2, ⟨o, h2⟩, fun h1 h3 e1 k => k o e1⟩
  | none =>
    rw [trk_out q] at e
    have s := same_trk (ow := ow) (H := H) fun p hp => (n p hp).1
    exact (k b x e).stay (fun _ _ _ z => z) (fun c z => s c _ z) fun c xs z => s c _ z
theorem hok_unt (k : HOk P w H h) (n : ∀ p ∈ ow, ∃ o, H p.1 = some (rawH p.1 o)) : HOk P w (unt ow H) h := fun b x e => by
  cases q : ow.lookup b with
  | some o =>
    rw [unt_in q] at e
    cases e
  | none =>
    rw [unt_out q] at e
    have s := kp_unt n
    exact (k b x e).stay (fun _ _ _ z => z) (fun c z => s c _ z fun o y => by cases y) fun c xs z => s c _ z fun o y => by cases y
theorem hok_raw (k : HOk P w H h) (e : H b = some (rawH b o)) : h.get? b = some o := (k b _ e).1
end
/-- what stands by is none of the consumer's -/
structure Aw (X : Cx) (pins : List (Addr × Obj)) (b : Addr) : Prop where
  s0 : X.s_0.heap.objs.size ≤ b
  loc : b ≠ X.env.locals
  cel : ∀ x c, X.env.cells.lookup x = some c → c ≠ b
  pin : ∀ p ∈ X.pn ++ pins, p.1 ≠ b
section
variable {X : Cx} {pins : List (Addr × Obj)} {σ : L2.St} {H : Hp} {s : Shared} {ow : Own}
theorem inv_trk (I : Inv X pins σ H s) (n : ∀ p ∈ ow, H p.1 = none ∧ s.heap.get? p.1 = some p.2) (a : ∀ p ∈ ow, Aw X pins p.1) : Inv X pins σ (trk ow H) s := by
  have st := same_trk (ow := ow) (H := H) fun p hp => (n p hp).1
  have out : ∀ b, H b = none → b ∉ ow.map (·.1) → trk ow H b = none := fun b e hb => by
    rw [trk_out (look_none fun p hp z => hb (List.mem_map.mpr ⟨p, hp, z⟩))]
    exact e
  have nin : ∀ {b}, (∀ p ∈ ow, p.1 ≠ b) → b ∉ ow.map (·.1) := fun hb hm => by
    obtain ⟨p, h1, h2⟩ := List.mem_map.mp hm
    exact hb p h1 h2
  refine ⟨I.ok, I.os, I.bare, ⟨I.base.keep, I.base.slot, fun b o e n' hx => ?_, I.base.there, fun b xs e => st _ _ (I.base.tups b xs e), fun b o u e => st _ _ (I.base.frzs b o u e), fun b ps e => ?_⟩, I.loc, I.cell, ?_, fun x c e => ?_, fun p hp => ?_, hok_trk I.hok n, I.len⟩
  · have hlt := Heap.lt_size e
    refine out b (I.base.free b o e n' hx) (nin fun p hp z => ?_)
    have h0 := (a p hp).s0
    rw [z] at h0
    exact absurd (Nat.lt_of_lt_of_le hlt h0) (Nat.lt_irrefl _)
  · obtain ⟨m, e2⟩ := I.base.tbls b ps e
    exact ⟨m, st _ _ e2⟩
  · exact out _ I.free (nin fun p hp => (a p hp).loc)
  · exact out _ (I.freeC x c e) (nin fun p hp z => (a p hp).cel x c e z.symm)
  · obtain ⟨h1, h2, h3⟩ := I.pin p hp
    exact ⟨h1, out _ h2 (nin fun q hq z => (a q hq).pin p hp z.symm), h3⟩
theorem inv_unt (I : Inv X pins σ H s) (n : ∀ p ∈ ow, ∃ o, H p.1 = some (rawH p.1 o)) : Inv X pins σ (unt ow H) s := by
  have s := kp_unt n
  have out : ∀ b, H b = none → unt ow H b = none := fun b e => by
    cases q : ow.lookup b with
    | none => rw [unt_out q]; exact e
    | some o => exact unt_in q
  refine ⟨I.ok, I.os, I.bare, ⟨I.base.keep, I.base.slot, fun b o e n' hx => out _ (I.base.free b o e n' hx), I.base.there, fun b xs e => s _ _ (I.base.tups b xs e) (fun o z => by cases z), fun b o u e => s _ _ (I.base.frzs b o u e) (fun o z => by cases z), fun b ps e => ?_⟩, I.loc, I.cell, out _ I.free, fun x c e => out _ (I.freeC x c e), fun p hp => ?_, hok_unt I.hok n, I.len⟩
  · obtain ⟨m, e2⟩ := I.base.tbls b ps e
    exact ⟨m, s _ _ e2 (fun o z => by cases z)⟩
  · obtain ⟨h1, h2, h3⟩ := I.pin p hp
    exact ⟨h1, out _ h2, h3⟩
/-- the table of generators is another -/
theorem inv_gens {g : Array GenState} (I : Inv X pins σ H s) (hb : AllBare g) : Inv X pins σ H { s with gens := g } := ⟨I.ok, I.os, hb, I.base, I.loc, I.cell, I.free, I.freeC, I.pin, I.hok, I.len⟩
end
end Ab
/-! generators: the contract, statements of a generator's body -/
namespace Ab
open PySem PySem.Spec PyProof.Rows L2 GenW
/-- what is wanted of a wake: an item and where the generator then stands, or its end; the cells then -/
abbrev Hnd (τ : Type) := Option (Val × τ) → Mem → Prop
/-- a wake: where the generator stands, the abstract heap and the cells then, what is wanted, what must stay as it is -/
structure Wkg (τ : Type) where
  x : τ
  Hi : Hp
  H : Hp
  M : Mem
  R : Hnd τ
  pn : List (Addr × Obj)
/-- a generator: Tr: what a wake does; Th: when its consumer wakes it -/
structure GX (τ : Type) where
  P : Program
  w : World
  K : PySem.W.Frag
  mg : Str → Option Value
  base : Heap
  N : List Str
  qual : Str
  sc : Scope
  f : Addr
  cdv : Value
  A : Around
  outer : List Env
  B : Nat
  gp : Addr × Obj
  Tr : τ → Mem → Hnd τ → Prop
  Th : Nat → Wkg τ → Shared → Prop
/-- the context of a generator's body since a wake -/
abbrev gcx (P : Program) (w : World) (K : PySem.W.Frag) (mg : Str → Option Value) (base : Heap) (N : List Str) (qual : Str) (sc : Scope) (f : Addr) (cdv : Value) (A : Around) (outer : List Env) (B : Nat) (pn : List (Addr × Obj)) (H : Hp) (s : Shared) : Cx :=
  { prog := P, w := w, K := K, mg := mg, base := base, A := A.deeper (envOfC qual sc B f cdv), N := N, s_0 := cutS B s, H_0 := H, env := envOfC qual sc B f cdv, outer := outer, stack := envOfC qual sc B f cdv :: outer,
    ex := [], fn := fun _ => true, calm := true, pn := pn, xe := fun _ _ => False }
section
variable {τ : Type}
abbrev GX.env (G : GX τ) : Env := envOfC G.qual G.sc G.B G.f G.cdv
abbrev GX.cx (G : GX τ) (H : Hp) (s : Shared) (pn : List (Addr × Obj)) : Cx := gcx G.P G.w G.K G.mg G.base G.N G.qual G.sc G.f G.cdv G.A G.outer G.B (G.gp :: pn) H s
/-- what is true of it through its life -/
structure GOk (G : GX τ) : Prop where
  mod : Mod G.K G.mg G.base
  kind : G.sc.kind = .function
  co : G.sc.isCoroutine = false
  inj : ∀ x y c, G.env.cells.lookup x = some c → G.env.cells.lookup y = some c → x = y
  has : ∀ x, (G.env.kindOf x = some .cell ∨ G.env.kindOf x = some .free) → ∃ c, G.env.cells.lookup x = some c
  cab : ∀ x c, G.env.cells.lookup x = some c → G.B < c
  hd : G.A.handled = none
  frames : G.A.frames = some G.outer
  bsz : G.base.objs.size ≤ G.B
  sml : ∀ b ∈ frs G.outer, b < G.B
  gpB : G.B < G.gp.1
  gpd : ∀ v, G.gp.2.data ≠ .cell v
  gpc : ∀ x c, G.env.cells.lookup x = some c → c ≠ G.gp.1
structure PinOk (G : GX τ) (H : Hp) (s : Shared) (p : Addr × Obj) : Prop where
  at_ : s.heap.get? p.1 = some p.2
  no : H p.1 = none
  loc : p.1 ≠ G.B
  fr : p.1 ∉ frs G.outer
  nc : ∀ v, p.2.data ≠ .cell v
/-- the state at a wake -/
structure Woke (G : GX τ) (n : Nat) (W : Wkg τ) (s : Shared) : Prop where
  th : G.Th n W s
  pos : 0 < n
  tr : G.Tr W.x W.M W.R
  ok : Ok G.K W.Hi W.M W.H
  le : G.B ≤ s.heap.objs.size
  bs : ∀ b o, G.base.get? b = some o → s.heap.get? b = some o ∧ W.H b = none
  funs : s.heap.FunFrames G.base G.outer
  frf : ∀ b ∈ frs G.outer, W.H b = none
  hok : HOk G.P G.w W.H s.heap
  bare : AllBare s.gens
  pn : ∀ p ∈ W.pn, PinOk G W.H s p
/-- the frame, its cells, its iterators, as they stand -/
structure At (G : GX τ) (ip : List (Addr × Obj)) (σ : L2.St) (s : Shared) : Prop where
  loc : ∃ m, s.heap.Ns G.B m ∧ ∀ (i : Nat) (x : Str) (v : V), G.N[i]? = some x → σ[i]? = some (some v) → Vis G.sc x → ∃ u, RelV v u ∧ Look G.env s.heap m x u
  cell : ∀ x c, G.env.cells.lookup x = some c → ∃ v, s.heap.IsCell c v
  ip : ∀ p ∈ ip, s.heap.get? p.1 = some p.2 ∧ p.1 ≠ G.B ∧ p.1 ∉ frs G.outer ∧ (∀ v, p.2.data ≠ .cell v) ∧ G.B ≤ p.1
  gp : s.heap.get? G.gp.1 = some G.gp.2
  len : σ.length = G.N.length
def cellA (G : GX τ) : List Addr := (G.env.cells.map (·.1)).filterMap fun x => G.env.cells.lookup x
theorem cellA_mem {G : GX τ} {x : Str} {c : Addr} (h : G.env.cells.lookup x = some c) : c ∈ cellA G := List.mem_filterMap.mpr ⟨x, List.mem_map.mpr ⟨(x, c), PySem.mem_of_lookup h, rfl⟩, h⟩
theorem cellA_of {G : GX τ} {c : Addr} (h : c ∈ cellA G) : ∃ x, G.env.cells.lookup x = some c := let ⟨x, _, e⟩ := List.mem_filterMap.mp h; ⟨x, e⟩
/-- the addresses that are the generator's -/
def owA (G : GX τ) (ip : List (Addr × Obj)) : List Addr := G.B :: G.gp.1 :: (cellA G ++ ip.map (·.1))
def owOf (G : GX τ) (ip : List (Addr × Obj)) (s : Shared) : Own := pinsAt (owA G ip) s.heap
theorem At.moved {G : GX τ} {ip : List (Addr × Obj)} {σ : L2.St} {s s' : Shared} (a : At G ip σ s) (k : ∀ p ∈ owOf G ip s, s'.heap.get? p.1 = some p.2) : At G ip σ s' := by
  have mv : ∀ b ∈ owA G ip, ∀ o, s.heap.get? b = some o → s'.heap.get? b = some o := fun b hb o e => k (b, o) (mem_pinsAt hb e)
  have mB := mv G.B List.mem_cons_self
  have mC : ∀ x c, G.env.cells.lookup x = some c → ∀ o, s.heap.get? c = some o → s'.heap.get? c = some o := fun x c e => mv c (List.mem_cons_of_mem _ (List.mem_cons_of_mem _ (List.mem_append_left _ (cellA_mem e))))
  refine ⟨?_, fun x c e => ?_, fun p hp => ?_, mv _ (List.mem_cons_of_mem _ List.mem_cons_self) _ a.gp, a.len⟩
  · obtain ⟨m, ⟨o, es, ep, ho, r⟩, hl⟩ := a.loc
    refine ⟨m, ⟨o, es, ep, mB o ho, r⟩, fun i x v e1 e2 e3 => ?_⟩
    obtain ⟨u, r1, l⟩ := hl i x v e1 e2 e3
    refine ⟨u, r1, ?_⟩
    rcases l with l | ⟨kk, c, e, ⟨oc, hoc, hd⟩⟩
    · exact .inl l
    · exact .inr ⟨kk, c, e, ⟨oc, mC x c e oc hoc, hd⟩⟩
  · obtain ⟨v, oc, hoc, hd⟩ := a.cell x c e
    exact ⟨v, oc, mC x c e oc hoc, hd⟩
  · obtain ⟨h1, h2⟩ := a.ip p hp
    exact ⟨mv p.1 (List.mem_cons_of_mem _ (List.mem_cons_of_mem _ (List.mem_append_right _ (List.mem_map.mpr ⟨p, hp, rfl⟩)))) _ h1, h2⟩
/-- woken: the context since -/
theorem inv_wake {G : GX τ} {n : Nat} {W : Wkg τ} {s : Shared} {ip : List (Addr × Obj)} {σ : L2.St} (g : GOk G) (wk : Woke G n W s) (a : At G ip σ s) (nn : ∀ b ∈ owA G ip, W.H b = none) : Inv (G.cx W.H s W.pn) ip σ W.H s := by
  have hsz : (cutS G.B s).heap.objs.size = G.B := cut_size wk.le
  have nB := nn G.B List.mem_cons_self
  have noA : ∀ b : Addr, b ∉ (G.cx W.H s W.pn).ex := fun b z => absurd (show b ∈ ([] : List Addr) from z) (by simp)
  refine ⟨⟨g.mod, g.kind, rfl, rfl, Nat.le_of_eq hsz, g.inj, g.has, fun x c _ e => ?_, fun _ => g.hd, Around.frames_deeper g.frames, .inr ⟨rfl, rfl⟩, fun b z => absurd z (noA b), fun b o e => ?_, by rw [hsz]; exact g.bsz, fun b _ _ => noA b, fun b z => absurd z (noA b), cut_frames wk.funs g.sml, wk.frf⟩,
    rfl, wk.bare, ⟨fun b o e _ _ _ => (cut_some e).2, fun b o e _ _ _ => ⟨o.slots, (cut_some e).2⟩, fun b o _ q _ => q, fun b o e _ => ⟨o, (cut_some e).2⟩, fun _ _ q => q, fun _ _ _ q => q, fun b ps q => ⟨#[], (show W.H b = _ from q).trans (by simp)⟩⟩,
    a.loc, a.cell, nB, fun x c e => nn c (List.mem_cons_of_mem _ (List.mem_cons_of_mem _ (List.mem_append_left _ (cellA_mem e)))), fun p hp => ?_, wk.hok, a.len⟩
  · rw [hsz]
    exact Nat.le_of_lt (g.cab x c e)
  · obtain ⟨h1, h2⟩ := wk.bs b o e
    exact ⟨(cut_get (Nat.lt_of_lt_of_le (Heap.lt_size e) g.bsz)).trans h1, h2⟩
  · rcases List.mem_append.mp hp with hp | hp
    · rcases List.mem_cons.mp hp with hp | hp
      · rw [hp]
        exact ⟨a.gp, nn _ (List.mem_cons_of_mem _ List.mem_cons_self), Nat.ne_of_gt g.gpB, fun z => absurd (g.sml _ z) (Nat.not_lt.mpr (Nat.le_of_lt g.gpB)), g.gpd⟩
      · have q := wk.pn p hp
        exact ⟨q.at_, q.no, q.loc, q.fr, q.nc⟩
    · obtain ⟨h1, h2, h3, h4, _⟩ := a.ip p hp
      exact ⟨h1, nn p.1 (List.mem_cons_of_mem _ (List.mem_cons_of_mem _ (List.mem_append_right _ (List.mem_map.mpr ⟨p, hp, rfl⟩)))), h2, h3, h4⟩
/-- what a run since a wake leaves -/
structure Seen (G : GX τ) (W : Wkg τ) (s₀ : Shared) (Hi H : Hp) (M : Mem) (s : Shared) : Prop where
  os : s.os = s₀.os
  bare : AllBare s.gens
  un : Un (frs G.outer) [] W.H H (cutH G.B s₀.heap) s.heap
  hok : HOk G.P G.w H s.heap
  pn : ∀ p ∈ G.gp :: W.pn, s.heap.get? p.1 = some p.2 ∧ H p.1 = none
  sm : Same W.Hi Hi
  ok : Ok G.K Hi M H
theorem seen_of {G : GX τ} {W : Wkg τ} {s₀ s : Shared} {ip : List (Addr × Obj)} {σ : L2.St} {Hi H : Hp} {M : Mem} (I : Inv (G.cx W.H s₀ W.pn) ip σ H s) (sm : Same W.Hi Hi) (ok : Ok G.K Hi M H) : Seen G W s₀ Hi H M s :=
  ⟨I.os, I.bare, I.base, I.hok, fun p hp => let ⟨h1, h2, _⟩ := I.pin p (List.mem_append_left _ hp); ⟨h1, h2⟩, sm, ok⟩
/-- what stands by -/
structure OwOk (G : GX τ) (ow : Own) (H : Hp) (s : Shared) : Prop where
  at_ : ∀ p ∈ ow, s.heap.get? p.1 = some p.2
  no : ∀ p ∈ ow, H p.1 = none
  ab : ∀ p ∈ ow, G.B ≤ p.1
  gp : G.gp ∈ ow
theorem at_of {G : GX τ} {W : Wkg τ} {s₀ s : Shared} {ip : List (Addr × Obj)} {σ : L2.St} {H : Hp} (g : GOk G) (I : Inv (G.cx W.H s₀ W.pn) ip σ H s) (hip : ∀ p ∈ ip, G.B ≤ p.1) : At G ip σ s :=
  ⟨I.loc, I.cell, fun p hp => let ⟨h1, _, h3, h4, h5⟩ := I.pin p (List.mem_append_right _ hp); ⟨h1, h3, h4, h5, hip p hp⟩, (I.pin G.gp (List.mem_append_left _ List.mem_cons_self)).1, I.len⟩
theorem owA_no {G : GX τ} {W : Wkg τ} {s₀ s : Shared} {ip : List (Addr × Obj)} {σ : L2.St} {H : Hp} (g : GOk G) (I : Inv (G.cx W.H s₀ W.pn) ip σ H s) : ∀ b ∈ owA G ip, H b = none := fun b hb => by
  rcases List.mem_cons.mp hb with e | hb
  · rw [e]; exact I.free
  · rcases List.mem_cons.mp hb with e | hb
    · rw [e]; exact (I.pin G.gp (List.mem_append_left _ List.mem_cons_self)).2.1
    · rcases List.mem_append.mp hb with hb | hb
      · obtain ⟨x, e⟩ := cellA_of hb
        exact I.freeC x b e
      · obtain ⟨p, hp, e⟩ := List.mem_map.mp hb
        rw [← e]
        exact (I.pin p (List.mem_append_right _ hp)).2.1
/-- the protocol -/
def YG (G : GX τ) : Protocol := fun n s₀ v s kap => ∃ (W : Wkg τ) (d : Val) (x' : τ) (vv : V) (M : Mem) (Hi H : Hp) (ow : Own), G.Th (n + 1) W s₀ ∧ W.R (some (d, x')) M ∧ RelV vv v ∧ Rep G.K Hi d vv ∧ Seen G W s₀ Hi H M s ∧ OwOk G ow H s ∧ (∀ p ∈ W.pn, ∀ q ∈ ow, p.1 ≠ q.1) ∧
  ∀ (W' : Wkg τ) (s' : Shared), Woke G n W' s' → W'.x = x' → Same Hi W'.Hi → OwOk G ow W'.H s' → (∀ p ∈ W'.pn, ∀ q ∈ ow, p.1 ≠ q.1) → kap (.send .none) s'
def EG (G : GX τ) (n : Nat) (s₀ s : Shared) : Prop := ∃ (W : Wkg τ) (M : Mem) (Hi H : Hp), G.Th n W s₀ ∧ W.R none M ∧ Seen G W s₀ Hi H M s
abbrev RG (G : GX τ) : GenEnd := fun n s₀ r s => ((r = .ok (.ret .none) ∨ r = .ok .next) ∧ EG G n s₀ s) ∨ ∃ e, r = .error e ∧ False
/-- what is wanted behind a statement of a generator: the wakes left, the wish, slots, cells -/
structure KG (τ : Type) where
  nx : Nat → Hnd τ → Gam → Mem → Prop
  rt : Nat → Hnd τ → Val → Mem → Prop
  bk : Nat → Hnd τ → Gam → Mem → Prop := fun _ _ _ _ => False
  ct : Nat → Hnd τ → Gam → Mem → Prop := fun _ _ _ _ => False
def KG.at (k : KG τ) (n : Nat) (R : Hnd τ) : AK := { nx := k.nx n R, rt := k.rt n R, bk := k.bk n R, ct := k.ct n R }
/-- where the generator's code stands -/
structure GCt (G : GX τ) (ip : List (Addr × Obj)) (c : Code) (fs : List Frame) (gd : Bool → Bool) : Prop where
  over : G.A.over c fs = G.A.deeper G.env
  split : splitAtGen fs = none
  guard : fs.any Frame.guarded = false
  gd : gd false = false
  ip : ∀ p ∈ ip, G.B ≤ p.1
abbrev SegG (G : GX τ) (n : Nat) (s₀ : Shared) (c : Code) (t : Sem PySem.Fin) (fs : List Frame) (s : Shared) : Prop := Seg (model G.P G.w) G.A (RG G) (YG G) n s₀ c t fs s
/-- the state amid a run since a wake -/
structure GIv (G : GX τ) (ip : List (Addr × Obj)) (n : Nat) (W : Wkg τ) (s₀ s : Shared) (σ : L2.St) (H Hi : Hp) (M : Mem) : Prop where
  th : G.Th n W s₀
  sm : Same W.Hi Hi
  inv : Inv (G.cx W.H s₀ W.pn) ip σ H s
  ok : Ok G.K Hi M H
  ap : ∀ p ∈ W.pn, ∀ q ∈ ip, p.1 ≠ q.1
  le : G.B ≤ s₀.heap.objs.size
  gpn : ∀ p ∈ W.pn, p.1 ≠ G.gp.1
structure GKo (G : GX τ) (ip : List (Addr × Obj)) (Hi0 : Hp) (c : Code) (fs : List Frame) (Kc : Flow → Sem PySem.Fin) (k : KG τ) : Prop where
  nx : ∀ n W s₀ s σ H Hi Γ M, GIv G ip n W s₀ s σ H Hi M → Same Hi0 Hi → EnvR G.K Hi Γ σ → k.nx n W.R Γ M → SegG G n s₀ c (Kc .next) fs s
  bk : ∀ n W s₀ s σ H Hi Γ M, GIv G ip n W s₀ s σ H Hi M → Same Hi0 Hi → EnvR G.K Hi Γ σ → k.bk n W.R Γ M → SegG G n s₀ c (Kc .brk) fs s
  ct : ∀ n W s₀ s σ H Hi Γ M, GIv G ip n W s₀ s σ H Hi M → Same Hi0 Hi → EnvR G.K Hi Γ σ → k.ct n W.R Γ M → SegG G n s₀ c (Kc .cont) fs s
  rt : ∀ n W s₀ s σ H Hi d v u M, GIv G ip n W s₀ s σ H Hi M → Same Hi0 Hi → Rep G.K Hi d v → RelV v u → k.rt n W.R d M → SegG G n s₀ c (Kc (.ret u)) fs s
def gS (G : GX τ) (st : Stmt) (n : Nat) (R : Hnd τ) (Γ : Gam) (M : Mem) (k : KG τ) : Prop := GOk G → ∀ ip W s₀ c fs Kc Jc gd lv s σ H Hi, GCt G ip c fs gd → GIv G ip n W s₀ s σ H Hi M → W.R = R → EnvR G.K Hi Γ σ →
  GKo G ip Hi c fs Kc k → SegG G n s₀ c ((exec st G.env).wrap Kc Jc gd lv) fs s
def gSs (G : GX τ) (st : List Stmt) (n : Nat) (R : Hnd τ) (Γ : Gam) (M : Mem) (k : KG τ) : Prop := GOk G → ∀ ip W s₀ c fs Kc Jc gd lv s σ H Hi, GCt G ip c fs gd → GIv G ip n W s₀ s σ H Hi M → W.R = R → EnvR G.K Hi Γ σ →
  GKo G ip Hi c fs Kc k → SegG G n s₀ c ((execs st G.env).wrap Kc Jc gd lv) fs s
end
section
variable {τ : Type} {G : GX τ} {st : Stmt} {sts rest : List Stmt} {n : Nat} {R : Hnd τ} {Γ : Gam} {M : Mem} {k : KG τ}
/-- what a plain piece leaves -/
def gD (K : PySem.W.Frag) (Hi : Hp) (k : AK) : Ends where
  nx := fun σ' H' => ∃ Γ' M' Hi', k.nx Γ' M' ∧ Same Hi Hi' ∧ Ok K Hi' M' H' ∧ EnvR K Hi' Γ' σ'
  rt := fun v H' => ∃ d M' Hi', k.rt d M' ∧ Same Hi Hi' ∧ Ok K Hi' M' H' ∧ Rep K Hi' d v
  bk := fun σ' H' => ∃ Γ' M' Hi', k.bk Γ' M' ∧ Same Hi Hi' ∧ Ok K Hi' M' H' ∧ EnvR K Hi' Γ' σ'
  ct := fun σ' H' => ∃ Γ' M' Hi', k.ct Γ' M' ∧ Same Hi Hi' ∧ Ok K Hi' M' H' ∧ EnvR K Hi' Γ' σ'
theorem gD_real {K : PySem.W.Frag} {Hi : Hp} {k : AK} : Real K Hi k (gD K Hi k) :=
  ⟨fun Γ' M' σ' Hi' H' h s o e => ⟨Γ', M', Hi', h, s, o, e⟩, fun d M' v Hi' H' h s o e => ⟨d, M', Hi', h, s, o, e⟩, fun Γ' M' σ' Hi' H' h s o e => ⟨Γ', M', Hi', h, s, o, e⟩, fun Γ' M' σ' Hi' H' h s o e => ⟨Γ', M', Hi', h, s, o, e⟩⟩
section
variable {ip : List (Addr × Obj)} {W : Wkg τ} {s₀ s : Shared} {σ : L2.St} {H Hi : Hp}
theorem GKo.up {Hi' : Hp} {c : Code} {fs : List Frame} {Kc : Flow → Sem PySem.Fin} (kk : GKo G ip Hi c fs Kc k) (sm : Same Hi Hi') : GKo G ip Hi' c fs Kc k :=
  ⟨fun n W s₀ s σ H Hi2 Γ M v s2 => kk.nx n W s₀ s σ H Hi2 Γ M v (sm.trans s2), fun n W s₀ s σ H Hi2 Γ M v s2 => kk.bk n W s₀ s σ H Hi2 Γ M v (sm.trans s2), fun n W s₀ s σ H Hi2 Γ M v s2 => kk.ct n W s₀ s σ H Hi2 Γ M v (sm.trans s2), fun n W s₀ s σ H Hi2 d v u M g s2 => kk.rt n W s₀ s σ H Hi2 d v u M g (sm.trans s2)⟩
theorem GIv.to (v : GIv G ip n W s₀ s σ H Hi M) {s' : Shared} {σ' : L2.St} {H' Hi' : Hp} {M' : Mem} (I : Inv (G.cx W.H s₀ W.pn) ip σ' H' s') (sm : Same Hi Hi') (ok : Ok G.K Hi' M' H') : GIv G ip n W s₀ s' σ' H' Hi' M' := ⟨v.th, v.sm.trans sm, I, ok, v.ap, v.le, v.gpn⟩
theorem gko_flow {c : Code} {fs : List Frame} {Kc : Flow → Sem PySem.Fin} {f : Flow} {s' : Shared} (v : GIv G ip n W s₀ s σ H Hi M) (kk : GKo G ip Hi c fs Kc k) (h : SP (G.cx W.H s₀ W.pn) ip (gD G.K Hi (k.at n W.R)) f s') : SegG G n s₀ c (Kc f) fs s' := by
  cases f with
  | next =>
    obtain ⟨σ', H', I, Γ', M', Hi', q, s1, o, e⟩ := h
    exact kk.nx n W s₀ s' σ' H' Hi' Γ' M' (v.to I s1 o) s1 e q
  | brk =>
    obtain ⟨σ', H', I, Γ', M', Hi', q, s1, o, e⟩ := h
    exact kk.bk n W s₀ s' σ' H' Hi' Γ' M' (v.to I s1 o) s1 e q
  | cont =>
    obtain ⟨σ', H', I, Γ', M', Hi', q, s1, o, e⟩ := h
    exact kk.ct n W s₀ s' σ' H' Hi' Γ' M' (v.to I s1 o) s1 e q
  | ret u =>
    obtain ⟨vv, σ', H', I, rv, d, M', Hi', q, s1, o, e⟩ := h
    exact kk.rt n W s₀ s' σ' H' Hi' d vv u M' (v.to I s1 o) s1 e rv q
end
/-- a statement that hands out nothing -/
theorem g_plain (h : ∀ H s pn, aS (G.cx H s pn) st Γ M (k.at n R)) : gS G st n R Γ M k := fun _ ip W s₀ c fs Kc Jc gd lv s σ H Hi g v hR en kk => by
  subst hR
  obtain ⟨t, p, ht⟩ := h W.H s₀ W.pn Hi H σ v.ok en _ gD_real
  refine seg_wrap ?_
  rw [g.over]
  exact wpAny_mono (p.run ip s σ H _ v.inv ht) (fun f s' hs => gko_flow v kk hs) fun x s' hx => hx.elim
theorem gs_nil (h : k.nx n R Γ M) : gSs G [] n R Γ M k := fun _ ip W s₀ c fs Kc Jc gd lv s σ H Hi g v hR en kk => by
  subst hR
  exact seg_execs_nil (kk.nx n W s₀ s σ H Hi Γ M v (Same.refl _) en h)
theorem gs_cons (h : gS G st n R Γ M { k with nx := fun n' R' Γ' M' => gSs G rest n' R' Γ' M' k }) : gSs G (st :: rest) n R Γ M k := fun go ip W s₀ c fs Kc Jc gd lv s σ H Hi g v hR en kk => by
  refine seg_execs_cons (h go ip W s₀ c fs _ Jc gd lv s σ H Hi g v hR en ⟨?_, kk.bk, kk.ct, kk.rt⟩)
  intro n' W' s₀' s' σ' H' Hi' Γ' M' v' sm' en' h'
  exact h' go ip W' s₀' c fs Kc Jc gd lv s' σ' H' Hi' g v' rfl en' (kk.up sm')
/-- if -/
theorem g_if {c : Expr} {s1 s2 : List Stmt} {pos : Pos} {p : Prop} (hc : ∀ H s pn, TP (G.cx H s pn) c Γ M p) (h1 : p → gSs G s1 n R Γ M k) (h2 : ¬ p → gSs G s2 n R Γ M k) : gS G (.If c s1 s2 pos) n R Γ M k := fun go ip W s₀ cd fs Kc Jc gd lv s σ H Hi g v hR en kk => by
  subst hR
  obtain ⟨b, hb, i⟩ := hc W.H s₀ W.pn
  obtain ⟨t, p, ht⟩ := hb Hi H σ v.ok en (fun b' H' => b' = b ∧ ∃ Hi', Same Hi Hi' ∧ Ok G.K Hi' M H') fun b' M' Hi' H' hh s' o' => by
    obtain ⟨rfl, rfl⟩ := hh
    exact ⟨rfl, Hi', s', o'⟩
  rw [exec_If]
  refine seg_bind_wrap (wpAny_standAt ?_)
  refine seg_bind_wrap ?_
  rw [g.over]
  refine wpAny_mono (p.run ip s σ H _ v.inv ht) (fun b' s' hs => ?_) fun x s' hx => hx.elim
  obtain ⟨H', I', rfl, Hi', sm', ok'⟩ := hs
  cases b' with
  | true =>
    show SegG G n s₀ cd (Sem.wrap _ _ _ _ (if true = true then execs s1 G.env else execs s2 G.env)) fs s'
    rw [if_pos rfl]
    exact h1 (i.mp rfl) go ip W s₀ cd fs Kc Jc gd lv s' σ H' Hi' g (v.to I' sm' ok') rfl (en.mono sm') (kk.up sm')
  | false =>
    show SegG G n s₀ cd (Sem.wrap _ _ _ _ (if false = true then execs s1 G.env else execs s2 G.env)) fs s'
    rw [if_neg Bool.false_ne_true]
    exact h2 (fun y => nomatch i.mpr y) go ip W s₀ cd fs Kc Jc gd lv s' σ H' Hi' g (v.to I' sm' ok') rfl (en.mono sm') (kk.up sm')
/-- the generator's own things stand somewhere -/
theorem owA_there {ip : List (Addr × Obj)} {σ : L2.St} {s : Shared} (a : At G ip σ s) : ∀ b ∈ owA G ip, ∃ o, s.heap.get? b = some o := fun b hb => by
  rcases List.mem_cons.mp hb with e | hb
  · obtain ⟨m, ⟨o, es, ep, ho, r⟩, _⟩ := a.loc
    rw [e]
    exact ⟨o, ho⟩
  · rcases List.mem_cons.mp hb with e | hb
    · rw [e]
      exact ⟨_, a.gp⟩
    · rcases List.mem_append.mp hb with hb | hb
      · obtain ⟨x, e⟩ := cellA_of hb
        obtain ⟨v, o, ho, _⟩ := a.cell x b e
        exact ⟨o, ho⟩
      · obtain ⟨p, hp, e⟩ := List.mem_map.mp hb
        rw [← e]
        exact ⟨_, (a.ip p hp).1⟩
theorem owA_ab {ip : List (Addr × Obj)} (go : GOk G) (hip : ∀ p ∈ ip, G.B ≤ p.1) : ∀ b ∈ owA G ip, G.B ≤ b := fun b hb => by
  rcases List.mem_cons.mp hb with e | hb
  · exact Nat.le_of_eq e.symm
  · rcases List.mem_cons.mp hb with e | hb
    · rw [e]
      exact Nat.le_of_lt go.gpB
    · rcases List.mem_append.mp hb with hb | hb
      · obtain ⟨x, e⟩ := cellA_of hb
        exact Nat.le_of_lt (go.cab x b e)
      · obtain ⟨p, hp, e⟩ := List.mem_map.mp hb
        rw [← e]
        exact hip p hp
/-- yield -/
theorem g_yield {e : Expr} {yp pos : Pos} (hn : 0 < n) (h : ∀ H s pn, aE (G.cx H s pn) e Γ M (Ret fun d M' => ∃ x', R (some (d, x')) M' ∧ ∀ M2 R2, 0 < n - 1 → G.Tr x' M2 R2 → k.nx (n - 1) R2 Γ M2)) : gS G (.Expr (.Yield (some e) yp) pos) n R Γ M k := fun go ip W s₀ c fs Kc Jc gd lv s σ H Hi g v hR en kk => by
  subst hR
  obtain ⟨m, rfl⟩ : ∃ m, n = m + 1 := ⟨n - 1, by omega⟩
  refine seg_Expr_Yield g.split g.gd g.guard ?_ go.co v.inv.quiet
  rw [g.over]
  obtain ⟨t, p, ht⟩ := h W.H s₀ W.pn Hi H σ v.ok en (fun vv H' => ∃ d M' Hi', (∃ x', W.R (some (d, x')) M' ∧ ∀ M2 R2, 0 < m → G.Tr x' M2 R2 → k.nx m R2 Γ M2) ∧ Same Hi Hi' ∧ Ok G.K Hi' M' H' ∧ Rep G.K Hi' d vv) (fun d M' vv Hi' H' hp s1 o1 r1 =>
    hp.post (Q := fun vv H' => ∃ d M' Hi', (∃ x', W.R (some (d, x')) M' ∧ ∀ M2 R2, 0 < m → G.Tr x' M2 R2 → k.nx m R2 Γ M2) ∧ Same Hi Hi' ∧ Ok G.K Hi' M' H' ∧ Rep G.K Hi' d vv) (fun d M' vv Hi' H' hp s1 o1 r1 => ⟨d, M', Hi', hp, s1, o1, r1⟩) s1 o1 r1)
  refine wpAny_mono (p.run ip s σ H _ v.inv ht) (fun u s' hv => ?_) fun x s' hx => hx.elim
  obtain ⟨vv, H', I', rv, d, M', Hi', ⟨x', hr, hk⟩, sm, ok', rep⟩ := hv
  intro kap hkap
  have a' := at_of go I' g.ip
  have ow_no := owA_no go I'
  have v' := v.to I' sm ok'
  refine ⟨W, d, x', vv, M', Hi', H', owOf G ip s', v.th, hr, rv, rep, seen_of I' v'.sm ok', ⟨fun p hp => (of_pinsAt hp).2, fun p hp => ow_no _ (of_pinsAt hp).1, fun p hp => owA_ab go g.ip _ (of_pinsAt hp).1, mem_pinsAt (List.mem_cons_of_mem _ List.mem_cons_self) a'.gp⟩, fun p hp q hq => ?_, fun W' s2 wk hx sm2 ow hap => hkap .none s2 ?_⟩
  · have pp := I'.pin p (List.mem_append_left _ (List.mem_cons_of_mem _ hp))
    rcases List.mem_cons.mp (of_pinsAt hq).1 with e | hb
    · rw [e]; exact pp.2.2.1
    · rcases List.mem_cons.mp hb with e | hb
      · rw [e]; exact v'.gpn p hp
      · rcases List.mem_append.mp hb with hb | hb
        · obtain ⟨y, e⟩ := cellA_of hb
          obtain ⟨cv, co, c1, c2⟩ := I'.cell y _ e
          intro z
          rw [← z, pp.1] at c1
          cases c1
          exact pp.2.2.2.2 _ c2
        · obtain ⟨q', hq', e⟩ := List.mem_map.mp hb
          rw [← e]
          exact v'.ap p hp q' hq'
  have inOw : ∀ b ∈ owA G ip, ∃ o, (b, o) ∈ owOf G ip s' := fun b hb => by
    obtain ⟨o, e⟩ := owA_there a' b hb
    exact ⟨o, mem_pinsAt hb e⟩
  have I2 := inv_wake go wk (At.moved a' ow.at_) (fun b hb => by
    obtain ⟨o, hm⟩ := inOw b hb
    exact ow.no (b, o) hm)
  refine kk.nx m W' s2 s2 σ W'.H W'.Hi Γ W'.M ⟨wk.th, Same.refl _, I2, wk.ok, fun p hp q hq => ?_, wk.le, fun p hp => ?_⟩ (sm.trans sm2) (en.mono (sm.trans sm2)) (hk _ _ wk.pos (hx ▸ wk.tr))
  · obtain ⟨o, hm⟩ := inOw q.1 (List.mem_cons_of_mem _ (List.mem_cons_of_mem _ (List.mem_append_right _ (List.mem_map.mpr ⟨q, hq, rfl⟩))))
    exact hap p hp (q.1, o) hm
  · obtain ⟨o, hm⟩ := inOw G.gp.1 (List.mem_cons_of_mem _ List.mem_cons_self)
    exact hap p hp (G.gp.1, o) hm
/-! ### while -/
theorem gct_loop {ip : List (Addr × Obj)} {c c' : Code} {fs : List Frame} {gd : Bool → Bool} {kr : Result → Sem PySem.Fin} {l kp : List Value} {p : Pos} (g : GCt G ip c fs gd) (hw : c'.weight = 0) (hu : c'.cUnits = 0) :
    GCt G ip c' (.ret kr none (gd false) l c p kp :: fs) id where
  ip := g.ip
  over := (over_loop hw hu).trans g.over
  split := by
    show (splitAtGen fs).map _ = none
    rw [g.split]; rfl
  guard := by
    show (gd false || fs.any Frame.guarded) = false
    rw [g.gd, g.guard]; rfl
  gd := rfl
end
end Ab
/-! generator defs: the call -/
namespace Ab
open PySem PySem.Spec PyProof.Rows L2 GenW
/-- a generator that has not begun; it stands at x -/
def GNew (P : Program) (w : World) (K : PySem.W.Frag) (mg : Str → Option Value) (base : Heap) (k : Nat) (outer : List Env) (B : Nat) {τ : Type} (Tr : τ → Mem → Hnd τ → Prop) (H Hi : Hp) (x : τ) (u : Value) (s : Shared) : Prop :=
  ∃ (N : List Str) (qual : Str) (sc : Scope) (f : Addr) (cdv : Value) (gp : Addr × Obj) (g : Nat) (c : Code) (ow : Own) (nm qn : Value),
    u = .ref gp.1 ∧ gp.2.cls = .type "generator" ∧ gp.2.data = .fields #[.int g 0, nm, qn] ∧ gp.2.slots = #[] ∧ s.gens[g]? = some (.fresh c) ∧
    (∀ p ∈ ow, s.heap.get? p.1 = some p.2 ∧ H p.1 = none ∧ B ≤ p.1) ∧ gp ∈ ow ∧
    ∀ (A : Around) (Th : Nat → Wkg τ → Shared → Prop), Rm k A → A.frames = some outer → GOk (GX.mk P w K mg base N qual sc f cdv A outer B gp Tr Th) ∧
      ∀ (n : Nat) (W : Wkg τ) (s2 : Shared), Woke (GX.mk P w K mg base N qual sc f cdv A outer B gp Tr Th) n W s2 → W.x = x → Same Hi W.Hi → OwOk (GX.mk P w K mg base N qual sc f cdv A outer B gp Tr Th) ow W.H s2 → (∀ p ∈ W.pn, ∀ q ∈ ow, p.1 ≠ q.1) →
        SegG (GX.mk P w K mg base N qual sc f cdv A outer B gp Tr Th) n s2 c ((model P w).den c) [] s2
/-- what is wanted at a generator def's end -/
abbrev kG {τ : Type} : KG τ := { nx := fun _ R _ M => Ret (fun _ M => R none M) .non M, rt := fun _ R d M => Ret (fun d M => d = .non ∧ R none M) d M }
/-- what a generator def's body must do -/
abbrev GBody (P : Program) (w : World) (K : PySem.W.Frag) (mg : Str → Option Value) (base : Heap) (k : Nat) (f : Addr) (N : List Str) (qual : Str) (sc : Scope) (body : List Stmt) {τ : Type} (Tr : τ → Mem → Hnd τ → Prop) (s0 : List Val → τ → Prop) : Prop :=
  ∀ cdv A outer B gp Th, Rm k (A.deeper (envOfC qual sc B f cdv)) → ∀ ds x n M R, s0 ds x → 0 < n → Tr x M R → gSs (GX.mk P w K mg base N qual sc f cdv A outer B gp Tr Th) body n R (gam N ds) M kG
/-- a generator def by its call -/
structure GnX (P : Program) (w : World) (K : PySem.W.Frag) (mg : Str → Option Value) (base : Heap) (k : Nat) (f : Addr) (ks : List Str) {τ : Type} (Tr : τ → Mem → Hnd τ → Prop) (s0 : List Val → List Val → τ → Prop) : Prop where
  run : ∀ (A : Around) (outer : List Env) (s : Shared) (H Hi : Hp) (us ws : List Value) (vs zs : List V) (ds es : List Val) (x : τ), Rm k A → Env0 P w K mg base A outer s H → Vals vs us → Vals zs ws → zs.length = ks.length → RepA K Hi ds vs → RepA K Hi es zs → s0 ds es x →
    codeAny (model P w) A (.call (.ref f) ⟨us, ks.zip ws⟩) (fun r s' => match r with
      | .ok (.ret u) => GNew P w K mg base k outer s.heap.objs.size Tr H Hi x u s' ∧ s'.os = s.os ∧ AllBare s'.gens ∧ ∀ b o, s.heap.get? b = some o → s'.heap.get? b = some o
      | _ => False) s
section
variable {P : Program} {w : World} {K : PySem.W.Frag} {mg : Str → Option Value} {base : Heap}
theorem gnx_kbn {τ : Type} {Tr : τ → Mem → Hnd τ → Prop} {x qual : Str} {params : Arguments} {body : List Stmt} {sc : Scope} {dvs : List V} {kws : List (Str × V)} {f : Addr} {fd : FuncData} {N ps ks : List Str} {k n : Nat} {s0 : List Val → τ → Prop} {g : List Value → List Value → List Value} {gV : List V → List V → List V} (gA : List Val → List Val → List Val)
    (F : FunD K x qual params body sc dvs kws f fd) (S : GScope N ps sc) (b : KBn K fd ps n ks g gV)
    (hrel : ∀ H ds vs es zs, RepA K H ds vs → RepA K H es zs → ds.length = n → es.length = ks.length → RepA K H (gA ds es) (gV vs zs)) (len : ∀ ds x, s0 ds x → ds.length = ps.length)
    (hbody : GBody P w K mg base k f N qual sc body Tr s0) : GnX P w K mg base (k + 1) f ks Tr (fun ds es x => ds.length = n ∧ s0 (gA ds es) x) := by
  refine ⟨fun A outer s H Hi us ws vs zs ds es x hr e0 r rz hz ra re ⟨hn, hs⟩ => ?_⟩
  obtain ⟨oc, od, dV, kV, doc, pm, an, cdv, ct, osl, rfl, lk, hcd, _, _⟩ := F.ex
  have KX : K.In s.heap := e0.mod.kin.keeps fun b o e => (e0.bs b o e).1
  have lim : s.heap.NoLimit := e0.mod.nolimit.keeps fun b o e => (e0.bs b o e).1
  have hb := b.to s us ws KX (by rw [← r.length, ← ra.length]; exact hn) (by rw [← rz.length]; exact hz)
  have rg := hrel Hi ds vs es zs ra re hn (re.length.trans hz)
  have hl : (gV vs zs).length = ps.length := rg.length.symm.trans (len _ _ hs)
  have rgv : Vals (gV vs zs) (g us ws) := b.rel r rz
  have hkind : ∀ y ∈ ps.zip (g us ws), sc.names.lookup y.1 = some .local ∨ (sc.names.lookup y.1 = some .cell ∧ ((cellsFrom (s.heap.objs.size + 1) sc.names []).lookup y.1).isSome = true) := fun ⟨n, v⟩ hy => by
    rcases S.par n (List.of_mem_zip hy).1 with q | q
    · exact .inl q
    · exact .inr ⟨q, PySem.W.cellsFrom_some _ _ _ (.inl q)⟩
  refine codeAny_call_generator hr.room.depth (KX _ _ lk) rfl S.co S.gen rfl (PySem.W.codeRec_of KX hcd) (hb _ _ _ _ ?_)
  refine wpAny_newFunctionEnv_cells S.kind hkind fun env he s1 xc => ?_
  subst he
  have lim1 : s1.heap.NoLimit := lim.keeps xc.toInCall.keep
  refine ⟨lim1, ?_⟩
  obtain ⟨h1, tk, es1, hk1⟩ := xc.done
  have os1 : s1.os = s.os := by rw [es1]
  have gen1 : s1.gens = s.gens := by rw [es1]
  have lt1 : s.heap.objs.size < s1.heap.objs.size := xc.toInCall.ns.lt
  have kp1 : ∀ b o, s.heap.get? b = some o → s1.heap.get? b = some o := xc.toInCall.keep
  have I1 : Inv (gcxOf P w K mg base N qual sc f cdv A outer s H E0 []) [] (start N (gV vs zs)) H s1 := inv_startG S hr.room.hd e0 hl rgv xc
  have main : ∀ (go : Obj) (nm qn : Value) (tk2 : Nat), go.cls = .type "generator" → go.data = .fields #[.int s1.gens.size 0, nm, qn] → go.slots = #[] → (∀ h : Heap, (h.push go).get? h.objs.size = some go) →
      ∀ s', s' = ({ s1 with gens := s1.gens.push (.fresh (.func body (envOfC qual sc s.heap.objs.size f cdv))), toks := tk2, heap := s1.heap.push go } : Shared) →
      GNew P w K mg base (k + 1) outer s.heap.objs.size Tr H Hi x (.ref s1.heap.objs.size) s' ∧ s'.os = s.os ∧ AllBare s'.gens ∧ ∀ b o, s.heap.get? b = some o → s'.heap.get? b = some o := by
    intro go nm qn tk2 hgc hgd0 hgs hgp s' es'
    have kp2 : ∀ b o, s1.heap.get? b = some o → s'.heap.get? b = some o := fun b o e => by
      rw [es']
      exact Heap.get?_push_of_some _ e
    have hpushed : s'.heap.get? s1.heap.objs.size = some go := by
      rw [es']
      exact hgp _
    have hba : AllBare s'.gens := by
      rw [es']
      exact AllBare.push (by rw [gen1]; exact e0.bare) rfl
    refine ⟨?_, by rw [es']; exact os1, hba, fun b o e => kp2 b o (kp1 b o e)⟩
    -- the addresses
    let G0 : GX τ := GX.mk P w K mg base N qual sc f cdv A outer s.heap.objs.size (s1.heap.objs.size, go) Tr fun _ _ _ => True
    have cello : ∀ y c, (envOfC qual sc s.heap.objs.size f cdv).cells.lookup y = some c → ∃ v, s1.heap.IsCell c v := I1.cell
    have cab : ∀ y c, (envOfC qual sc s.heap.objs.size f cdv).cells.lookup y = some c → s.heap.objs.size < c := fun y c e => xc.above y c (PySem.mem_of_lookup e)
    have clt : ∀ y c, (envOfC qual sc s.heap.objs.size f cdv).cells.lookup y = some c → c ≠ s1.heap.objs.size := fun y c e => by
      obtain ⟨v, q⟩ := cello y c e
      exact Nat.ne_of_lt q.lt
    have gok : ∀ (Aw : Around) Th, Rm (k + 1) Aw → Aw.frames = some outer → GOk (GX.mk P w K mg base N qual sc f cdv Aw outer s.heap.objs.size (s1.heap.objs.size, go) Tr Th) := fun Aw Th hrw hfr =>
      { mod := e0.mod, kind := S.kind, co := S.co, inj := I1.ok.inj, has := I1.ok.has, cab := cab, hd := hrw.room.hd, frames := hfr, bsz := e0.bsz,
        sml := fun b hb => by
          obtain ⟨_, o, ho, _⟩ := e0.funs.mem hb
          exact Heap.lt_size ho
        gpB := lt1, gpd := (fun v q => by rw [hgd0] at q; cases q), gpc := clt }
    have hAt : ∀ (G : GX τ), G.N = N → G.sc = sc → G.env = envOfC qual sc s.heap.objs.size f cdv → G.B = s.heap.objs.size → G.gp = (s1.heap.objs.size, go) → At G [] (start N (gV vs zs)) s' := fun G eN eS eE eB eg => by
      refine ⟨?_, fun y c e => ?_, fun p hp => absurd hp (by simp), by rw [eg]; exact hpushed, by rw [eN]; exact I1.len⟩
      · obtain ⟨m, ⟨o, es, ep, ho, r1⟩, hl1⟩ := I1.loc
        rw [eN, eS, eE, eB]
        refine ⟨m, ⟨o, es, ep, kp2 _ o ho, r1⟩, fun i y v q1 q2 q3 => ?_⟩
        obtain ⟨u, ru, l⟩ := hl1 i y v q1 q2 q3
        refine ⟨u, ru, ?_⟩
        rcases l with l | ⟨kk, c, e, ⟨oc', hoc, hd⟩⟩
        · exact .inl l
        · exact .inr ⟨kk, c, e, ⟨oc', kp2 c oc' hoc, hd⟩⟩
      · rw [eE] at e
        obtain ⟨v, oc', hoc, hd⟩ := cello y c e
        exact ⟨v, oc', kp2 c oc' hoc, hd⟩
    have at0 : At G0 [] (start N (gV vs zs)) s' := hAt G0 rfl rfl rfl rfl rfl
    have no0 : ∀ b ∈ owA G0 [], H b = none := fun b hb => by
      rcases List.mem_cons.mp hb with e | hb
      · rw [e]; exact I1.free
      · rcases List.mem_cons.mp hb with e | hb
        · rw [e]; exact I1.hok.fresh (Nat.le_refl _)
        · rcases List.mem_append.mp hb with hb | hb
          · obtain ⟨y, e⟩ := cellA_of hb
            exact I1.freeC y b e
          · simp at hb
    have ok0 : GOk G0 := gok A _ hr e0.frames
    refine ⟨N, qual, sc, f, cdv, (s1.heap.objs.size, go), s1.gens.size, _, owOf G0 [] s', nm, qn, rfl, hgc, hgd0, hgs, by rw [es']; exact Array.getElem?_push_size .., fun p hp => ?_, mem_pinsAt (List.mem_cons_of_mem _ List.mem_cons_self) hpushed, fun Aw Th hrw hfr => ⟨gok Aw Th hrw hfr, fun n W s2 wk hx sm ow hap => ?_⟩⟩
    · obtain ⟨q1, q2⟩ := of_pinsAt hp
      exact ⟨q2, no0 _ q1, owA_ab ok0 (fun p hp => absurd hp (by simp)) _ q1⟩
    · have gw := gok Aw Th hrw hfr
      have a2 : At (GX.mk P w K mg base N qual sc f cdv Aw outer s.heap.objs.size (s1.heap.objs.size, go) Tr Th) [] (start N (gV vs zs)) s2 := At.moved (hAt _ rfl rfl rfl rfl rfl) fun p hp => ow.at_ p hp
      have I2 := inv_wake gw wk a2 (fun b hb => by
        obtain ⟨o, e⟩ := owA_there at0 b hb
        exact ow.no (b, o) (mem_pinsAt hb e))
      refine seg_func ?_
      refine hbody cdv Aw outer s.heap.objs.size (s1.heap.objs.size, go) Th (hrw.deeper _) (gA ds es) x n W.M W.R hs wk.pos (hx ▸ wk.tr) gw [] W s2 _ [] _ _ id id s2 (start N (gV vs zs)) W.H W.Hi ⟨over_func, rfl, rfl, rfl, fun p hp => absurd hp (by simp)⟩
        ⟨wk.th, Same.refl _, I2, wk.ok, fun p _ q hq => absurd hq (by simp), wk.le, fun p hp => hap p hp (s1.heap.objs.size, go) (mem_pinsAt (List.mem_cons_of_mem _ List.mem_cons_self) hpushed)⟩ rfl (env_start (RepA.mono sm rg)) ⟨?_, fun _ _ _ _ _ _ _ _ _ _ _ _ z => z.elim, fun _ _ _ _ _ _ _ _ _ _ _ _ z => z.elim, ?_⟩
      · intro n' W' s₀' s3 σ' H' Hi' Γ' M' v' _ en' hend
        have := hend.post (Q := fun _ H' => ∃ M2 Hi2, W'.R none M2 ∧ Same Hi' Hi2 ∧ Ok K Hi2 M2 H') (fun d M2 v Hi2 H2 hp s o _ => ⟨M2, Hi2, hp, s, o⟩) (Same.refl _) v'.ok .non
        obtain ⟨M2, Hi2, hR, sm2, ok2⟩ := this
        exact seg_end (.ok (.ret .none)) (.inl ⟨.inl rfl, W', M2, Hi2, H', v'.th, hR, seen_of v'.inv (v'.sm.trans sm2) ok2⟩)
      · intro n' W' s₀' s3 σ' H' Hi' d vv u M' v' _ rep rv hend
        have := hend.post (Q := fun v H' => v = .non ∧ ∃ M2 Hi2, W'.R none M2 ∧ Same Hi' Hi2 ∧ Ok K Hi2 M2 H') (fun d M2 v Hi2 H2 hp s o r => by
          obtain ⟨rfl, hp⟩ := hp
          cases r
          exact ⟨rfl, M2, Hi2, hp, s, o⟩) (Same.refl _) v'.ok rep
        obtain ⟨rfl, M2, Hi2, hR, sm2, ok2⟩ := this
        have eu : u = Value.none := rv
        subst eu
        exact seg_end (.ok (.ret .none)) (.inl ⟨.inl rfl, W', M2, Hi2, H', v'.th, hR, seen_of v'.inv (v'.sm.trans sm2) ok2⟩)
  exact main _ _ _ _ rfl rfl rfl (fun h => Heap.get?_push_size _ rfl) _ rfl
/-- every parameter written -/
theorem gnx_kw {τ : Type} {Tr : τ → Mem → Hnd τ → Prop} {x qual : Str} {params : Arguments} {body : List Stmt} {sc : Scope} {kws : List (Str × V)} {f : Addr} {fd : FuncData} {N ps ks : List Str} {k n : Nat} {s0 : List Val → τ → Prop} (F : FunD K x qual params body sc [] kws f fd) (S : GScope N ps sc)
    (h : ∀ (kV doc pm : Value) (an : Option Addr) (cdv ct : Value) (us ws : List Value), us.length = n → ws.length = ks.length → bindArgs (PySem.W.fnOf x qual params body sc .none kV doc pm an cdv ct) ⟨us, ks.zip ws⟩ = pure (ps.zip (us ++ ws)))
    (len : ∀ ds x, s0 ds x → ds.length = ps.length) (hb : GBody P w K mg base k f N qual sc body Tr s0) : GnX P w K mg base (k + 1) f ks Tr (fun ds es x => ds.length = n ∧ s0 (ds ++ es) x) :=
  gnx_kbn (fun ds es => ds ++ es) F S (kbn_kw F h) (fun H ds vs es zs r1 r2 _ _ => r1.append r2) len hb
end
end Ab
/-! a for over a generator -/
namespace Ab
open PySem PySem.Spec PyProof.Rows L2 GenW
open Sem (wp)
/-- the next wake -/
def gNext (M : Model) (A : Around) (R : GenEnd) (Y : Protocol) : Nat → GenState → Resume → Shared → Prop
  | 0 => fun _ _ _ => False
  | m + 1 => fun gs r s => gs.Goes M A R Y m r s
/-- a wake; behind an item the generator sleeps -/
theorem wpAny_resumeS {M : Model} {A : Around} {R : GenEnd} {Y : Protocol} {n : Nat} {E : Value → Shared → Prop} {s : Shared} {g : Nat} {gs : GenState} {r : Resume} {l : List Value} {α : Type} {k : GenResult → Sem α} {Q : α → Shared → Prop} (hg : s.gens[g]? = some gs)
    (hgo : gs.Goes M A R Y n r (s.setGen g .running))
    (hR : ∀ x s₁, R n (s.setGen g .running) x s₁ → wpAny M A (k (End.ret x).result) Q E (s₁.setGen g .finished))
    (hY : ∀ v s₁ k0 l0 c0 p0 f0 b0, (GenState.suspended k0 l0 c0 p0 f0 b0).bare = true → Y (n - 1) (s.setGen g .running) v s₁ (gNext M A R Y n (.suspended k0 l0 c0 p0 f0 b0)) →
      wpAny M A (k (.yielded v)) Q E (s₁.setGen g (.suspended k0 l0 c0 p0 f0 b0))) : wpAny M A (.resume g r l k) Q E s := by
  intro Γ p hΓ
  rw [Sem.wp_resume]
  have hB : ∀ c, (Γ.wake c p).Woken A := fun c => hΓ.wake c p
  have fin : ∀ e₁ s₁, SegEnd R Y n (Seg.next M A R Y n) (s.setGen g .running) e₁ s₁ →
      wp M Γ (k e₁.result) (fun a _ s' => Q a s') (fun e _ s' => E e s') p (s₁.setGen g e₁.genState) := by
    intro e₁ s₁ he
    cases e₁ with
    | ret x => exact hR x s₁ he Γ p hΓ
    | susp v g₀ l₀ k₀ c₀ p₀ fs₀ =>
      refine hY v s₁ _ _ _ _ _ _ (End.bare_of_quiet he.1) ?_ Γ p hΓ
      cases n with
      | zero => exact he.2
      | succ m => exact he.2
  have hqt : ∀ e₁ s₁, SegEnd R Y n (Seg.next M A R Y n) (s.setGen g .running) e₁ s₁ → e₁.quiet = true := by
    intro e₁ s₁ he
    cases e₁ with
    | ret x => rfl
    | susp v g₀ l₀ k₀ c₀ p₀ fs₀ => exact he.1
  cases gs with
  | fresh c =>
    obtain ⟨rfl, hs⟩ := hgo
    obtain ⟨e₁, s₁, hr, he⟩ := seg_iff.mp hs (Γ.wake c p) p rfl (hB c)
    exact ⟨_, _, by unfold Wakes; rw [hg]; exact ⟨e₁, s₁, hr, hqt e₁ s₁ he, rfl, rfl⟩, fin e₁ s₁ he⟩
  | suspended k₀ l₀ c₀ p₀ fs₀ cl =>
    obtain ⟨e₁, s₁, hr, he⟩ := seg_iff.mp hgo (Γ.wake c₀ p) p₀ rfl (hB c₀)
    exact ⟨_, _, by unfold Wakes; rw [hg]; exact ⟨e₁, s₁, hr, hqt e₁ s₁ he, rfl, rfl⟩, fin e₁ s₁ he⟩
  | running => exact hgo.elim
  | finished => exact hgo.elim
theorem next_S {P : Program} {w : World} {A : Around} {E : Value → Shared → Prop} {s : Shared} {a : Addr} {g n : Nat} {gs : GenState} {F : Nat → Shared → Shared → Prop} {Y : Protocol} {Q : Option Value → Shared → Prop} (hh : A.handled = none)
    (hl : s.heap.NoLimit) (hroom : A.depth < recursionLimit) (hg : s.heap.IsGen a g) (hgs : s.gens[g]? = some gs)
    (hgo : gs.Goes (model P w) A.in1 (fun n s₀ r s₁ => ((r = .ok (.ret .none) ∨ r = .ok .next) ∧ F n s₀ s₁) ∨ ∃ e, r = .error e ∧ False) Y n (.send .none) (s.setGen g .running))
    (hY : ∀ v s₁ k0 l0 c0 p0 f0 b0, (GenState.suspended k0 l0 c0 p0 f0 b0).bare = true → Y (n - 1) (s.setGen g .running) v s₁ (gNext (model P w) A.in1 (fun n s₀ r s₁ => ((r = .ok (.ret .none) ∨ r = .ok .next) ∧ F n s₀ s₁) ∨ ∃ e, r = .error e ∧ False) Y n (.suspended k0 l0 c0 p0 f0 b0)) → Q (some v) (s₁.setGen g (.suspended k0 l0 c0 p0 f0 b0)))
    (hP : ∀ s₁, F n (s.setGen g .running) s₁ → ∀ h', (∀ b o, s₁.heap.get? b = some o → h'.get? b = some o) → Q none { s₁.setGen g .finished with heap := h' }) :
    wpAny (model P w) A (pyNext (.ref a)) Q E s := by
  unfold pyNext
  refine wpAny_bind (wpAny_attempt (wpAny_callSpecial?_slot (name := Str.ofString "__next__") hg.typeIs slot_gen_next
    (wpAny_call_entry slot_gen_next hg.typeIs entry_gen_next ?_ (args_gen_next _))))
  show wpAny _ A.in1 (Builtin.Generator.genWake (.ref a) (.send .none)) _ _ s
  unfold Builtin.Generator.genWake
  refine wpAny_bind (wpAny_holding (wpAny_genNumber hg (wpAny_bind (wpAny_genState hgs ?_))))
  cases gs with
  | running => exact hgo.elim
  | finished => exact hgo.elim
  | _ =>
    refine wpAny_bind (wpAny_roomToWake hl hroom ?_)
    show wpAny _ A.in1 (.resume g (.send .none) [] _) _ _ s
    refine wpAny_resumeS hgs hgo (fun x s₁ hx => ?_) (fun v s₁ k0 l0 c0 p0 f0 b0 hb hv => ?_)
    · rcases hx with ⟨hr, hp⟩ | ⟨e, rfl, he⟩
      · have hres : End.result (.ret x) = .returned .none := by
          rcases hr with hr | hr <;> rw [hr] <;> rfl
        first | rw [hres] | simp only [hres]
        show wpAny _ A.in1 (newExc (.type "StopIteration") [] >>= _) _ _ _
        refine wpAny_bind ?_
        simp only [newExc, newTuple]
        refine wpAny_bind (wpAny_newObj_type ?_ (by size_fits))
        refine wpAny_bind (m := firstArgMember _ _) (wpAny_of_eq (a := Value.none) (by first | rfl | (simp only [firstArgMember]; rfl)) ?_)
        refine wpAny_newObj_type ?_ (by size_fits)
        simp only [raiseNew]
        refine wpAny_bind (wpAny_bind (wpAny_handled ?_))
        first | rw [show A.in1.handled = none from hh] | rw [hh]
        refine wpAny_throw ?_
        refine wpAny_bind (wpAny_isInstance (T := "StopIteration") (b := true) ⟨_, Heap.get?_push_size _ rfl, rfl⟩ isSubtype_stop ?_)
        exact wpAny_pure (hP s₁ hp _ fun b o hb => Heap.get?_push_of_some _ (Heap.get?_push_of_some _ hb))
      · exact he.elim
    · exact wpAny_pure ⟨v, rfl, wpAny_pure (hY v s₁ k0 l0 c0 p0 f0 b0 hb hv)⟩
/-- an expression whose value is a generator that has not begun -/
def aGn (X : Cx) (e : Expr) (Γ : Gam) (M : Mem) (k : Nat) {τ : Type} (Tr : τ → Mem → Hnd τ → Prop) (P : τ → Mem → Prop) : Prop := ∀ Hi H σ, Ok X.K Hi M H → EnvR X.K Hi Γ σ → ∀ pins s, Inv X pins σ H s →
  wpAny (model X.prog X.w) X.A (eval e X.env) (fun u s' => ∃ x M1 Hi1 H1 s1, P x M1 ∧ Same Hi Hi1 ∧ Ok X.K Hi1 M1 H1 ∧ Inv X pins σ H1 s1 ∧ Inv X pins σ H1 s' ∧ (∀ b o, s1.heap.get? b = some o → s'.heap.get? b = some o) ∧
    GNew X.prog X.w X.K X.mg X.base k X.stack s1.heap.objs.size Tr H1 Hi1 x u s') X.xe s
section
variable {X : Cx} {Γ : Gam} {M : Mem} {k : AK} {pos : Pos}
theorem ws_of {st : Stmt} {D : Ends} {σ : L2.St} {H : Hp} (h : ∀ pins s, Inv X pins σ H s → wpAny (model X.prog X.w) X.A (exec st X.env) (SP X pins D) X.xe s) : WS X st D σ H :=
  ⟨fun D σ H => ∀ pins s, Inv X pins σ H s → wpAny (model X.prog X.w) X.A (exec st X.env) (SP X pins D) X.xe s, ⟨fun pins s σ H D I h => h pins s I⟩, h⟩
/-- what is younger than the generator's call -/
def chB (B : Nat) (h : Heap) : List Addr := (List.range h.objs.size).filter fun b => decide (B ≤ b)
theorem chB_mem {B : Nat} {h : Heap} {b : Addr} (hb : b ∈ chB B h) : B ≤ b := of_decide_eq_true (List.mem_filter.mp hb).2
theorem chB_not {B : Nat} {h : Heap} {b : Addr} {o : Obj} (e : h.get? b = some o) (hb : b ∉ chB B h) : b < B :=
  Nat.lt_of_not_le fun z => hb (List.mem_filter.mpr ⟨List.mem_range.mpr (Heap.lt_size e), decide_eq_true z⟩)
theorem un_cut {fs : List Addr} {B : Nat} {H H' : Hp} {h h' : Heap} (u : Un fs [] H H' (cutH B h) h') : Un fs (chB B h) H H' h h' where
  keep := fun b o e n hb hx => u.keep b o ((cut_get (chB_not e hx)).trans e) n hb (by simp)
  slot := fun b o e n hb hx => u.slot b o ((cut_get (chB_not e hx)).trans e) n hb (by simp)
  free := fun b o e n hx => u.free b o ((cut_get (chB_not e hx)).trans e) n (by simp)
  there := fun b o e hx => u.there b o ((cut_get (chB_not e hx)).trans e) (by simp)
  tups := u.tups
  frzs := u.frzs
  tbls := u.tbls
/-- the consumer's things are older than the generator -/
theorem aw_of {pins : List (Addr × Obj)} {σ : L2.St} {H : Hp} {s : Shared} (I : Inv X pins σ H s) {b : Addr} (h : s.heap.objs.size ≤ b) : Aw X pins b :=
  ⟨Nat.le_trans I.sz h, Nat.ne_of_gt (Nat.lt_of_lt_of_le I.lt h), fun x c e z => by
    obtain ⟨v, q⟩ := I.cell x c e
    have := q.lt
    rw [z] at this
    exact absurd (Nat.lt_of_lt_of_le this h) (Nat.lt_irrefl _), fun p hp z => by
    have := Heap.lt_size (I.pin p hp).1
    rw [z] at this
    exact absurd (Nat.lt_of_lt_of_le this h) (Nat.lt_irrefl _)⟩
/-- behind a run of the generator -/
theorem inv_ran {τ : Type} {G : GX τ} {W : Wkg τ} {pins : List (Addr × Obj)} {σ σc : L2.St} {Hi H Hc : Hp} {M : Mem} {sc s s' : Shared} (Ic : Inv X pins σc Hc sc) (hB : G.B = sc.heap.objs.size) (ho : G.outer = X.stack) (hP : G.P = X.prog) (hw : G.w = X.w) (I : Inv X pins σ W.H s) (v : Seen G W s Hi H M s') : Inv X pins σ H s' := by
  refine I.call' (ch := chB G.B s.heap) v.os (ho ▸ un_cut v.un) (by rw [← hP, ← hw]; exact v.hok) v.bare fun b hb => ?_
  have a := aw_of Ic (b := b) (hB ▸ chB_mem hb)
  exact ⟨.inr a.s0, fun z => a.loc z, a.cel, a.pin⟩
theorem as_forG {τ : Type} {Tr : τ → Mem → Hnd τ → Prop} {tg iter : Expr} {body : List Stmt} {kk : Nat} (hp : PassesOwn (model X.prog X.w) X.A X.env X.xe) (hr : Rm (kk + 1) X.A)
    (hi : aGn X iter Γ M kk Tr fun x M1 => ∃ (J : Nat → τ → Gam → Mem → Prop) (n : Nat), J n x Γ M1 ∧ ∀ n x Γ M, J n x Γ M → 0 < n ∧ Tr x M fun r M' => match r with
      | none => k.nx Γ M'
      | some (d, x') => aG X tg d Γ M' fun Γ2 M2 => aSs X body Γ2 M2 { k with nx := J (n - 1) x', ct := J (n - 1) x', bk := k.nx })
    (hxe : ∀ e s g, X.xe e { s with gens := g } → (AllBare g → AllBare s.gens) → X.xe e s := by intro _ _ _ h _; exact h)
    (hf : ∀ x, foldedSetIterable iter X.env x = pure x := by intro _; rfl) : aS X (.For tg iter body [] pos) Γ M k := fun Hi H σ ok en D q => by
  refine ws_of fun pins s I => ?_
  refine wpAny_For (thn (hi Hi H σ ok en pins s I) fun v s1 h1 => ?_) hf
  obtain ⟨x, M1, Hi1, H1, sc, ⟨J, n0, hJ0, hJ⟩, sm1, ok1, Ic, I1, kp, N, qual, scp, f, cdv, gp, g, c, ow0, nm, qn, rfl, hgc, hgd, hgs, hfresh, how, hgp, hA⟩ := h1
  have isg : ∀ {h : Heap}, h.get? gp.1 = some gp.2 → h.IsGen gp.1 g := fun e => ⟨gp.2, nm, qn, e, hgc, hgd, hgs⟩
  refine wpAny_pyIter_gen (isg (how gp hgp).1) ?_
  -- the wish of a wake
  let hnd : Nat → Gam → Hnd τ := fun n Γ r M' => match r with
    | none => k.nx Γ M'
    | some (d, x') => aG X tg d Γ M' fun Γ2 M2 => aSs X body Γ2 M2 { k with nx := J (n - 1) x', ct := J (n - 1) x', bk := k.nx }
  let Th : Nat → Wkg τ → Shared → Prop := fun n W s => ∃ σ Γ, Inv X pins σ W.H s ∧ EnvR X.K W.Hi Γ σ ∧ Same Hi W.Hi ∧ W.R = hnd n Γ
  obtain ⟨gok, hwake⟩ := hA X.A.in1 Th hr.in1 I1.ok.frames
  let G : GX τ := GX.mk X.prog X.w X.K X.mg X.base N qual scp f cdv X.A.in1 X.stack sc.heap.objs.size gp Tr Th
  have hap0 : ∀ (ow : Own), ∀ p ∈ ([] : List (Addr × Obj)), ∀ q ∈ ow, p.1 ≠ q.1 := fun _ p hp => absurd hp (by simp)
  refine codeAny_forLoop_any (fun n s' => ∃ (x : τ) (Γ' : Gam) (M' : Mem) (σ' : L2.St) (H' Hi' : Hp) (ow : Own) (gs : GenState), s'.gens[g]? = some gs ∧ Inv X pins σ' H' s' ∧ Ok X.K Hi' M' H' ∧ Same Hi Hi' ∧ EnvR X.K Hi' Γ' σ' ∧ J n x Γ' M' ∧ OwOk G ow H' s' ∧
    ∀ (W : Wkg τ) (s2 : Shared), Woke G n W s2 → W.x = x → Same Hi' W.Hi → OwOk G ow W.H s2 → (∀ p ∈ W.pn, ∀ q ∈ ow, p.1 ≠ q.1) → gs.Goes (model X.prog X.w) X.A.in1 (RG G) (YG G) n (.send .none) s2) ?_ n0
    ⟨x, Γ, M1, σ, H1, Hi1, ow0, _, hfresh, I1, ok1, sm1, en.mono sm1, hJ0, ⟨fun p hp => (how p hp).1, fun p hp => (how p hp).2.1, fun p hp => (how p hp).2.2, hgp⟩, fun W s2 wk hx sm ow hap => ⟨rfl, hwake n0 W s2 wk hx sm ow hap⟩⟩
  rintro n s' ⟨x, Γ', M', σ', H', Hi', ow, gs, hg, I', ok', sm', en', hJn, how, hsl⟩
  obtain ⟨hpos, htr⟩ := hJ n x Γ' M' hJn
  obtain ⟨m, rfl⟩ : ∃ m, n = m + 1 := ⟨n - 1, by omega⟩
  have egp : s'.heap.get? gp.1 = some gp.2 := how.at_ gp how.gp
  have hbare : AllBare (s'.setGen g .running).gens := allBare_setGen I'.bare rfl
  have I2 : Inv X pins σ' H' (s'.setGen g .running) := inv_gens I' hbare
  have wk : Woke G (m + 1) ⟨x, Hi', H', M', hnd (m + 1) Γ', []⟩ (s'.setGen g .running) :=
    { th := ⟨σ', Γ', I2, en', sm', rfl⟩, pos := hpos, tr := htr, ok := ok', le := Nat.le_of_lt (Nat.lt_trans gok.gpB (Heap.lt_size egp)), bs := I2.bs, funs := I2.stack, frf := I2.stkFree, hok := I2.hok, bare := hbare, pn := fun p hp => absurd hp (by simp) }
  have goes := hsl _ _ wk rfl (Same.refl _) ⟨how.at_, how.no, how.ab, how.gp⟩ (hap0 ow)
  have hgl : g + 1 ≤ s'.gens.size := (Array.getElem?_eq_some_iff.mp hg).1
  refine wpAny_passesOwn hp (wpAny_gsz (n := g + 1) hgl (next_S (F := EG G) hr.room.hd I'.nolimit hr.room.depth (isg egp) hg goes ?_ ?_))
  · intro v s3 k0 l0 c0 p0 f0 b0 hb hY hsz
    obtain ⟨W3, d, x', vv, M3, Hi3, H3, ow3, ⟨σ3, Γ3, I3, en3, sm3, hR3⟩, hR, rv, rep, seen, how3, _, hk⟩ := hY
    have hR : hnd (m + 1) Γ3 (some (d, x')) M3 := hR3 ▸ hR
    have I4 : Inv X pins σ3 H3 s3 := inv_ran Ic (G := G) rfl rfl rfl rfl I3 seen
    have b4 : AllBare (s3.setGen g (.suspended k0 l0 c0 p0 f0 b0)).gens := allBare_setGen I4.bare hb
    have szg : g < s3.gens.size := by
      rw [setGen_size] at hsz
      exact hsz
    have g4 : (s3.setGen g (.suspended k0 l0 c0 p0 f0 b0)).gens[g]? = some (.suspended k0 l0 c0 p0 f0 b0) := setGen_at szg
    have n3 : ∀ p ∈ ow3, H3 p.1 = none ∧ s3.heap.get? p.1 = some p.2 := fun p hp => ⟨how3.no p hp, how3.at_ p hp⟩
    have ni3 : ∀ p ∈ ow3, Hi3 p.1 = none := fun p hp => seen.ok.none (how3.no p hp)
    have I5 : Inv X pins σ3 (trk ow3 H3) (s3.setGen g (.suspended k0 l0 c0 p0 f0 b0)) := inv_trk (inv_gens I4 b4) n3 fun p hp => aw_of Ic (how3.ab p hp)
    have ok5 : Ok X.K (trk ow3 Hi3) M3 (trk ow3 H3) := ok_trk seen.ok how3.no
    have sm5 : Same W3.Hi (trk ow3 Hi3) := seen.sm.trans (same_trk ni3)
    refine wpAny_passesOwn hp (go_of (o := gp.2) (how3.at_ gp how3.gp) hgc hgd (by decide) ?_)
    -- the target
    obtain ⟨tgt, pg, htg⟩ := hR (trk ow3 Hi3) (trk ow3 H3) σ3 vv ok5 (en3.mono sm5) (rep.mono (same_trk ni3)) (fun σ6 H6 => ∃ Γ6 M6 Hi6, aSs X body Γ6 M6 { k with nx := J m x', ct := J m x', bk := k.nx } ∧ Same (trk ow3 Hi3) Hi6 ∧ Ok X.K Hi6 M6 H6 ∧ EnvR X.K Hi6 Γ6 σ6)
      (fun Γ6 M6 σ6 Hi6 H6 h6 s6 o6 e6 => ⟨Γ6, M6, Hi6, h6, s6, o6, e6⟩)
    refine wpAny_passesOwn hp (wpAny_mono (wpAny_slept (pg.run pins { s3.setGen g (.suspended k0 l0 c0 p0 f0 b0) with gens := twA (s3.setGen g (.suspended k0 l0 c0 p0 f0 b0)).gens } σ3 (trk ow3 H3) vv v _ (inv_gens I5 (bare_l (gtw_map _) b4)) rv htg)) (fun _ s6 h6 => ?_) fun e s6 ⟨g6, h6, tw6, _⟩ => ?_)
    · obtain ⟨g6, ⟨σ6, H6, I6, Γ6, M6, Hi6, hb6, sm6, ok6, en6⟩, tw6, st6⟩ := h6
      have b6 : AllBare s6.gens := bare_r tw6 I6.bare
      have I6' : Inv X pins σ6 H6 s6 := inv_gens (s := { s6 with gens := g6 }) (g := s6.gens) I6 b6
      have g6' := st6 g _ _ _ _ _ _ g4
      obtain ⟨tb, pb, htb⟩ := hb6 Hi6 H6 σ6 ok6 en6 _ gD_real
      refine wpAny_passesOwn hp (wpAny_mono (wpAny_slept (pb.run pins { s6 with gens := twA s6.gens } σ6 H6 _ (inv_gens I6' (bare_l (gtw_map _) b6)) htb)) (fun fl s7 h7 => ?_) fun e s7 ⟨g7, h7, tw7, _⟩ => ?_)
      · obtain ⟨g7, sp7, tw7, st7⟩ := h7
        have smx : Same Hi Hi6 := (sm3.trans sm5).trans sm6
        have fin : ∀ {σ8 : L2.St} {H8 Hi8 : Hp} {Γ8 : Gam} {M8 : Mem}, Inv X pins σ8 H8 { s7 with gens := g7 } → J m x' Γ8 M8 → Same Hi6 Hi8 → Ok X.K Hi8 M8 H8 → EnvR X.K Hi8 Γ8 σ8 → ∃ m', m' < m + 1 ∧ ∃ (x : τ) (Γ' : Gam) (M' : Mem) (σ' : L2.St) (H' Hi' : Hp) (ow : Own) (gs : GenState), s7.gens[g]? = some gs ∧ Inv X pins σ' H' s7 ∧ Ok X.K Hi' M' H' ∧ Same Hi Hi' ∧ EnvR X.K Hi' Γ' σ' ∧ J m' x Γ' M' ∧ OwOk G ow H' s7 ∧
            ∀ (W : Wkg τ) (s2 : Shared), Woke G m' W s2 → W.x = x → Same Hi' W.Hi → OwOk G ow W.H s2 → (∀ p ∈ W.pn, ∀ q ∈ ow, p.1 ≠ q.1) → gs.Goes (model X.prog X.w) X.A.in1 (RG G) (YG G) m' (.send .none) s2 := fun {σ8 H8 Hi8 Γ8 M8} I8 hJ8 sm8 ok8 en8 => by
          have b8 : AllBare s7.gens := bare_r tw7 I8.bare
          have I8' : Inv X pins σ8 H8 s7 := inv_gens (s := { s7 with gens := g7 }) (g := s7.gens) I8 b8
          have smt : Same (trk ow3 Hi3) Hi8 := sm6.trans sm8
          have raw : ∀ p ∈ ow3, Hi8 p.1 = some (rawH p.1 p.2) := fun p hp => by
            obtain ⟨o', e'⟩ := look_some (List.mem_map.mpr ⟨p, hp, rfl⟩)
            have e1 := (n3 (p.1, o') (look_mem e')).2
            have e2 := (n3 p hp).2
            have e3 : o' = p.2 := by
              have e1 : s3.heap.get? p.1 = some o' := e1
              rw [e2] at e1
              exact (Option.some.inj e1).symm
            rw [← e3]
            exact smt _ _ (trk_in e')
          have rawH8 : ∀ p ∈ ow3, H8 p.1 = some (rawH p.1 p.2) := fun p hp => ok8.im _ _ (raw p hp)
          have smu : Same Hi3 (unt ow3 Hi8) := same_unt ni3 smt
          refine ⟨m, Nat.lt_succ_self _, x', Γ8, M8, σ8, unt ow3 H8, unt ow3 Hi8, ow3, _, st7 g _ _ _ _ _ _ g6', inv_unt I8' fun p hp => ⟨_, rawH8 p hp⟩, ok_unt ok8 fun p hp => ⟨_, raw p hp⟩, (sm3.trans seen.sm).trans smu, en8.kp (kp_unt fun p hp => ⟨_, raw p hp⟩), hJ8,
            ⟨fun p hp => hok_raw I8'.hok (rawH8 p hp), fun p hp => unt_none p hp, how3.ab, how3.gp⟩, fun W s2 wk hx sm ow hap => hk W s2 wk hx (smu.trans sm) ow hap⟩
        have up : ∀ {σ8 : L2.St} {H8 : Hp}, Inv X pins σ8 H8 { s7 with gens := g7 } → Inv X pins σ8 H8 s7 := fun I8 => inv_gens (s := { s7 with gens := g7 }) (g := s7.gens) I8 (bare_r tw7 I8.bare)
        cases fl with
        | next =>
          obtain ⟨σ8, H8, I8, Γ8, M8, Hi8, hJ8, sm8, ok8, en8⟩ := sp7
          exact fin I8 hJ8 sm8 ok8 en8
        | cont =>
          obtain ⟨σ8, H8, I8, Γ8, M8, Hi8, hJ8, sm8, ok8, en8⟩ := sp7
          exact fin I8 hJ8 sm8 ok8 en8
        | brk =>
          obtain ⟨σ8, H8, I8, Γ8, M8, Hi8, h8, sm8, ok8, en8⟩ := sp7
          exact ⟨σ8, H8, up I8, q.nx Γ8 M8 σ8 Hi8 H8 h8 (smx.trans sm8) ok8 en8⟩
        | ret u =>
          obtain ⟨v8, σ8, H8, I8, rv8, d8, M8, Hi8, h8, sm8, ok8, r8⟩ := sp7
          exact ⟨v8, σ8, H8, up I8, rv8, q.rt d8 M8 v8 Hi8 H8 h8 (smx.trans sm8) ok8 r8⟩
      · exact hxe e s7 g7 h7 (bare_r tw7)
    · exact hxe e s6 g6 h6 (bare_r tw6)
  · intro s3 hE h' hk _
    obtain ⟨W3, M3, Hi3, H3, ⟨σ3, Γ3, I3, en3, sm3, hR3⟩, hR, seen⟩ := hE
    have hR : hnd (m + 1) Γ3 none M3 := hR3 ▸ hR
    have I4 : Inv X pins σ3 H3 s3 := inv_ran Ic (G := G) rfl rfl rfl rfl I3 seen
    have I5 : Inv X pins σ3 H3 { s3 with heap := h' } := I4.kept (t' := s3.toks) hk
    have I6 : Inv X pins σ3 H3 { s3.setGen g .finished with heap := h' } := inv_gens I5 (allBare_setGen I4.bare rfl)
    exact wpAny_execs_nil ⟨σ3, H3, I6, q.nx Γ3 M3 σ3 Hi3 H3 hR (sm3.trans seen.sm) seen.ok (en3.mono seen.sm)⟩
end
end Ab
/-! calls of generator defs -/
namespace Ab
open PySem PySem.Spec PyProof.Rows L2 GenW
section
variable {X : Cx} {Γ : Gam} {M : Mem} {e o : Expr} {es : List Expr} {kws : List Keyword} {pos p1 apos : Pos} {x m : Str} {n : Nat} {f C : Addr} {ks : List Str} {τ : Type} {Tr : τ → Mem → Hnd τ → Prop} {s0 : List Val → List Val → τ → Prop} {P : τ → Mem → Prop}
/-- what a call gives -/
def GnQ (X : Cx) (n : Nat) (pins : List (Addr × Obj)) (σ : L2.St) (Hi : Hp) (Tr : τ → Mem → Hnd τ → Prop) (P : τ → Mem → Prop) (u : Value) (s' : Shared) : Prop := ∃ x M1 Hi1 H1 s1, P x M1 ∧ Same Hi Hi1 ∧ Ok X.K Hi1 M1 H1 ∧ Inv X pins σ H1 s1 ∧ Inv X pins σ H1 s' ∧ (∀ b o, s1.heap.get? b = some o → s'.heap.get? b = some o) ∧
    GNew X.prog X.w X.K X.mg X.base n X.stack s1.heap.objs.size Tr H1 Hi1 x u s'
theorem run_gn {pins : List (Addr × Obj)} {σ : L2.St} {H Hi Hi0 : Hp} {M2 : Mem} {s : Shared} {us ws : List Value} {vs zs : List V} {ds es : List Val} {x : τ} (F : GnX X.prog X.w X.K X.mg X.base n f ks Tr s0) (hr : Rm n X.A)
    (I : Inv X pins σ H s) (r : Vals vs us) (rz : Vals zs ws) (l2 : zs.length = ks.length) (rd : RepA X.K Hi ds vs) (re : RepA X.K Hi es zs) (h : s0 ds es x) (hp : P x M2) (sm : Same Hi0 Hi) (ok : Ok X.K Hi M2 H) : wpAny (model X.prog X.w) X.A (call (.ref f) us (ks.zip ws)) (GnQ X n pins σ Hi0 Tr P) X.xe s := by
  refine wpAny_call (codeAny_mono (F.run X.A X.stack s H Hi us ws vs zs ds es x hr I.env0 r rz l2 rd re h) fun r s' hq => ?_)
  cases r with
  | error e => exact False.elim hq
  | ok fl =>
    cases fl with
    | ret u =>
      obtain ⟨h1, h2, h3, h4⟩ := hq
      exact ⟨x, M2, Hi, H, s, hp, sm, ok, I, I.call' (ch := []) h2 (Un.kept h4) (I.hok.kept h4) h3 (fun b z => absurd z (by simp)), h4, h1⟩
    | next => exact False.elim hq
    | brk => exact False.elim hq
    | cont => exact False.elim hq
/-- f(e, .., k = v, ..) -/
theorem agn_call (F : GnX X.prog X.w X.K X.mg X.base n f ks Tr s0) (hr : Rm n X.A) (hm : X.mg x = some (.ref f)) (hk : PySem.W.keepIn X.K (.ref f) = true) (h : aA X (e :: es) Γ M fun ds M1 => aKw X kws Γ M1 fun zs M2 => zs.length = ks.length ∧ ∃ x, s0 ds zs x ∧ P x M2)
    (hg : Gl X x := by rfl) (hall : (backToKw pos (keywordEach kws X.env)).all (·.1.isSome) = true := by rfl) (hks : (backToKw pos (keywordEach kws X.env)).filterMap (·.1) = ks := by rfl) (hdb : (x == ("__debug__" : Str)) = false := by decide)
    (he : starEach (e :: es) X.env = (false, eval e X.env) :: starEach es X.env := by rfl) (hpl : ((backTo pos (starEach (e :: es) X.env)).any (·.1) || (backToKw pos (keywordEach kws X.env)).any (·.1.isNone)) = false := by rfl) : aGn X (.Call (.Name x p1) (e :: es) kws pos) Γ M n Tr P := fun Hi H σ ok en pins s I => by
  have hW := h Hi H σ ok en (fun vs H1 => WK X kws σ H1 fun zs H2 => ∃ ds es' y Hi2 M2, zs.length = ks.length ∧ RepA X.K Hi2 ds vs ∧ RepA X.K Hi2 es' zs ∧ s0 ds es' y ∧ P y M2 ∧ Same Hi Hi2 ∧ Ok X.K Hi2 M2 H2) fun ds M1 vs Hi1 H1 h1 s1 ok1 r1 =>
    h1 Hi1 H1 σ ok1 (en.mono s1) _ fun zs M2 ws Hi2 H2 h2 s2 ok2 r2 => by
      obtain ⟨l2, y, hy, hp⟩ := h2
      exact ⟨ds, zs, y, Hi2, M2, r2.length.symm.trans l2, r1.mono s2, r2, hy, hp, s1.trans s2, ok2⟩
  refine wpAny_Call_Name_kw (ld_glob I hg hm ?_ hdb)
  refine PySem.W.callWith_KW (h₀ := X.base) I.ok.mod.kin hk hall (thn (pa_wa.run pos pins s σ H _ I hW) fun us s1 ⟨vs, H1, I1, r, q⟩ => ?_) hpl he
  refine thn (pk_wk.run pos pins s1 σ H1 _ I1 q) fun ws s2 ⟨zs, H2, I2, rz, ds, es', y, Hi2, M2, l2, rd, re, hy, hp, sm, ok2⟩ => ⟨I2.kIn, ?_⟩
  rw [hks]
  exact run_gn F hr I2 r rz l2 rd re hy hp sm ok2
/-- a generator def that stands under a global name -/
structure GdN (P : Program) (w : World) (K : PySem.W.Frag) (mg : Str → Option Value) (base : Heap) (k : Nat) (x : Str) (ks : List Str) {τ : Type} (Tr : τ → Mem → Hnd τ → Prop) (s0 : List Val → List Val → τ → Prop) : Prop where
  ex : ∃ f, GnX P w K mg base k f ks Tr s0 ∧ mg x = some (.ref f) ∧ PySem.W.keepIn K (.ref f) = true
theorem GnX.mono {P : Program} {w : World} {K : PySem.W.Frag} {mg : Str → Option Value} {base : Heap} {j k : Nat} (F : GnX P w K mg base j f ks Tr s0) (h : j ≤ k) : GnX P w K mg base k f ks Tr s0 := ⟨fun A outer s H Hi us ws vs zs ds es x hr e0 r rz l rd re hs =>
  codeAny_mono (F.run A outer s H Hi us ws vs zs ds es x (hr.mono h) e0 r rz l rd re hs) fun r s' hq => by
    cases r with
    | error e => exact hq
    | ok fl =>
      cases fl with
      | ret u =>
        obtain ⟨⟨N, qual, sc, f, cdv, gp, g, c, ow, nm, qn, h1, h2, h3, h4, h5, h6, h7, h8⟩, h9⟩ := hq
        exact ⟨⟨N, qual, sc, f, cdv, gp, g, c, ow, nm, qn, h1, h2, h3, h4, h5, h6, h7, fun A Th hr => h8 A Th (hr.mono h)⟩, h9⟩
      | next => exact hq
      | brk => exact hq
      | cont => exact hq⟩
theorem agn_g {q : Nat} (G : GdN X.prog X.w X.K X.mg X.base n x ks Tr s0) (hr : Rm q X.A) (hnm : n ≤ q) (h : aA X (e :: es) Γ M fun ds M1 => aKw X kws Γ M1 fun zs M2 => zs.length = ks.length ∧ ∃ x, s0 ds zs x ∧ P x M2)
    (hg : Gl X x := by rfl) (hall : (backToKw pos (keywordEach kws X.env)).all (·.1.isSome) = true := by rfl) (hks : (backToKw pos (keywordEach kws X.env)).filterMap (·.1) = ks := by rfl) (hdb : (x == ("__debug__" : Str)) = false := by decide)
    (he : starEach (e :: es) X.env = (false, eval e X.env) :: starEach es X.env := by rfl) (hpl : ((backTo pos (starEach (e :: es) X.env)).any (·.1) || (backToKw pos (keywordEach kws X.env)).any (·.1.isNone)) = false := by rfl) : aGn X (.Call (.Name x p1) (e :: es) kws pos) Γ M q Tr P := by
  obtain ⟨f, F, hm, hk⟩ := G.ex
  exact agn_call (F.mono hnm) hr hm hk h hg hall hks hdb he hpl
end
end Ab
/-! a for within a generator's body -/
namespace Ab
open PySem PySem.Spec PyProof.Rows L2 GenW
section
variable {τ : Type} {G : GX τ} {n : Nat} {R : Hnd τ} {Γ : Gam} {M : Mem} {k : KG τ}
theorem GIv.pinned {ip : List (Addr × Obj)} {W : Wkg τ} {s₀ s : Shared} {σ : L2.St} {H Hi : Hp} {fp : List Addr} (v : GIv G ip n W s₀ s σ H Hi M) (hf : ∀ b ∈ fp, FpOk (G.cx W.H s₀ W.pn) ip H b) (ho : ∀ b ∈ fp, ∃ o, s.heap.get? b = some o ∧ ∀ v, o.data ≠ .cell v) (hw : ∀ p ∈ W.pn, ∀ b ∈ fp, p.1 ≠ b) : GIv G (ip ++ pinsAt fp s.heap) n W s₀ s σ H Hi M :=
  ⟨v.th, v.sm, v.inv.pinned hf ho, v.ok, fun p hp q hq => by
    rcases List.mem_append.mp hq with hq | hq
    · exact v.ap p hp q hq
    · exact hw p hp q.1 (of_pinsAt hq).1, v.le, v.gpn⟩
theorem GIv.unpinned {ip pl : List (Addr × Obj)} {W : Wkg τ} {s₀ s : Shared} {σ : L2.St} {H Hi : Hp} (v : GIv G (ip ++ pl) n W s₀ s σ H Hi M) : GIv G ip n W s₀ s σ H Hi M :=
  ⟨v.th, v.sm, v.inv.unpinned, v.ok, fun p hp q hq => v.ap p hp q (List.mem_append_left _ hq), v.le, v.gpn⟩
theorem g_for {tg iter : Expr} {body : List Stmt} {pos : Pos}
    (hi : ∀ H s pn, aJ (G.cx H s pn) tg iter Γ M fun cnt it M1 => ∃ I : Nat → Nat → Hnd τ → Gam → Mem → Prop, I 0 n R Γ M1 ∧
      (∀ i n R Γ M, i < cnt → I i n R Γ M → ∀ H s pn, aG (G.cx H s pn) tg (it i) Γ M fun Γ2 M2 => gSs G body n R Γ2 M2 { k with nx := I (i + 1), ct := I (i + 1), bk := k.nx }) ∧ ∀ n R Γ M, I cnt n R Γ M → k.nx n R Γ M)
    (hf : ∀ x, foldedSetIterable iter G.env x = pure x := by intro _; rfl) : gS G (.For tg iter body [] pos) n R Γ M k := fun go ip W s₀ cd fs Kc Jc gd lv s σ H Hi g v hR en kk => by
  subst hR
  obtain ⟨t, p, ht⟩ := hi W.H s₀ W.pn Hi H σ v.ok en (fun J H1 => ∃ cnt it M1 Hi1, (∃ I : Nat → Nat → Hnd τ → Gam → Mem → Prop, I 0 n W.R Γ M1 ∧
      (∀ i n R Γ M, i < cnt → I i n R Γ M → ∀ H s pn, aG (G.cx H s pn) tg (it i) Γ M fun Γ2 M2 => gSs G body n R Γ2 M2 { k with nx := I (i + 1), ct := I (i + 1), bk := k.nx }) ∧ ∀ n R Γ M, I cnt n R Γ M → k.nx n R Γ M) ∧ Same Hi Hi1 ∧ Ok G.K Hi1 M1 H1 ∧
      Walk J cnt (fun H' => ∃ Hi' M', Same Hi1 Hi' ∧ Ok G.K Hi' M' H') (fun i H' v H'' => ∀ Hi' M', Same Hi1 Hi' → Ok G.K Hi' M' H' → ∃ Hi'', Same Hi' Hi'' ∧ Ok G.K Hi'' M' H'' ∧ Rep G.K Hi'' (it i) v)) fun J n it M1 Hi1 H1 hp s1 o1 w => ⟨n, it, M1, Hi1, hp, s1, o1, w⟩
  rw [exec_For]
  refine seg_bind_wrap (wpAny_standAt ?_)
  refine seg_bind_wrap ?_
  rw [g.over]
  refine wpAny_mono (p.run ip s σ H _ v.inv ht) (fun x s1 h1 => ?_) fun x s' hx => hx.elim
  refine seg_bind_wrap (wpAny_of_eq (hf x) ?_)
  refine seg_bind_wrap (wpAny_standAt ?_)
  refine seg_bind_wrap (wpAny_holding ?_)
  rw [g.over]
  refine wpAny_mono h1 (fun itv s2 h2 => ?_) fun x s' hx => hx.elim
  obtain ⟨it, fp, tn, J, H2, rfl, I2, T, st2, f2, cnt, itf, M1, Hi1, ⟨I, h0, hs, hd⟩, sm1, ok1, wk⟩ := h2
  show SegG G n s₀ cd (((runOwn (.forLoop tg (.ref it) body [] G.env) G.env)).wrap Kc Jc gd lv) fs s2
  refine seg_call fun pp => ?_
  have gl := fun (kr : Result → Sem PySem.Fin) => gct_loop (kr := kr) (c' := .forLoop tg (.ref it) body [] G.env) (l := lv []) (kp := []) (p := pp) g rfl rfl
  have fB : ∀ b ∈ fp, G.B ≤ b := fun b hb => by
    obtain ⟨_, _, _, h4, _⟩ := f2 b hb
    rcases h4 with z | z
    · exact absurd z (by simp)
    · have h6 : (cutS G.B s₀).heap.objs.size = G.B := cut_size v.le
      rw [← h6]
      exact z
  -- what stays true of the iterator's objects
  have stat : ∀ {W' : Wkg τ} {s' : Shared} {H' : Hp}, G.B ≤ s'.heap.objs.size → (∀ b ∈ fp, H' b = none) → (∀ p ∈ W'.pn, ∀ b ∈ fp, p.1 ≠ b) → ∀ b ∈ fp, FpOk (G.cx W'.H s' W'.pn) ip H' b := fun {W' s' H'} hle hn hw b hb => by
    obtain ⟨_, h2, h3, _, h5, h6⟩ := f2 b hb
    refine ⟨hn b hb, h2, h3, .inr ?_, h5, fun q hq => ?_⟩
    · show (cutS G.B s').heap.objs.size ≤ b
      rw [show (cutS G.B s').heap.objs.size = G.B from cut_size hle]
      exact fB b hb
    · rcases List.mem_append.mp hq with hq | hq
      · rcases List.mem_cons.mp hq with hq | hq
        · exact h6 q (List.mem_append_left _ (by rw [hq]; exact List.mem_cons_self))
        · exact hw q hq b hb
      · exact h6 q (List.mem_append_right _ hq)
  have loop : ∀ (r i n : Nat) (W : Wkg τ) (Γ : Gam) (M : Mem) (s₀ s : Shared) (σ : L2.St) (H Hi : Hp), i + r = cnt → I i n W.R Γ M → GIv G ip n W s₀ s σ H Hi M → Same Hi1 Hi → EnvR G.K Hi Γ σ → tn i s.heap → (∀ b ∈ fp, H b = none) → (∀ p ∈ W.pn, ∀ b ∈ fp, p.1 ≠ b) →
      SegG G n s₀ (.forLoop tg (.ref it) body [] G.env) ((model G.P G.w).den (.forLoop tg (.ref it) body [] G.env))
        (.ret (fun r => ((match r with | .ok f => (.pure f : Sem Flow) | .error e => .raise e).onRaise (cameBack G.env)).wrap Kc Jc gd lv) none (gd false) (lv []) cd pp [] :: fs) s := by
    intro r
    induction r with
    | zero =>
      intro i n W Γ M s₀ s σ H Hi hir hI v sm en st fr hw
      have hic : i = cnt := by omega
      subst hic
      show SegG G n s₀ _ ((forTurn tg (.ref it) body [] G.env).onRaise _) _ _
      rw [Sem.onRaise_eq_wrap]
      unfold forTurn
      refine seg_bind_wrap (wpAny_standAt ?_)
      refine seg_bind_wrap (wpAny_onRaise ?_)
      rw [(gl _).over]
      refine wpAny_mono (T.done (G.cx W.H s₀ W.pn) rfl rfl rfl rfl i ip s σ H (fun _ _ => False) v.inv (stat v.le fr hw) st (wk.stops H ⟨Hi, M, sm, v.ok⟩)) (fun r' s' h' => ?_) fun x s' hx => hx.elim
      obtain ⟨rfl, I'⟩ := h'
      refine seg_again rfl ?_
      exact seg_leaf (.ok .next) (kk.nx n W s₀ s' σ H Hi Γ M (v.to I' (Same.refl _) v.ok) (sm1.trans sm) en (hd n W.R Γ M hI))
    | succ r ih =>
      intro i n W Γ M s₀ s σ H Hi hir hI v sm en st fr hw
      have hic : i < cnt := by omega
      show SegG G n s₀ _ ((forTurn tg (.ref it) body [] G.env).onRaise _) _ _
      rw [Sem.onRaise_eq_wrap]
      unfold forTurn
      refine seg_bind_wrap (wpAny_standAt ?_)
      refine seg_bind_wrap (wpAny_onRaise ?_)
      rw [(gl _).over]
      refine wpAny_mono (T.item (G.cx W.H s₀ W.pn) rfl rfl rfl rfl i ip s σ H (fun _ _ => False) v.inv (stat v.le fr hw) st (wk.goes i H hic ⟨Hi, M, sm, v.ok⟩)) (fun r' s4 h4 => ?_) fun x s' hx => hx.elim
      obtain ⟨u, rfl, h4⟩ := h4
      refine seg_bind_wrap ?_
      rw [(gl _).over]
      refine wpAny_mono h4 (fun _ s5 h5 => ?_) fun x s' hx => hx.elim
      obtain ⟨x5, H5, I5, r5, y5, st5, fr5⟩ := h5
      obtain ⟨Hi5, sm5, ok5, rep5⟩ := wk.yields i H x5 H5 hic ⟨Hi, M, sm, v.ok⟩ y5 Hi M sm v.ok
      have v5 := (v.to I5 sm5 ok5).pinned (stat v.le fr5 hw) (T.obj _ _ st5) hw
      obtain ⟨tq, pg, hg⟩ := hs i n W.R Γ M hic hI W.H s₀ W.pn Hi5 H5 σ x5 ok5 (en.mono sm5) rep5 (fun σ6 H6 => ∃ Γ6 M6 Hi6, gSs G body n W.R Γ6 M6 { k with nx := I (i + 1), ct := I (i + 1), bk := k.nx } ∧ Same Hi5 Hi6 ∧ Ok G.K Hi6 M6 H6 ∧ EnvR G.K Hi6 Γ6 σ6) (fun Γ6 M6 σ6 Hi6 H6 h6 s6 o6 e6 => ⟨Γ6, M6, Hi6, h6, s6, o6, e6⟩)
      refine seg_bind_wrap ?_
      rw [(gl _).over]
      refine wpAny_mono (pg.run _ s5 σ H5 x5 u _ v5.inv r5 hg) (fun _ s6 h6 => ?_) fun x s' hx => hx.elim
      obtain ⟨σ6, H6, I6, Γ6, M6, Hi6, hb6, sm6, ok6, en6⟩ := h6
      have v6 := v5.to I6 sm6 ok6
      rw [Sem.bind_eq_wrap', Sem.wrap_wrap]
      have next : ∀ n' W' s3 s' σ' H' Hi' Γ' M', GIv G (ip ++ pinsAt fp s5.heap) n' W' s3 s' σ' H' Hi' M' → EnvR G.K Hi' Γ' σ' → I (i + 1) n' W'.R Γ' M' → Same Hi1 Hi' → SegG G n' s3 (.forLoop tg (.ref it) body [] G.env) (.pure (.again (.forLoop tg (.ref it) body [] G.env)))
          (.ret (fun r => ((match r with | .ok f => (.pure f : Sem Flow) | .error e => .raise e).onRaise (cameBack G.env)).wrap Kc Jc gd lv) none (gd false) (lv []) cd pp [] :: fs) s' := fun n' W' s3 s' σ' H' Hi' Γ' M' v' en' hI' sm' => by
        refine seg_again rfl (ih (i + 1) n' W' Γ' M' s3 s' σ' H' Hi' (by omega) hI' v'.unpinned sm' en' ?_ ?_ ?_)
        · exact T.keep _ _ _ st5 fun b hb o e => (v'.inv.pin (b, o) (List.mem_append_right _ (List.mem_append_right _ (mem_pinsAt hb e)))).1
        · intro b hb
          obtain ⟨o, e, _⟩ := T.obj _ _ st5 b hb
          exact (v'.inv.pin (b, o) (List.mem_append_right _ (List.mem_append_right _ (mem_pinsAt hb e)))).2.1
        · intro p hp b hb
          obtain ⟨o, e, _⟩ := T.obj _ _ st5 b hb
          exact v'.ap p hp (b, o) (List.mem_append_right _ (mem_pinsAt hb e))
      have smx : Same Hi1 Hi6 := (sm.trans sm5).trans sm6
      refine hb6 go (ip ++ pinsAt fp s5.heap) W s₀ _ _ _ _ _ _ s6 σ6 H6 Hi6 ?_ v6 rfl en6 ⟨?_, ?_, ?_, ?_⟩
      · have gq := gl (fun r => ((match r with | .ok f => (.pure f : Sem Flow) | .error e => .raise e).onRaise (cameBack G.env)).wrap Kc Jc gd lv)
        exact ⟨gq.over, gq.split, gq.guard, gq.gd, fun p hp => (List.mem_append.mp hp).elim (fun z => g.ip p z) fun z => fB p.1 (of_pinsAt z).1⟩
      · intro n' W' s3 s' σ' H' Hi' Γ' M' v' sm' en' hI'
        exact next n' W' s3 s' σ' H' Hi' Γ' M' v' en' hI' (smx.trans sm')
      · intro n' W' s3 s' σ' H' Hi' Γ' M' v' sm' en' hI'
        exact seg_leaf (.ok .next) (kk.nx n' W' s3 s' σ' H' Hi' Γ' M' v'.unpinned ((sm1.trans smx).trans sm') en' hI')
      · intro n' W' s3 s' σ' H' Hi' Γ' M' v' sm' en' hI'
        exact next n' W' s3 s' σ' H' Hi' Γ' M' v' en' hI' (smx.trans sm')
      · intro n' W' s3 s' σ' H' Hi' d vv uu M' v' sm' r' rv' hI'
        exact seg_leaf (.ok (.ret uu)) (kk.rt n' W' s3 s' σ' H' Hi' d vv uu M' v'.unpinned ((sm1.trans smx).trans sm') r' rv' hI')
  exact loop cnt 0 n W Γ M1 s₀ s2 σ H2 Hi1 (Nat.zero_add _) h0 (v.to I2 sm1 ok1) (Same.refl _) (en.mono sm1) st2 (fun b hb => (f2 b hb).1) fun p hp b hb => (f2 b hb).2.2.2.2.2 p (List.mem_append_left _ (List.mem_cons_of_mem _ hp))
end
end Ab
/-! dicts: keys that are ints or texts, get, locking, walking -/
namespace Ab
open PySem PySem.Spec PyProof.Rows L2
def kD : Key → Val
  | .inl i => .int i
  | .inr x => .str x
theorem kD_rep {K : PySem.W.Frag} {H : Hp} {k : Key} : Rep K H (kD k) (kV k) := by
  cases k with
  | inl i => exact .int i
  | inr x => exact .str x
theorem rep_kD {K : PySem.W.Frag} {H : Hp} {k : Key} {v : V} (r : Rep K H (kD k) v) : v = kV k := by
  cases k with
  | inl i => cases r; rfl
  | inr x => cases r; rfl
/-- a dict at p, locked or not -/
def DkAt (M : Mem) (p : Addr) (ds : List (Key × Val)) : Prop := ∃ n : Nat, M[n]? = some (p, .dk ds) ∨ ∃ od kvs, M[n]? = some (p, .b (.fz od kvs ds))
theorem DkAt.dk {M : Mem} {p : Addr} {ds : List (Key × Val)} (n : Nat) (h : M[n]? = some (p, .dk ds)) : DkAt M p ds := ⟨n, .inl h⟩
theorem DkAt.fz {M : Mem} {p : Addr} {ds : List (Key × Val)} {od : Obj} {kvs : List (Key × V)} (n : Nat) (h : M[n]? = some (p, .b (.fz od kvs ds))) : DkAt M p ds := ⟨n, .inr ⟨od, kvs, h⟩⟩
theorem DkAt.rd {K : PySem.W.Frag} {M : Mem} {p : Addr} {ds : List (Key × Val)} {Hi H : Hp} (h : DkAt M p ds) (ok : Ok K Hi M H) : ∃ kvs, Rd H p (.dK kvs) ∧ RepK K Hi ds kvs := by
  obtain ⟨n, h | ⟨od, kvs, h⟩⟩ := h
  · obtain ⟨_, o, ho, ks, rfl, rk⟩ := ok.get h
    exact ⟨ks, .inl ho, rk⟩
  · obtain ⟨_, o, ho, rfl, rk⟩ := ok.get h
    exact ⟨kvs, .inr ⟨od, ho⟩, rk⟩
section
variable {X : Cx} {Γ : Gam} {M : Mem} {P : Val → Mem → Prop} {e a b c o : Expr} {pos p1 apos ppos : Pos} {k : AK} {d d1 : Val} {kk : Key} {p : Addr} {ds : List (Key × Val)}
/-- d.get(k, x) -/
theorem av_dgetD (hu : X.A.units + 1 < cLine) (ha : aV X a Γ M (.ptr p)) (hb : aV X b Γ M (kD kk)) (hc : aV X c Γ M d1) (hm : DkAt M p ds) (hbase : attributeBase a "get" X.env (eval a X.env) = eval a X.env := by rfl)
    (hfew : ((backTo pos (starEach [b, c] X.env)).all (fun x => !x.1) && (backToKw pos (keywordEach [] X.env)).all (fun x => x.1.isSome) && decide (([b, c] : List Expr).length + ([] : List Keyword).length + (if ([] : List Keyword).isEmpty then 0 else 1) < 30)) = true := by rfl)
    (hline : (apos.endLine == pos.line) = true := by rfl) (htr : backTo pos (starEach [b, c] X.env) = [(false, eval b X.env), (false, eval c X.env)] := by rfl) : aV X (.Call (.Attribute a "get" apos) [b, c] [] pos) Γ M ((dGet ds kk).getD d1) := fun Hi H σ ok en Q q => by
  refine ⟨_, pe_dget2 hu pe_we pe_we pe_we ⟨hbase, hfew, hline, htr⟩, ?_⟩
  refine ha Hi H σ ok en _ fun x M1 v Hi1 H1 h1 s1 ok1 r1 => ?_
  obtain ⟨rfl, rfl⟩ := h1
  cases r1
  obtain ⟨ks, rd, rk⟩ := hm.rd ok1
  refine ⟨p, rfl, .inl ⟨ks, rd⟩, ?_⟩
  refine hb Hi1 H1 σ ok1 (en.mono s1) _ fun y M2 w Hi2 H2 h2 s2 ok2 r2 => ?_
  obtain ⟨rfl, rfl⟩ := h2
  obtain rfl := rep_kD r2
  refine hc Hi2 H2 σ ok2 (en.mono (s1.trans s2)) _ fun z M3 u Hi3 H3 h3 s3 ok3 r3 => ?_
  obtain ⟨rfl, rfl⟩ := h3
  obtain ⟨ks3, rd3, rk3⟩ := hm.rd ok3
  refine ⟨valV ks3 kk, .inl ⟨ks3, kk, rd3, rfl, rfl⟩, q _ _ _ Hi3 H3 ⟨rfl, rfl⟩ ((s1.trans s2).trans s3) ok3 ?_⟩
  cases hg : dGet ds kk with
  | none =>
    rw [rk3.noKey hg]
    exact r3
  | some d2 =>
    obtain ⟨z2, hz, rz⟩ := rk3.get hg
    rw [hz]
    exact rz
/-- .. a statement -/
theorem as_lock {n : Nat} {st : Stmt} (hm : M[n]? = some (p, .dk ds)) (h : ∀ od kvs, aS X st Γ (M.set n (p, .b (.fz od kvs ds)))
    { nx := fun Γ' M' => ∃ i : Nat, M'[i]? = some (p, .b (.fz od kvs ds)) ∧ k.nx Γ' (M'.set i (p, .dk ds)), rt := fun d M' => ∃ i : Nat, M'[i]? = some (p, .b (.fz od kvs ds)) ∧ k.rt d (M'.set i (p, .dk ds)),
      bk := fun Γ' M' => ∃ i : Nat, M'[i]? = some (p, .b (.fz od kvs ds)) ∧ k.bk Γ' (M'.set i (p, .dk ds)), ct := fun Γ' M' => ∃ i : Nat, M'[i]? = some (p, .b (.fz od kvs ds)) ∧ k.ct Γ' (M'.set i (p, .dk ds)) }) : aS X st Γ M k := fun Hi H σ ok en D q => by
  refine ws_of fun pins s I => ?_
  obtain ⟨_, o, ho, kvs, rfl, rk⟩ := ok.get hm
  have hn := I.nofrz ho trivial
  obtain ⟨od, I1⟩ := I.lock ho trivial
  have ok1 : Ok X.K Hi (M.set n (p, .b (.fz od kvs ds))) (upd H p (.frz od (.dK kvs))) := ok.set hm ⟨rfl, rk⟩
  obtain ⟨t, pe, ht⟩ := h od kvs Hi _ σ ok1 en _ gD_real
  refine thn (pe.run pins s σ _ _ I1 ht) fun f s2 hs => ?_
  cases f with
  | next =>
    obtain ⟨σ2, H2, I2, Γ', M', Hi', ⟨i, h1, h2⟩, s1, o1, e1⟩ := hs
    obtain ⟨_, o2, ho2, rfl, rk2⟩ := o1.get h1
    exact ⟨σ2, upd H2 p (.dK kvs), I2.unlock ho2 hn, q.nx Γ' _ σ2 Hi' _ h2 s1 (o1.set h1 ⟨kvs, rfl, rk2⟩) e1⟩
  | brk =>
    obtain ⟨σ2, H2, I2, Γ', M', Hi', ⟨i, h1, h2⟩, s1, o1, e1⟩ := hs
    obtain ⟨_, o2, ho2, rfl, rk2⟩ := o1.get h1
    exact ⟨σ2, upd H2 p (.dK kvs), I2.unlock ho2 hn, q.bk Γ' _ σ2 Hi' _ h2 s1 (o1.set h1 ⟨kvs, rfl, rk2⟩) e1⟩
  | cont =>
    obtain ⟨σ2, H2, I2, Γ', M', Hi', ⟨i, h1, h2⟩, s1, o1, e1⟩ := hs
    obtain ⟨_, o2, ho2, rfl, rk2⟩ := o1.get h1
    exact ⟨σ2, upd H2 p (.dK kvs), I2.unlock ho2 hn, q.ct Γ' _ σ2 Hi' _ h2 s1 (o1.set h1 ⟨kvs, rfl, rk2⟩) e1⟩
  | ret u =>
    obtain ⟨v, σ2, H2, I2, rv, d, M', Hi', ⟨i, h1, h2⟩, s1, o1, r1⟩ := hs
    obtain ⟨_, o2, ho2, rfl, rk2⟩ := o1.get h1
    exact ⟨v, σ2, upd H2 p (.dK kvs), I2.unlock ho2 hn, rv, q.rt d _ v Hi' _ h2 s1 (o1.set h1 ⟨kvs, rfl, rk2⟩) r1⟩
/-- while G: the locked dict is there -/
def Lk (p : Addr) (od : Obj) (kvs : List (Key × V)) (ds : List (Key × Val)) (M : Mem) : Prop := ∃ n : Nat, M[n]? = some (p, .b (.fz od kvs ds))
theorem Lk.rd {K : PySem.W.Frag} {od : Obj} {kvs : List (Key × V)} {Hi H : Hp} (h : Lk p od kvs ds M) (ok : Ok K Hi M H) : H p = some (.frz od (.dK kvs)) ∧ RepK K Hi ds kvs := by
  obtain ⟨n, h⟩ := h
  obtain ⟨_, o, ho, rfl, rk⟩ := ok.get h
  exact ⟨ho, rk⟩
theorem repk_at {K : PySem.W.Frag} {H : Hp} : ∀ {ds : List (Key × Val)} {kvs : List (Key × V)} {i : Nat} {k : Key} {v : V}, RepK K H ds kvs → kvs[i]? = some (k, v) → ∃ d, ds[i]? = some (k, d) ∧ Rep K H d v
  | _, _, i, k, v, .nil, e => by simp at e
  | _, _, 0, k, v, .cons (f := f) (d := d) a r, e => by
    simp at e
    obtain ⟨rfl, rfl⟩ := e
    exact ⟨d, rfl, a⟩
  | _, _, i + 1, k, v, .cons a r, e => by
    obtain ⟨d, h1, h2⟩ := repk_at (i := i) r (by simpa using e)
    exact ⟨d, by simpa using h1, h2⟩
/-- the keys -/
theorem ai_keysZ {tg : Expr} {od : Obj} {kvs : List (Key × V)} {R : Mem → Prop} (ha : aE X a Γ M fun x M1 => x = .ptr p ∧ Lk p od kvs ds M1 ∧ R M1) : aI X tg a Γ M ds.length (fun i => (ds.map fun kv => kD kv.1).getD i .non) (Lk p od kvs ds) R := fun Hi H σ ok en R' q => by
  refine ⟨_, pi_keys pe_we, ?_⟩
  refine ha Hi H σ ok en _ fun x M1 v Hi1 H1 h1 s1 ok1 r1 => ?_
  obtain ⟨rfl, hl, hr⟩ := h1
  cases r1
  obtain ⟨ho, rk⟩ := hl.rd ok1
  refine ⟨p, od, rfl, .inl ⟨kvs, ho, ?_⟩⟩
  refine q (Itk p od kvs) M1 Hi1 H1 hr s1 ok1 ⟨?_, ?_, ?_⟩
  · rintro i H' hi ⟨Hi', M', s2, ok2, hg⟩
    exact ⟨(hg.rd ok2).1, by rw [← rk.length]; exact hi⟩
  · rintro H' ⟨Hi', M', s2, ok2, hg⟩
    exact ⟨(hg.rd ok2).1, by rw [← rk.length]; exact Nat.le_refl _⟩
  · rintro i H' v H'' hi _ ⟨rfl, kk, u, hk, rfl⟩ Hi' M' s2 ok2 hg
    refine ⟨Hi', Same.refl _, ok2, ?_⟩
    obtain ⟨d, hd, _⟩ := repk_at rk hk
    have : (ds.map fun kv => kD kv.1).getD i .non = kD kk := by
      rw [List.getD_eq_getElem?_getD, List.getElem?_map, hd]
      rfl
    show Rep X.K Hi' ((ds.map fun kv => kD kv.1).getD i .non) _
    rw [this]
    exact kD_rep
/-- the pairs -/
theorem ai_itemsZ {elts : List Expr} {kq : Nat} {tpos : Pos} {od : Obj} {kvs : List (Key × V)} {R : Mem → Prop} (ha : aE X a Γ M fun x M1 => x = .ptr p ∧ Lk p od kvs ds M1 ∧ R M1) (hbase : attributeBase a "items" X.env (eval a X.env) = eval a X.env := by rfl) (hline : (apos.endLine == pos.line) = true := by rfl) :
    aI X (.Tuple elts kq tpos) (.Call (.Attribute a "items" apos) [] [] pos) Γ M ds.length (fun i => (ds.map fun kv => Val.tup [kD kv.1, kv.2]).getD i .non) (Lk p od kvs ds) R := fun Hi H σ ok en R' q => by
  refine ⟨_, pi_items pe_we hbase hline, ?_⟩
  refine ha Hi H σ ok en _ fun x M1 v Hi1 H1 h1 s1 ok1 r1 => ?_
  obtain ⟨rfl, hl, hr⟩ := h1
  cases r1
  obtain ⟨ho, rk⟩ := hl.rd ok1
  refine ⟨p, od, kvs, rfl, ho, ?_⟩
  refine q (Iti p od kvs) M1 Hi1 H1 hr s1 ok1 ⟨?_, ?_, ?_⟩
  · rintro i H' hi ⟨Hi', M', s2, ok2, hg⟩
    exact ⟨(hg.rd ok2).1, by rw [← rk.length]; exact hi⟩
  · rintro H' ⟨Hi', M', s2, ok2, hg⟩
    exact ⟨(hg.rd ok2).1, by rw [← rk.length]; exact Nat.le_refl _⟩
  · rintro i H' v H'' hi _ ⟨T, kk, u, hk, rfl, hT, rfl⟩ Hi' M' s2 ok2 hg
    obtain ⟨d, hd, rd⟩ := repk_at (hg.rd ok2).2 hk
    refine ⟨upd Hi' T (.tup [kV kk, u]), same_upd (ok2.none hT), ok2.imm hT, ?_⟩
    have : (ds.map fun kv => Val.tup [kD kv.1, kv.2]).getD i .non = .tup [kD kk, d] := by
      rw [List.getD_eq_getElem?_getD, List.getElem?_map, hd]
      rfl
    show Rep X.K _ ((ds.map fun kv => Val.tup [kD kv.1, kv.2]).getD i .non) _
    rw [this]
    exact .tup (.inl (.inl upd_same)) (.cons kD_rep (.cons (rd.mono (same_upd (ok2.none hT))) .nil))
end
end Ab
/-! generators: loops that forget slots; keywords in the other order -/
namespace Ab
open PySem PySem.Spec PyProof.Rows L2 GenW
theorem ag_le {X : Cx} {tg : Expr} {d : Val} {Γ Γ' : Gam} {M : Mem} {Q : Gam → Mem → Prop} (l : Le Γ' Γ) (h : aG X tg d Γ' M Q) : aG X tg d Γ M Q := fun Hi H σ v ok en r Q q => h Hi H σ v ok (l.env en) r Q q
section
variable {τ : Type} {G : GX τ} {st : Stmt} {sts : List Stmt} {n : Nat} {R : Hnd τ} {Γ Γ' : Gam} {M : Mem} {k k' : KG τ}
theorem gs_le (l : Le Γ' Γ) (h : gSs G sts n R Γ' M k) : gSs G sts n R Γ M k := fun go ip W s₀ c fs Kc Jc gd lv s σ H Hi g v hR en kk => h go ip W s₀ c fs Kc Jc gd lv s σ H Hi g v hR (l.env en) kk
theorem gko_mono {ip : List (Addr × Obj)} {Hi : Hp} {c : Code} {fs : List Frame} {Kc : Flow → Sem PySem.Fin} (kk : GKo G ip Hi c fs Kc k') (f1 : ∀ n R Γ M, k.nx n R Γ M → k'.nx n R Γ M) (f2 : ∀ n R d M, k.rt n R d M → k'.rt n R d M) (f3 : ∀ n R Γ M, k.bk n R Γ M → k'.bk n R Γ M) (f4 : ∀ n R Γ M, k.ct n R Γ M → k'.ct n R Γ M) : GKo G ip Hi c fs Kc k :=
  ⟨fun n W s₀ s σ H Hi Γ M v sm en h => kk.nx n W s₀ s σ H Hi Γ M v sm en (f1 _ _ _ _ h), fun n W s₀ s σ H Hi Γ M v sm en h => kk.bk n W s₀ s σ H Hi Γ M v sm en (f3 _ _ _ _ h), fun n W s₀ s σ H Hi Γ M v sm en h => kk.ct n W s₀ s σ H Hi Γ M v sm en (f4 _ _ _ _ h), fun n W s₀ s σ H Hi d v u M g sm r rv h => kk.rt n W s₀ s σ H Hi d v u M g sm r rv (f2 _ _ _ _ h)⟩
theorem gS.mono (h : gS G st n R Γ M k) (f1 : ∀ n R Γ M, k.nx n R Γ M → k'.nx n R Γ M) (f2 : ∀ n R d M, k.rt n R d M → k'.rt n R d M := by intro _ _ _ _ h; exact h) (f3 : ∀ n R Γ M, k.bk n R Γ M → k'.bk n R Γ M := by intro _ _ _ _ h; exact h) (f4 : ∀ n R Γ M, k.ct n R Γ M → k'.ct n R Γ M := by intro _ _ _ _ h; exact h) : gS G st n R Γ M k' :=
  fun go ip W s₀ c fs Kc Jc gd lv s σ H Hi g v hR en kk => h go ip W s₀ c fs Kc Jc gd lv s σ H Hi g v hR en (gko_mono kk f1 f2 f3 f4)
theorem gSs.mono (h : gSs G sts n R Γ M k) (f1 : ∀ n R Γ M, k.nx n R Γ M → k'.nx n R Γ M) (f2 : ∀ n R d M, k.rt n R d M → k'.rt n R d M := by intro _ _ _ _ h; exact h) (f3 : ∀ n R Γ M, k.bk n R Γ M → k'.bk n R Γ M := by intro _ _ _ _ h; exact h) (f4 : ∀ n R Γ M, k.ct n R Γ M → k'.ct n R Γ M := by intro _ _ _ _ h; exact h) : gSs G sts n R Γ M k' :=
  fun go ip W s₀ c fs Kc Jc gd lv s σ H Hi g v hR en kk => h go ip W s₀ c fs Kc Jc gd lv s σ H Hi g v hR en (gko_mono kk f1 f2 f3 f4)
theorem gs_one (h : gS G st n R Γ M k) : gSs G [st] n R Γ M k := gs_cons (h.mono fun n R Γ M h => gs_nil h)
abbrev Wg (I : Nat → Hnd τ → Gam → Mem → Prop) : Nat → Hnd τ → Gam → Mem → Prop := fun n R Γ M => ∃ Γ', I n R Γ' M ∧ Le Γ' Γ
/-- a for; slots are forgotten -/
theorem g_forW {tg iter : Expr} {body : List Stmt} {pos : Pos}
    (hi : ∀ H s pn, aJ (G.cx H s pn) tg iter Γ M fun cnt it M1 => ∃ I : Nat → Nat → Hnd τ → Gam → Mem → Prop, Wg (I 0) n R Γ M1 ∧
      (∀ i n R Γ M, i < cnt → I i n R Γ M → ∀ H s pn, aG (G.cx H s pn) tg (it i) Γ M fun Γ2 M2 => gSs G body n R Γ2 M2 { k with nx := Wg (I (i + 1)), ct := Wg (I (i + 1)), bk := k.nx }) ∧ ∀ n R Γ M, I cnt n R Γ M → k.nx n R Γ M)
    (hk : ∀ n R Γ Γ' M, Le Γ' Γ → k.nx n R Γ' M → k.nx n R Γ M := by intro _ _ _ _ _ l h; first | exact h | exact gs_le l h | (obtain ⟨Γ0, h0, l0⟩ := h; exact ⟨Γ0, h0, l0.trans l⟩))
    (hf : ∀ x, foldedSetIterable iter G.env x = pure x := by intro _; rfl) : gS G (.For tg iter body [] pos) n R Γ M k :=
  g_for (fun H s pn Hi H' σ ok en Q q => hi H s pn Hi H' σ ok en Q fun J cnt it M1 Hi1 H1 ⟨I, h0, hs, hd⟩ => q J cnt it M1 Hi1 H1 ⟨fun i => Wg (I i), h0, fun i n R Γ M hc ⟨Γ0, h, l⟩ H s pn => ag_le l (hs i n R Γ0 M hc h H s pn), fun n R Γ M ⟨Γ0, h, l⟩ => hk n R Γ Γ0 M l (hd n R Γ0 M h)⟩) hf
end
section
variable {P : Program} {w : World} {K : PySem.W.Frag} {mg : Str → Option Value} {base : Heap}
/-- a weaker promise -/
theorem GnX.imp {τ : Type} {Tr : τ → Mem → Hnd τ → Prop} {s0 s1 : List Val → List Val → τ → Prop} {f : Addr} {ks : List Str} {k : Nat} (F : GnX P w K mg base k f ks Tr s0) (h : ∀ ds es x, s1 ds es x → s0 ds es x) : GnX P w K mg base k f ks Tr s1 :=
  ⟨fun A outer s H Hi us ws vs zs ds es x hr e0 r rz l rd re hs => F.run A outer s H Hi us ws vs zs ds es x hr e0 r rz l rd re (h ds es x hs)⟩
end
theorem ae_dict0 {X : Cx} {Γ : Gam} {M : Mem} {P : Val → Mem → Prop} {pos : Pos} (h : ∀ p, P (.ptr p) ((p, .dk []) :: M)) : aE X (.Dict [] [] pos) Γ M P := fun Hi H σ ok en Q q =>
  ⟨_, pe_dnewK, fun p hp => q _ _ _ Hi _ (h p) (Same.refl _) (ok.new hp ⟨[], rfl, .nil⟩) (.ptr p)⟩
/-- a for over a generator; slots are forgotten -/
theorem as_forGW {X : Cx} {Γ : Gam} {M : Mem} {k : AK} {pos : Pos} {τ : Type} {Tr : τ → Mem → Hnd τ → Prop} {tg iter : Expr} {body : List Stmt} {kk m : Nat} (hp : PassesOwn (model X.prog X.w) X.A X.env X.xe) (hr : Rm m X.A) (hm : kk + 1 ≤ m)
    (hi : aGn X iter Γ M kk Tr fun x M1 => ∃ (J : Nat → τ → Gam → Mem → Prop) (n : Nat), (∃ Γ0, J n x Γ0 M1 ∧ Le Γ0 Γ) ∧ ∀ n x Γ0 Γ M, Le Γ0 Γ → J n x Γ0 M → 0 < n ∧ Tr x M fun r M' => match r with
      | none => k.nx Γ M'
      | some (d, x') => aG X tg d Γ M' fun Γ2 M2 => aSs X body Γ2 M2 { k with nx := fun Γ' M' => ∃ Γ1, J (n - 1) x' Γ1 M' ∧ Le Γ1 Γ', ct := fun Γ' M' => ∃ Γ1, J (n - 1) x' Γ1 M' ∧ Le Γ1 Γ', bk := k.nx })
    (hxe : ∀ e s g, X.xe e { s with gens := g } → (AllBare g → AllBare s.gens) → X.xe e s := by intro _ _ _ h _; exact h)
    (hf : ∀ x, foldedSetIterable iter X.env x = pure x := by intro _; rfl) : aS X (.For tg iter body [] pos) Γ M k :=
  as_forG hp (hr.mono hm) (fun Hi H σ ok en pins s I => thn (hi Hi H σ ok en pins s I) fun u s' ⟨x, M1, Hi1, H1, s1, ⟨J, n, h0, hs⟩, r⟩ => ⟨x, M1, Hi1, H1, s1, ⟨fun n x Γ M => ∃ Γ0, J n x Γ0 M ∧ Le Γ0 Γ, n, h0, fun n x Γ M ⟨Γ0, h, l⟩ => hs n x Γ0 Γ M l h⟩, r⟩) hxe hf
/-- d.get(k, x), the answer known -/
theorem av_dgetE {X : Cx} {Γ : Gam} {M : Mem} {a b c : Expr} {pos apos : Pos} {d d1 : Val} {kk : Key} {p : Addr} {ds : List (Key × Val)} (hu : X.A.units + 1 < cLine) (ha : aV X a Γ M (.ptr p)) (hb : aV X b Γ M (kD kk)) (hc : aV X c Γ M d1) (hm : DkAt M p ds) (hd : (dGet ds kk).getD d1 = d) (hbase : attributeBase a "get" X.env (eval a X.env) = eval a X.env := by rfl)
    (hfew : ((backTo pos (starEach [b, c] X.env)).all (fun x => !x.1) && (backToKw pos (keywordEach [] X.env)).all (fun x => x.1.isSome) && decide (([b, c] : List Expr).length + ([] : List Keyword).length + (if ([] : List Keyword).isEmpty then 0 else 1) < 30)) = true := by rfl)
    (hline : (apos.endLine == pos.line) = true := by rfl) (htr : backTo pos (starEach [b, c] X.env) = [(false, eval b X.env), (false, eval c X.env)] := by rfl) : aV X (.Call (.Attribute a "get" apos) [b, c] [] pos) Γ M d := by
  rw [← hd]
  exact av_dgetD hu ha hb hc hm hbase hfew hline htr
end Ab
/-! generators: tests that change cells; boxes over defs that raise -/
namespace Ab
open PySem PySem.Spec PyProof.Rows L2 GenW
section
variable {P : Program} {w : World} {K : PySem.W.Frag} {mg : Str → Option Value} {base : Heap} {k : Nat} {f : Addr} {ks : List Str}
theorem FnE.box {sx sx' : ASxe} (F : FnE P w K mg base k f ks (spE K sx)) (h : ∀ ds es M R PE, sx' ds es M R PE → ∃ (i : Nat) (p : Addr) (φ : Mem0 → Prop), M[i]? = some (p, .box φ) ∧
    ∀ B, φ B → p ∈ B.map (·.1) → sx ds es (bs B ++ M.eraseIdx i) (fun d M' => ∃ B' φ', M' = bs B' ++ M.eraseIdx i ∧ φ' B' ∧ p ∈ B'.map (·.1) ∧ R d (M.set i (p, .box φ')))
      (fun C fs M' => ∃ B' φ', M' = bs B' ++ M.eraseIdx i ∧ φ' B' ∧ p ∈ B'.map (·.1) ∧ PE C fs (M.set i (p, .box φ')))) : FnE P w K mg base k f ks (spE K sx') :=
  F.weak fun vs zs H Q E ⟨Hi, M, ds, es, R, PE, r1, r2, ok, hs, q, qe⟩ => by
    obtain ⟨i, p, φ, hi, hb⟩ := h ds es M R PE hs
    obtain ⟨B, h1, h2, ok'⟩ := ok.opn hi
    refine ⟨Hi, _, ds, es, _, _, r1, r2, ok', hb B h1 h2, fun d M' v Hi' H' hd s' ok2 r => ?_, fun C fs M' Hi' H' cls d hd s' ok2 r => ?_⟩
    · obtain ⟨B', φ', rfl, h3, h4, h5⟩ := hd
      exact q d _ v Hi' H' h5 s' (ok2.clsAt hi h3 h4) r
    · obtain ⟨B', φ', rfl, h3, h4, h5⟩ := hd
      exact qe C fs _ Hi' H' cls d h5 s' (ok2.clsAt hi h3 h4) r
end
end Ab
/-! Ab77: a box opened around an expression and closed as another box -/
namespace Ab
open PySem PySem.Spec PyProof.Rows L2
end Ab
/-! Ab78: the dict of a def's ** parameter, told of the heap alone -/
namespace Ab
open PySem PySem.Spec PyProof.Rows L2
section
variable {prog : Program} {w : World} {A : Around} {E : Value → Shared → Prop} {d : Addr}
theorem kw_set {s : Shared} {es : List DictEntry} {n : Nat} {k : Str} {v : Value} {Q : Unit → Shared → Prop} (D : s.heap.get? d = some (PySem.W.dictOf es n))
    (hs : ∀ e ∈ es, e.key.isStr k = false) (hr : ∀ e ∈ es, e.refKey = false)
    (h : ∀ h' : Heap, h'.get? d = some (PySem.W.dictOf (es ++ [⟨PyData.keyHash w.params k, .str k s.toks, v⟩]) (n + 1)) → (∀ b o, b ≠ d → s.heap.get? b = some o → h'.get? b = some o) → h'.objs.size = s.heap.objs.size → Q () { s with heap := h', toks := s.toks + 1 }) :
    wpAny (model prog w) A (nsSet d k v) Q E s := by
  have e1 : es.any (·.key.isStr k) = false := by
    cases q : es.any (·.key.isStr k) with
    | false => rfl
    | true => obtain ⟨e, he, z⟩ := List.any_eq_true.mp q; rw [hs e he] at z; cases z
  have e2 : es.any (·.refKey) = false := by
    cases q : es.any (·.refKey) with
    | false => rfl
    | true => obtain ⟨e, he, z⟩ := List.any_eq_true.mp q; rw [hr e he] at z; cases z
  have e : Obj.putName k (PyData.keyHash w.params k) (.str k s.toks) v (PySem.W.dictOf es n) = PySem.W.dictOf (es ++ [⟨PyData.keyHash w.params k, .str k s.toks, v⟩]) (n + 1) := by
    rw [PySem.W.putName_dict, PySem.W.putL_new hs]
    show PySem.W.dictOf _ (if es.any (·.key.isStr k) then n else n + 1) = _
    rw [e1, if_neg Bool.false_ne_true]
  have c : aRefKeyMayBeTheName k es.toArray = false := by
    rw [aRefKeyMayBeTheName_at, ← Array.any_toList, ← Array.any_toList]
    show (!es.any (·.key.isStr k) && es.any (·.refKey)) = false
    rw [e2, Bool.and_false]
  unfold nsSet
  refine wpAny_bind (wpAny_bind (wpAny_askSetting (wpAny_pure (wpAny_bind (wpAny_mkText (wpAny_bind (wpAny_loadPart D ?_)))))))
  dsimp only
  rw [c]
  refine wpAny_updatePart D (h _ ?_ (fun b o hb q => (Heap.get?_update_ne _ _ _ _ hb).trans q) ?_)
  · rw [← e]
    exact Heap.get?_update_self _ D (by show (Obj.putName k (PyData.keyHash w.params k) (.str k s.toks) v (PySem.W.dictOf es n)).isFreed = false; rw [e]; rfl)
  · simp [Heap.update]
theorem kw_fill {Q : PUnit → Shared → Prop} : ∀ (ex : List (Str × Value)) (s : Shared) (es : List DictEntry) (n : Nat), s.heap.get? d = some (PySem.W.dictOf es n) →
    (∀ e ∈ es, ∀ x ∈ ex, e.key.isStr x.1 = false) → (∀ e ∈ es, e.refKey = false) → (ex.map (·.1)).Nodup →
    (∀ h' : Heap, h'.get? d = some (PySem.W.dictOf (es ++ PySem.W.kwEs w.params s.toks ex) (n + ex.length)) → (∀ b o, b ≠ d → s.heap.get? b = some o → h'.get? b = some o) → h'.objs.size = s.heap.objs.size → Q ⟨⟩ { s with heap := h', toks := s.toks + ex.length }) →
    wpAny (model prog w) A (forIn ex PUnit.unit fun x _ => (nsSet d x.1 x.2 >>= fun _ => pure (ForInStep.yield PUnit.unit))) Q E s
  | [], s, es, n, D, _, _, _, h => by
    rw [List.forIn_nil]
    refine wpAny_pure (h s.heap ?_ (fun _ _ _ q => q) rfl)
    show s.heap.get? d = some (PySem.W.dictOf (es ++ []) n)
    rw [List.append_nil]
    exact D
  | x :: r, s, es, n, D, hs, hr, hn, h => by
    obtain ⟨hn1, hn2⟩ := List.nodup_cons.mp (show (x.1 :: r.map (·.1)).Nodup from hn)
    rw [List.forIn_cons]
    refine wpAny_bind (wpAny_bind (kw_set D (fun e he => hs e he x (.head _)) hr fun h' D' k' z' => wpAny_pure ?_))
    show wpAny (model prog w) A (forIn r PUnit.unit fun x _ => (nsSet d x.1 x.2 >>= fun _ => pure (ForInStep.yield PUnit.unit))) Q E { s with heap := h', toks := s.toks + 1 }
    refine kw_fill r { s with heap := h', toks := s.toks + 1 } _ _ D' (fun e he y hy => ?_) (fun e he => ?_) hn2 fun h'' D'' k'' z'' => ?_
    · rcases List.mem_append.mp he with he | he
      · exact hs e he y (.tail _ hy)
      · obtain rfl := List.mem_singleton.mp he
        show (x.1 == y.1) = false
        exact beq_eq_false_iff_ne.mpr fun q => hn1 (by rw [q]; exact List.mem_map_of_mem hy)
    · rcases List.mem_append.mp he with he | he
      · exact hr e he
      · obtain rfl := List.mem_singleton.mp he
        rfl
    · have t1 : s.toks + 1 + r.length = s.toks + (r.length + 1) := by omega
      have t2 : n + 1 + r.length = n + (r.length + 1) := by omega
      show Q ⟨⟩ { s with heap := h'', toks := s.toks + 1 + r.length }
      rw [t1]
      refine h h'' ?_ (fun b o hb q => k'' b o hb (k' b o hb q)) (z''.trans z')
      rw [t2, List.append_assoc] at D''
      exact D''
/-- a new dict filled with keywords -/
theorem kw_new {α : Type} {gg : Addr → α} {s : Shared} {ex : List (Str × Value)} {Q : α → Shared → Prop} (hn : (ex.map (·.1)).Nodup)
    (h : ∀ h' : Heap, h'.get? s.heap.objs.size = some (PySem.W.dictOf (PySem.W.kwEs w.params s.toks ex) ex.length) → (∀ b o, s.heap.get? b = some o → h'.get? b = some o) → h'.objs.size = s.heap.objs.size + 1 → Q (gg s.heap.objs.size) { s with heap := h', toks := s.toks + ex.length }) :
    wpAny (model prog w) A ((alloc ({ cls := .type "dict", data := .dict #[] } : Obj) : Sem Addr) >>= fun d => (forIn ex PUnit.unit fun x _ => (nsSet d x.1 x.2 >>= fun _ => pure (ForInStep.yield PUnit.unit))) >>= fun _ => pure (gg d)) Q E s := by
  refine wpAny_bind (wpAny_alloc (wpAny_bind (kw_fill ex _ [] 0 (Heap.get?_push_size _ rfl) (fun _ z => nomatch z) (fun _ z => nomatch z) hn fun h' D k z => wpAny_pure (h h' ?_ (fun b o q => k b o (Nat.ne_of_lt (Heap.lt_size q)) (Heap.get?_push_of_some _ q)) ?_))))
  · rw [List.nil_append, Nat.zero_add] at D
    exact D
  · rw [z]
    exact Heap.size_push _ _
end
section
variable {P : Program} {w : World} {K : PySem.W.Frag} {mg : Str → Option Value} {base : Heap}
abbrev kwK {α : Type} (ex : List (Str × α)) : List (Key × α) := ex.map fun q => (.inr q.1, q.2)
theorem kw_pairs {prog : Program} : ∀ (ex : List (Str × Value)) (t : Tok), PySem.Pairs (mixKind prog w) (PySem.W.kwEs w.params t ex) (kwK ex)
  | [], _ => PySem.Pairs.nil
  | x :: r, t => PySem.Pairs.cons (mixKind_str prog w x.1 t) rfl (kw_pairs r (t + 1))
theorem kw_isDict {prog : Program} {ex : List (Str × Value)} (t : Tok) (n : Nat) (hn : (ex.map (·.1)).Nodup) : (PySem.W.dictOf (PySem.W.kwEs w.params t ex) n).IsDictOf (mixKind prog w) (kwK ex) :=
  ⟨(PySem.W.kwEs w.params t ex).toArray, n, ⟨rfl, rfl, rfl⟩, rfl, fun e he => by
    obtain ⟨k, u, hk, hh⟩ := PySem.W.kwEs_key ex t e (List.mem_toArray.mp he)
    exact ⟨.inr k, by rw [hk]; exact mixKind_str prog w k u, hh.trans rfl⟩, kw_pairs ex t, by
      rw [List.map_map]
      have e : ((fun x : Key × Value => x.1) ∘ fun q : Str × Value => ((.inr q.1 : Key), q.2)) = (Sum.inr : Str → Key) ∘ fun q => q.1 := rfl
      rw [e, ← List.map_map]
      exact List.Pairwise.map _ (fun a b h h2 => h (Sum.inr.inj h2)) hn⟩
/-- .. called with keywords that are parameters: an empty dict -/
theorem fnx_kwd0 {x qual : Str} {params : Arguments} {body : List Stmt} {sc : Scope} {kws : List (Str × V)} {f : Addr} {fd : FuncData} {N ps ks : List Str} {pd : Str} {k : Nat} {s0 : ASp} (F : FunD K x qual params body sc [] kws f fd) (S : FnScope N (ps ++ [pd]) sc) (n : Nat) (hnp : n + ks.length = ps.length)
    (h : ∀ (kV doc pm : Value) (an : Option Addr) (cdv ct : Value) (us ws : List Value), us.length = n → ws.length = ks.length → bindArgs (PySem.W.fnOf x qual params body sc .none kV doc pm an cdv ct) ⟨us, ks.zip ws⟩ =
      ((alloc ({ cls := .type "dict", data := .dict #[] } : Obj) : Sem Addr) >>= fun d => (forIn ([] : List (Str × Value)) PUnit.unit fun x _ => (nsSet d x.1 x.2 >>= fun _ => pure (ForInStep.yield PUnit.unit))) >>= fun _ => pure (ps.zip (us ++ ws) ++ [(pd, Value.ref d)])))
    (hb : BodyOk P w K mg base k f N qual sc body s0) : FnX P w K mg base (k + 1) f ks (spX K fun ds es M R => ds.length = n ∧ ∀ p, p ∉ M.map (·.1) → s0 (ds ++ es ++ [.ptr p]) ((p, .dk []) :: M) R) := by
  refine ⟨fun A outer s H us ws vs zs Q hr e0 r rz hz ⟨Hi, M, ds, es, R, ra, re, ok, ⟨hl, hs⟩, q⟩ => ?_⟩
  obtain ⟨oc, od, dV, kV, doc, pm, an, cdv, ct, osl, rfl, lk, hcd, hD, _⟩ := F.ex
  obtain ⟨_, rfl⟩ : ([] : List V) = [] ∧ dV = .none := by
    rcases hD with h | ⟨e, _⟩
    · exact h
    · exact absurd rfl e
  have hlv : vs.length = n := ra.length.symm.trans hl
  have hlu : us.length = n := r.length.symm.trans hlv
  have hlw : ws.length = ks.length := rz.length.symm.trans hz
  have hn : H s.heap.objs.size = Option.none := e0.hok.fresh (Nat.le_refl _)
  have hnd : (([] : List (Str × Value)).map (·.1)).Nodup := List.nodup_nil
  refine StX.run_bnd (CX := CX0) (E := E0) (G := fun vs' H2 => ∃ p, H p = none ∧ vs' = vs ++ zs ++ [V.ref p] ∧ H2 = upd H p (.dK (([] : List (Key × V))))) lk hcd S hr.room e0 (fun A' Ex Q' hh => ?_) fun s2 H2 vs' hG hr' => ?_
  · rw [h kV doc pm an cdv ct us ws hlu hlw]
    refine kw_new (gg := fun d => ps.zip (us ++ ws) ++ [(pd, Value.ref d)]) hnd fun h' D kp sz' => ?_
    have new : ObjOk P w (upd H s.heap.objs.size (.dK (([] : List (Key × V))))) h' s.heap.objs.size (.dK (([] : List (Key × V)))) := ⟨Nat.zero_le _, beq_eq_false_iff_ne.mpr (Ne.symm (Nat.ne_of_lt (StX.env0_big e0))), _, .nil, Heap.dictOf_iff.mpr ⟨_, D, kw_isDict _ _ hnd⟩⟩
    have e1 : Env0 P w K mg base A outer { s with heap := h', toks := s.toks + ([] : List (Str × Value)).length } (upd H s.heap.objs.size (.dK (([] : List (Key × V))))) := by
      refine ⟨e0.frames, e0.mod, fun b x e => ⟨kp b x (e0.bs b x e).1, ?_⟩, ?_, Heap.FunFrames.of_keeps (fun b x e _ => ⟨x, kp b x e, rfl⟩) e0.funs, fun b hb => ?_, e0.hok.laid kp (Nat.le_refl _) new, e0.bare⟩
      · rw [upd_ne (Nat.ne_of_lt (Heap.lt_size (e0.bs b x e).1))]
        exact (e0.bs b x e).2
      · show base.objs.size ≤ h'.objs.size
        rw [sz']
        exact Nat.le_succ_of_le e0.bsz
      · obtain ⟨_, x, hx, _⟩ := e0.funs.mem hb
        rw [upd_ne (Nat.ne_of_lt (Heap.lt_size hx))]
        exact e0.frf b hb
    have un : Un (frs outer) [] H (upd H s.heap.objs.size (.dK (([] : List (Key × V))))) s.heap h' := Un.laid kp (Nat.le_refl _) hn
    have z := hh _ _ (vs ++ zs ++ [V.ref s.heap.objs.size]) (us ++ ws ++ [Value.ref s.heap.objs.size]) e1 un rfl (fun _ _ z => z) ((r.append rz).append (.cons rfl .nil)) (by rw [List.length_append, List.length_append, List.length_append, hlv, hz, hnp]; rfl) ⟨_, hn, rfl, rfl⟩
    rw [List.zip_append (by rw [List.length_append, hlu, hlw, hnp])] at z
    exact z
  · obtain ⟨p, hp, rfl, rfl⟩ := hG
    have s1 := same_upd (o := .dK (([] : List (Key × V)))) (ok.none hp)
    obtain ⟨t, pt, z⟩ := body_of (hb cdv A outer s2 _ E0 (hr.deeper _)) (Q := Q) (vs := vs ++ zs ++ [V.ref p]) ⟨Hi, (p, .dk []) :: M, ds ++ es ++ [.ptr p], R, (ra.append re).append (.cons (.ptr p) .nil), ok.new hp ⟨_, rfl, .nil⟩, hs p (ok.fresh hp), q⟩
    exact ⟨t, pt.nox, z⟩
end
end Ab
/-! Ab79: {k: v for .. in ..} -/
namespace Ab
open PySem PySem.Spec PyProof.Rows L2
end Ab
/-! Ab80: data compared with either answer; == and != of an instance with a value of another kind; list(d.items()); dicts compared with {} -/
namespace Ab
open PySem PySem.Spec PyProof.Rows L2 Builtin
mutual
/-- data without truth values -/
def nbV : Val → Prop
  | .non => True
  | .bl _ => False
  | .int _ => True
  | .str x => PyData.strOk x = true
  | .lst xs => nbVs xs
  | .tup xs => nbVs xs
  | .ty _ => False
  | .ptr _ => False
  | .obj _ _ => False
  | .exc _ _ => False
  | .lam _ _ => False
def nbVs : List Val → Prop
  | [] => True
  | x :: xs => nbV x ∧ nbVs xs
end
mutual
theorem nb_dt : ∀ (v : Val), nbV v → dtV v
  | .non, _ => trivial
  | .int i, _ => trivial
  | .str x, h => h
  | .lst xs, h => nb_dts xs h
  | .tup xs, h => nb_dts xs h
  | .bl _, h => h.elim
  | .ty _, h => h.elim
  | .ptr _, h => h.elim
  | .obj _ _, h => h.elim
  | .exc _ _, h => h.elim
  | .lam _ _, h => h.elim
theorem nb_dts : ∀ (v : List Val), nbVs v → dtVs v
  | [], _ => trivial
  | x :: xs, h => ⟨nb_dt x h.1, nb_dts xs h.2⟩
end
mutual
theorem nb_eqv : ∀ (v w : Val) {p q : PyData}, nbV v → nbV w → toD v = some p → toD w = some q → (PyData.eqv p q = true ↔ v = w)
  | .non, w, p, q, hv, hw, h1, h2 => by
    cases h1
    cases w <;> first | exact hw.elim | (unfold toD at h2; cases h2; simp [PyData.eqv]; done) | (unfold toD at h2; obtain ⟨ds, _, rfl⟩ := Option.map_eq_some_iff.mp h2; simp [PyData.eqv])
  | .int i, w, p, q, hv, hw, h1, h2 => by
    cases h1
    cases w <;> first | exact hw.elim | (unfold toD at h2; cases h2; simp [PyData.eqv]; done) | (unfold toD at h2; obtain ⟨ds, _, rfl⟩ := Option.map_eq_some_iff.mp h2; simp [PyData.eqv])
  | .str x, w, p, q, hv, hw, h1, h2 => by
    cases h1
    cases w <;> first | exact hw.elim | (unfold toD at h2; cases h2; simp [PyData.eqv]; done) | (unfold toD at h2; obtain ⟨ds, _, rfl⟩ := Option.map_eq_some_iff.mp h2; simp [PyData.eqv])
  | .lst xs, w, p, q, hv, hw, h1, h2 => by
    unfold toD at h1
    obtain ⟨ds, e1, rfl⟩ := Option.map_eq_some_iff.mp h1
    cases w with
    | lst ys =>
      unfold toD at h2
      obtain ⟨es, e2, rfl⟩ := Option.map_eq_some_iff.mp h2
      have := nb_eqvs xs ys hv hw e1 e2
      unfold PyData.eqv
      rw [this]
      exact ⟨fun e => congrArg _ e, fun e => by cases e; rfl⟩
    | tup ys =>
      unfold toD at h2
      obtain ⟨es, e2, rfl⟩ := Option.map_eq_some_iff.mp h2
      simp [PyData.eqv]
    | _ => first | exact hw.elim | (unfold toD at h2; cases h2; simp [PyData.eqv]; done)
  | .tup xs, w, p, q, hv, hw, h1, h2 => by
    unfold toD at h1
    obtain ⟨ds, e1, rfl⟩ := Option.map_eq_some_iff.mp h1
    cases w with
    | tup ys =>
      unfold toD at h2
      obtain ⟨es, e2, rfl⟩ := Option.map_eq_some_iff.mp h2
      have := nb_eqvs xs ys hv hw e1 e2
      unfold PyData.eqv
      rw [this]
      exact ⟨fun e => congrArg _ e, fun e => by cases e; rfl⟩
    | lst ys =>
      unfold toD at h2
      obtain ⟨es, e2, rfl⟩ := Option.map_eq_some_iff.mp h2
      simp [PyData.eqv]
    | _ => first | exact hw.elim | (unfold toD at h2; cases h2; simp [PyData.eqv]; done)
  | .bl _, _, _, _, h, _, _, _ => h.elim
  | .ty _, _, _, _, h, _, _, _ => h.elim
  | .ptr _, _, _, _, h, _, _, _ => h.elim
  | .obj _ _, _, _, _, h, _, _, _ => h.elim
  | .exc _ _, _, _, _, h, _, _, _ => h.elim
  | .lam _ _, _, _, _, h, _, _, _ => h.elim
theorem nb_eqvs : ∀ (v w : List Val) {p q : List PyData}, nbVs v → nbVs w → toDs v = some p → toDs w = some q → (PyData.eqvAll p q = true ↔ v = w)
  | [], [], p, q, hv, hw, h1, h2 => by
    cases h1
    cases h2
    simp [PyData.eqvAll]
  | [], y :: ys, p, q, hv, hw, h1, h2 => by
    cases h1
    unfold toDs at h2
    obtain ⟨d, _, h2⟩ := Option.bind_eq_some_iff.mp h2
    obtain ⟨ds, _, rfl⟩ := Option.map_eq_some_iff.mp h2
    simp [PyData.eqvAll]
  | x :: xs, [], p, q, hv, hw, h1, h2 => by
    cases h2
    unfold toDs at h1
    obtain ⟨d, _, h1⟩ := Option.bind_eq_some_iff.mp h1
    obtain ⟨ds, _, rfl⟩ := Option.map_eq_some_iff.mp h1
    simp [PyData.eqvAll]
  | x :: xs, y :: ys, p, q, hv, hw, h1, h2 => by
    unfold toDs at h1 h2
    obtain ⟨d, e1, h1⟩ := Option.bind_eq_some_iff.mp h1
    obtain ⟨ds, e2, rfl⟩ := Option.map_eq_some_iff.mp h1
    obtain ⟨f, e3, h2⟩ := Option.bind_eq_some_iff.mp h2
    obtain ⟨fs, e4, rfl⟩ := Option.map_eq_some_iff.mp h2
    have a := nb_eqv x y hv.1 hw.1 e1 e3
    have b := nb_eqvs xs ys hv.2 hw.2 e2 e4
    unfold PyData.eqvAll
    rw [Bool.and_eq_true, a, b, List.cons.injEq]
end
section
variable {X : Cx} {M : Mem} {d1 d2 v w : Val}
theorem nb_shaped {v : Val} (h : nbV v) (hp : dpV v ≤ 60) : ∃ p, toD v = some p ∧ SeqAt.shaped p = true := by
  obtain ⟨p, q⟩ := dtd v (nb_dt v h)
  exact ⟨p, q.td, Bool.and_eq_true_iff.mpr ⟨q.cl, decide_eq_true (by have := q.dp; omega)⟩⟩
theorem cp_neW (h1 : Vw M d1 v) (h2 : Vw M d2 w) (n1 : nbV v) (n2 : nbV w) (p1 : dpV v ≤ 60) (p2 : dpV w ≤ 60) (hu : X.A.units + 64 < cLine) : CP X .NotEq M d1 d2 (v ≠ w) := by
  obtain ⟨p, a1, a2⟩ := nb_shaped n1 p1
  obtain ⟨q, b1, b2⟩ := nb_shaped n2 p2
  refine ⟨_, cmp_neD h1 h2 a1 b1 a2 b2 hu, ?_⟩
  have := nb_eqv v w n1 n2 a1 b1
  rw [Bool.not_eq_true', ← Bool.not_eq_true, this]
end
/-! ### an instance against a value of another kind -/
/-! ### dicts against the empty one -/
/-! ### list(d.items()) -/
end Ab
/-! Ab81: data in a tuple or list of data -/
namespace Ab
open PySem PySem.Spec PyProof.Rows L2 Builtin
theorem Rm.u65 {k : Nat} {A : Around} (r : Rm k A) : A.units + 65 < cLine := Nat.lt_of_le_of_lt (by omega) r.room.un
theorem nb_any {v : Val} {p : PyData} (hv : nbV v) (h1 : toD v = some p) : ∀ {ws : List Val} {qs : List PyData}, nbVs ws → toDs ws = some qs → ((qs.any fun z => PyData.eqv z p) = true ↔ v ∈ ws)
  | [], qs, _, h => by
    cases h
    simp
  | x :: xs, qs, hw, h => by
    unfold toDs at h
    obtain ⟨d, e1, h⟩ := Option.bind_eq_some_iff.mp h
    obtain ⟨ds, e2, rfl⟩ := Option.map_eq_some_iff.mp h
    rw [List.any_cons, Bool.or_eq_true, nb_eqv x v hw.1 hv e1 h1, nb_any hv h1 hw.2 e2, List.mem_cons, eq_comm]
section
variable {X : Cx} {M : Mem} {d1 d2 v w : Val} {ws : List Val}
def rInT (K : PySem.W.Frag) : R2 := fun x y H Q => ∃ d ds, Dp K H x d ∧ Dp K H y (.tuple ds) ∧ SeqAt.shaped d = true ∧ SeqAt.shaped (.tuple ds) = true ∧ Q (.bl (ds.any fun z => PyData.eqv z d)) H
theorem op_inTD (hu : X.A.units + 65 < cLine) : OpR X (compareOp .In) (rInT X.K) := by
  intro pins s σ H x y v u Q I rx ry h
  obtain ⟨d, ds, hd, he, sd, se, q⟩ := h
  obtain ⟨as, r1⟩ := Dp.reads I d x v hd rx
  obtain ⟨bs, r2⟩ := Dp.reads I (.tuple ds) y u he ry
  exact SeqAt.in_tuple_reads r2 r1 (SeqAt.canLay_of_shaped se) (SeqAt.canLay_of_shaped sd) (room_in_shaped sd hu) ⟨.bl _, H, I, rfl, q⟩
theorem cp_inT (h1 : Vw M d1 v) (h2 : Vw M d2 (.tup ws)) (n1 : nbV v) (n2 : nbVs ws) (p1 : dpV v ≤ 60) (p2 : dpV (.tup ws) ≤ 60) (hu : X.A.units + 65 < cLine) : CP X .In M d1 d2 (v ∈ ws) := by
  obtain ⟨p, a1, a2⟩ := nb_shaped n1 p1
  obtain ⟨q, b1, b2⟩ := nb_shaped (v := .tup ws) n2 p2
  have b1' := b1
  unfold toD at b1
  obtain ⟨qs, c1, rfl⟩ := Option.map_eq_some_iff.mp b1
  exact ⟨_, ⟨_, op_inTD hu, fun Hi H v w ok rv rw_ Q post => ⟨p, qs, rep_dp _ (h1.rep ok rv) a1, rep_dp _ (h2.rep ok rw_) b1', a2, b2, post _ M _ Hi H ⟨rfl, rfl⟩ (Same.refl _) ok (.bl _)⟩⟩, nb_any n1 a1 n2 c1⟩
end
end Ab
/-! Ab82: classmethods by keywords alone; classmethods that may raise -/
namespace Ab
open PySem PySem.Spec PyProof.Rows L2
end Ab
/-! Ab83: a property of any expression that gives an instance, boxed or not -/
namespace Ab
open PySem PySem.Spec PyProof.Rows L2
end Ab
/-! g(lambda: e): a lambda handed to a def that calls it -/
namespace Ab
open PySem PySem.Spec PyProof.Rows L2 LamX
section
variable {X : Cx} {pins : List (Addr × Obj)} {σ : L2.St} {H Hi : Hp} {s : Shared} {M : Mem}
/-- what is known when the lambda has been made -/
structure Made (X : Cx) (pins : List (Addr × Obj)) (σ : L2.St) (Hi : Hp) (M : Mem) (params : Arguments) (body : PySem.Expr) (scope : Scope) (f c' : Addr) (pm ctv : Value) (Hi1 H1 : Hp) (s' : Shared) : Prop where
  inv : Inv X pins σ H1 s'
  ok : Ok X.K Hi1 M H1
  sm : Same Hi Hi1
  at_ : s'.heap.get? f = some (PySem.W.kla_obj "<lambda>" (X.env.qual ++ "<lambda>") params body scope (cloFrom X.env.cells scope.names []) pm c' ctv)
  no : H1 f = none
  fr : f ∉ frs X.stack
  co : Hi1 c' = some (CodeO c' (X.env.qual ++ "<lambda>"))
theorem lam_made {c Pt : Addr} {i : Nat} {params : Arguments} {body : PySem.Expr} {scope : Scope} {pos : Pos} {E : Value → Shared → Prop} {Q : Value → Shared → Prop} (I : Inv X pins σ H s) (ok : Ok X.K Hi M H) (TB : TabB X.base X.mg c Pt) (hcode : X.env.code = .ref c)
    (hm : M[i]? = some (Pt, .b (.tb (X.env.qual ++ "<lambda>")))) (hdef : defaultsOf params X.env = ([], [])) (hfree : ∀ y ∈ scope.names, y.2 = .free → ∃ c, X.env.cells.lookup y.1 = some c)
    (h : ∀ f c' pm ctv Hi1 H1 s', Made X pins σ Hi M params body scope f c' pm ctv Hi1 H1 s' → Q (.ref f) s') :
    wpAny (model X.prog X.w) X.A (eval (.Lambda params body scope pos) X.env) Q E s := by
  obtain ⟨hin, o, hP, ps, rfl, ht, ha⟩ := ok.get hm
  refine PySem.W.kla_eval hdef ?_
  have rawP := I.hok Pt _ hP
  have nofr : ∀ f, s.heap.objs.size ≤ f → f ∉ frs X.stack := fun f hf z => by
    rcases List.mem_cons.mp (I.stkSub _ z) with e | e
    · have h1 := I.lt
      rw [← e] at h1
      exact absurd h1 (Nat.not_lt.mpr hf)
    · exact I.nofs hf e
  cases hc : codeAmong pos ps.toList with
  | some cv =>
    obtain ⟨c', rfl, hco⟩ := ha pos cv hc
    refine PySem.W.kla_makeFunctionHit (closure_ok hfree) I.ok.glob (I.mod.glob.keeps I.bk) hcode (TB.code.keeps I.bk) rawP ht hc (TB.bm.keeps I.bk) fun ctv h' tk hx hsz => ?_
    exact h _ c' _ ctv Hi H _ ⟨I.kept fun b o e => Heap.get?_push_of_some _ (hx b o e), ok, Same.refl _, Heap.get?_push_size _ rfl, I.hok.fresh hsz, nofr _ hsz, hco⟩
  | none =>
    refine PySem.W.kla_makeFunction (closure_ok hfree) I.ok.glob (I.mod.glob.keeps I.bk) hcode (TB.code.keeps I.bk) rawP ht hc TB.gP (TB.bm.keeps I.bk) fun c' ctv h' tk hx hge hlt ⟨_, oc, vs, t, e2, hoc, hd, hv⟩ htb => ?_
    cases e2
    have nC : H c' = none := I.hok.fresh hge
    have niC : Hi c' = none := ok.none nC
    have nPc : Pt ≠ c' := ne_of_none hP nC
    obtain ⟨more, hmore⟩ : ∃ more : Array Value, more = #[rawInt pos.line, rawInt pos.col, .ref c'] := ⟨_, rfl⟩
    rw [← hmore] at htb
    have eL : (ps ++ more).toList = ps.toList ++ [rawInt pos.line, rawInt pos.col, .ref c'] := by rw [hmore]; simp
    let ob := PySem.W.kla_obj "<lambda>" (X.env.qual ++ "<lambda>") params body scope (cloFrom X.env.cells scope.names []) ((X.mg "__name__").getD .none) c' ctv
    have I1 := inv_table (t' := tk) (q := X.env.qual ++ "<lambda>") (more := more) (h' := h'.push ob) I hP (fun b o hb e => Heap.get?_push_of_some _ (hx b o hb e)) (Heap.get?_push_of_some _ htb) hge ⟨oc, vs, t, Heap.get?_push_of_some _ hoc, hd, hv⟩
    have sm := same_upd (o := CodeO c' (X.env.qual ++ "<lambda>")) niC
    -- the code object never changes; the table's cell is written
    have ok1 : Ok X.K (upd Hi c' (CodeO c' (X.env.qual ++ "<lambda>"))) M (upd H c' (CodeO c' (X.env.qual ++ "<lambda>"))) := ok.imm nC
    have ok2 : Ok X.K (upd Hi c' (CodeO c' (X.env.qual ++ "<lambda>"))) (M.set i (Pt, .b (.tb (X.env.qual ++ "<lambda>")))) (upd (upd H c' (CodeO c' (X.env.qual ++ "<lambda>"))) Pt (.tbl (ps ++ more))) := by
      refine ok1.set hm ⟨ps ++ more, rfl, by rw [eL]; exact PySem.TriplesOk_snoc _ _ _ _ ht, fun p' cv hcv => ?_⟩
      rw [eL] at hcv
      rcases among_app _ ht hcv with z | z
      · obtain ⟨c0, e1, e3⟩ := ha p' cv z
        exact ⟨c0, e1, sm _ _ e3⟩
      · exact ⟨c', z, upd_same⟩
    rw [show M.set i (Pt, Cell.b (.tb (X.env.qual ++ "<lambda>"))) = M from set_at hm] at ok2
    have comm : upd (upd H c' (CodeO c' (X.env.qual ++ "<lambda>"))) Pt (.tbl (ps ++ more)) = upd (upd H Pt (.tbl (ps ++ more))) c' (CodeO c' (X.env.qual ++ "<lambda>")) := by
      funext b
      by_cases h1 : b = Pt
      · subst h1
        rw [upd_same, upd_ne nPc, upd_same]
      · by_cases h2 : b = c'
        · subst h2
          rw [upd_ne h1, upd_same, upd_same]
        · rw [upd_ne h1, upd_ne h2, upd_ne h2, upd_ne h1]
    rw [comm] at ok2
    have hsz : s.heap.objs.size ≤ h'.objs.size := Nat.le_trans hge (Nat.le_of_lt hlt)
    refine h h'.objs.size c' ((X.mg "__name__").getD .none) ctv _ _ _ ⟨I1, ok2, sm, Heap.get?_push_size _ rfl, ?_, nofr _ hsz, upd_same⟩
    rw [upd_ne (Nat.ne_of_gt hlt), upd_ne (Nat.ne_of_gt (Nat.lt_of_lt_of_le (Heap.lt_size rawP) hsz))]
    exact I.hok.fresh hsz
end
/-! ### the lambda called -/
abbrev LSb := Mem → (Val → Mem → Prop) → XP → Prop
section
variable {X Z : Cx} {pins : List (Addr × Obj)} {σ : L2.St} {H Hi Hi1 H1 : Hp} {s s' : Shared} {M M1 : Mem} {ΓX : Gam} {params : Arguments} {body : PySem.Expr} {scope : Scope} {f c' : Addr} {pm ctv : Value} {bsp : LSb} {kk : Nat}
/-- what the lambda's body does, in its own context -/
def LBody (X : Cx) (body : PySem.Expr) (scope : Scope) (ΓX : Gam) (kk : Nat) (bsp : LSb) : Prop := ∀ (A : Around) (outer : List Env) (s : Shared) (H : Hp) (E : XK) (f c' : Addr), Rm kk (A.deeper (lamEnv X scope s.heap.objs.size f c')) → Po (lamCx X A outer s H E scope f c') →
  ∀ M P PE, bsp M P PE → yE (lamCx X A outer s H E scope f c') body ΓX M P PE
/-- a(), a the name of a slot that holds the lambda -/
theorem ye_act {N : List Str} {q : Str} {sc : Scope} {g : Addr} {cdv : Value} {EZ : XK} {pn : List (Addr × Obj)} {xe : Value → Shared → Prop} {a : Str} {p1 p2 : Pos} {i : Nat} {Γ : Gam} {P : Val → Mem → Prop} {PE : XP}
    (m : Made X pins σ Hi M1 params body scope f c' pm ctv Hi1 H1 s') (en : EnvR X.K Hi1 ΓX σ) (L : LamS X.env.scope scope)
    (hbind : ∀ (q : Str) (cl : List (Str × Addr)) (pm cv ctv : Value), bindArgs (PySem.W.kla_fn "<lambda>" q params body scope cl pm cv ctv) ⟨[], []⟩ = pure [])
    (hb : LBody X body scope ΓX kk bsp) (hr : Rm (kk + 1) (X.A.deeper (envOfC q sc s'.heap.objs.size g cdv)))
    (hN : N[i]? = some a) (hΓ : Γ[i]? = some (some (.lam f Hi1))) (hv : Vis sc a) (hp : bsp M P PE)
    (hd : (a == ("__debug__" : Str)) = false := by decide) (hcd : (a == ("__classdict__" : Str)) = false := by decide) :
    yE ((cxOf CX0 X.prog X.w X.K X.mg X.base N q sc g cdv X.A X.stack s' H1 EZ).tr pn xe) (.Call (.Name a p1) [] [] p2) Γ M P PE := fun W tk po HiZ HZ σZ okZ enZ Q qq qx => by
  obtain ⟨v, hv1, hv2⟩ := enZ.2 i _ hΓ
  cases hv2 with
  | lam kp =>
  have hco : HZ c' = some (CodeO c' (X.env.qual ++ "<lambda>")) := okZ.im _ _ (kp _ _ m.co fun o z => raw_code z.symm)
  have enX : EnvR X.K HiZ ΓX σ := en.kp kp
  refine ⟨fun σ2 H2 Q2 => σ2[i]? = some (some (.ref f)) ∧ H2 c' = some (CodeO c' (X.env.qual ++ "<lambda>")) ∧ ∃ HiZ, Ok X.K HiZ M H2 ∧ EnvR X.K HiZ ΓX σ ∧ Post X.K HiZ P Q2 ∧ XPost X.K HiZ PE (fun cls d H' => W cls d σ2 H'), ⟨fun pinsZ sZ σ2 H2 Q2 IZ h => ?_⟩, hv1, hco, HiZ, okZ, enX, qq, qx⟩
  obtain ⟨hs, hc, HiZ, okZ, enX, qq, qx⟩ := h
  refine wpAny_Call_Name_kw (thn ((pe_var (pos := p1) (i := i) hN hv hd hcd).run pinsZ sZ σ2 H2 (fun v H1 => v = .ref f ∧ H1 = H2) IZ ⟨.ref f, hs, rfl, rfl⟩) fun u s1 ⟨v, H3, I1, r1, q1⟩ => ?_)
  obtain ⟨rfl, rfl⟩ := q1
  obtain rfl : u = Value.ref f := r1
  have of1 := I1.base.keep f _ m.at_ m.no m.fr (fun z => nomatch (show f ∈ ([] : List Addr) from z))
  refine PySem.W.callWith_F0 ⟨_, _, _, _, of1⟩ ?_
  have un : Un (frs X.stack) [] H1 H3 s'.heap s1.heap := I1.base
  obtain ⟨⟨oc, vs, t, hoc, hdc, hvc⟩, _, _⟩ := I1.hok c' _ hc
  have rc : codeAny (model X.prog X.w) (X.A.deeper (envOfC q sc s'.heap.objs.size g cdv)) (.call (.ref f) ⟨[], []⟩) (CR (L2.CX X.prog X.w) (envOfC q sc s'.heap.objs.size g cdv :: X.stack) X.prog X.w H3 s1 Q2 (fun cls d H' => W cls d σ2 H')) s1 := by
    refine PySem.W.kla_callFunE hr.room.depth of1 rfl L.co L.gen rfl ⟨c', oc, vs, t, rfl, hoc, hdc, hvc⟩ ?_
    rw [hbind]
    refine wpAny_pure (wpAny_newFunctionEnv (fun y hy => (L.own y hy).2) (fun y hy => absurd hy (by simp)) (fun h₁ hns hsb => ⟨I1.nolimit.fresh _ hsb, ?_⟩) L.kind)
    have kp1 : ∀ b o, s1.heap.get? b = some o → h₁.get? b = some o := fun b o e => hsb.extBut b o (Nat.ne_of_lt (Heap.lt_size e)) (Heap.get?_push_of_some _ e)
    have J := lam_start2 (tk := s1.toks + ([] : List (Str × Value)).length) (f := f) (c' := c') (E := fun cls d H' => W cls d σ2 H') m.inv L I1.env0 hr.room.hd un hns kp1
    have po2 : Po (lamCx X (X.A.deeper (envOfC q sc s'.heap.objs.size g cdv)) (envOfC q sc s'.heap.objs.size g cdv :: X.stack) s1 H3 (fun cls d H' => W cls d σ2 H') scope f c') := passes_of (K := fun e s'' => L2.CX X.prog X.w (envOfC q sc s'.heap.objs.size g cdv :: X.stack) H3 s1 (fun cls d H' => W cls d σ2 H') e s'') rfl
    have hw := hb (X.A.deeper (envOfC q sc s'.heap.objs.size g cdv)) (envOfC q sc s'.heap.objs.size g cdv :: X.stack) s1 H3 (fun cls d H' => W cls d σ2 H') f c' (hr.deeper _) po2 M P PE hp
      (fun cls d _ H' => W cls d σ2 H') (takes_of rfl rfl rfl rfl) po2 HiZ H3 σ okZ enX Q2 qq qx
    refine PySem.W.kla_codeExpr (wpAny_mono (pe_we.run [] _ _ H3 Q2 J hw) (fun v s' hq => ?_) fun e s' hq => hq)
    obtain ⟨w', H', J', rv, q⟩ := hq
    exact ⟨w', H', J'.os, J'.bare, J'.base, J'.hok, rv, q⟩
  refine wpAny_call (codeAny_mono rc fun r s' hq => ?_)
  cases r with
  | error e => exact tk e s' (XE.of_call I1 (fun _ _ _ z => z) hq)
  | ok fl =>
    cases fl with
    | ret u => exact I1.after hq
    | next => exact False.elim hq
    | brk => exact False.elim hq
    | cont => exact False.elim hq
end
/-! ### a def that gets a lambda -/
/-- from what the lambda does: cells, what follows -/
abbrev LSp := LSb → Mem → (Val → Mem → Prop) → Prop
section
variable {P : Program} {w : World} {K : PySem.W.Frag} {mg : Str → Option Value} {base : Heap}
/-- what its body must do: the lambda stands in the slot of a -/
abbrev BodyL (P : Program) (w : World) (K : PySem.W.Frag) (mg : Str → Option Value) (base : Heap) (k : Nat) (g : Addr) (N : List Str) (q : Str) (sc : Scope) (body : List Stmt) (a : Str) (sL : LSp) : Prop :=
  ∀ cdv A outer s H E, Rm k (A.deeper (envOfC q sc s.heap.objs.size g cdv)) → ∀ (f : Addr) (Hf : Hp) (bsp : LSb),
    (∀ (pn : List (Addr × Obj)) (xe : Value → Shared → Prop) (i : Nat) (Γ : Gam) (M : Mem) (R : Val → Mem → Prop) (PE : XP) (p1 p2 : Pos), N[i]? = some a → Γ[i]? = some (some (Val.lam f Hf)) → bsp M R PE → yE ((cxOf CX0 P w K mg base N q sc g cdv A outer s H E).tr pn xe) (.Call (.Name a p1) [] [] p2) Γ M R PE) →
    ∀ M R, sL bsp M R → aSs (bcx P w K mg base N q sc g cdv A outer s H E) body (gam N [Val.lam f Hf]) M (kOf R)
structure LGd (P : Program) (w : World) (K : PySem.W.Frag) (mg : Str → Option Value) (base : Heap) (k : Nat) (x : Str) (sL : LSp) : Prop where
  ex : ∃ (g : Addr) (q : Str) (pg : Arguments) (body : List Stmt) (sc : Scope) (N : List Str) (a : Str) (fd : FuncData), FunD K x q pg body sc [] [] g fd ∧ FnScope N [a] sc ∧ Vis sc a ∧ N[0]? = some a ∧
    (∀ (kV doc pm : Value) (an : Option Addr) (cdv ct : Value) (u : Value), bindArgs (PySem.W.fnOf x q pg body sc .none kV doc pm an cdv ct) ⟨[u], []⟩ = pure [(a, u)]) ∧
    (a == ("__debug__" : Str)) = false ∧ (a == ("__classdict__" : Str)) = false ∧ mg x = some (.ref g) ∧ PySem.W.keepIn K (.ref g) = true ∧ BodyL P w K mg base k g N q sc body a sL
end
section
variable {X : Cx} {Γ : Gam} {M : Mem} {R : Val → Mem → Prop} {params : Arguments} {body : PySem.Expr} {scope : Scope} {p lpos pos : Pos} {x : Str} {k kk m i : Nat} {c Pt : Addr} {bsp : LSb} {sL : LSp}
/-- the table of the maker's code objects -/
structure Tbl (X : Cx) (Pt : Addr) : Prop where
  ex : ∃ c, TabB X.base X.mg c Pt ∧ X.env.code = .ref c
/-- x(lambda: body) -/
theorem ae_lam (G : LGd X.prog X.w X.K X.mg X.base k x sL) (hr : Rm m X.A) (hk : k + 1 ≤ m) (T : Tbl X Pt) (hm : M[i]? = some (Pt, .b (.tb (X.env.qual ++ "<lambda>")))) (kk : Nat) (bsp : LSb) (hb : LBody X body scope Γ kk bsp) (hkk : kk + 1 ≤ k) (h : sL bsp M R)
    (hg : Gl X x := by rfl) (L : lamSB X.env.scope scope = true := by decide +kernel) (hdef : defaultsOf params X.env = ([], []) := by rfl)
    (hbind : ∀ (q : Str) (cl : List (Str × Addr)) (pm cv ctv : Value), bindArgs (PySem.W.kla_fn "<lambda>" q params body scope cl pm cv ctv) ⟨[], []⟩ = pure [] := by intros; rfl)
    (hdb : (x == ("__debug__" : Str)) = false := by decide) : aE X (.Call (.Name x p) [.Lambda params body scope lpos] [] pos) Γ M R := fun Hi H σ ok en Q q => by
  obtain ⟨c, TB, hcode⟩ := T.ex
  obtain ⟨g, qg, pg, bg, sg, Ng, a, fd, F, Sg, hva, hN0, hbd, hda, hdc, hmg, hkg, hB⟩ := G.ex
  obtain ⟨oc, od, dV, kV, doc, pm0, an, cdv, ct, osl, rfl, lk, hcd, hD, _⟩ := F.ex
  obtain ⟨_, rfl⟩ : ([] : List V) = [] ∧ dV = .none := by
    rcases hD with z | ⟨z, _⟩
    · exact z
    · exact absurd rfl z
  have LS := lamS_by L
  refine ⟨fun σ H Q => ∃ Hi, Ok X.K Hi M H ∧ EnvR X.K Hi Γ σ ∧ Post X.K Hi R Q, ⟨fun pins s σ H Q I ⟨Hi, ok, en, q⟩ => ?_⟩, Hi, ok, en, q⟩
  refine wpAny_Call_Name_kw (ld_glob I hg hmg ?_ hdb)
  refine PySem.W.callWith_K (h₀ := X.base) I.ok.mod.kin hkg ?_ (by rfl) (by rfl)
  show wpAny _ _ (spliced ((false, eval (.Lambda params body scope lpos) X.env) :: backTo pos (starEach [] X.env))) _ _ s
  refine Calls.spliced_cons (lam_made I ok TB hcode hm hdef (LS.has I.ok) fun f c' pm ctv Hi1 H1 s' md => ?_)
  refine Calls.spliced_nil ⟨md.inv.kIn, ?_⟩
  have en1 := en.mono md.sm
  have rc : codeAny (model X.prog X.w) X.A (.call (.ref g) ⟨[.ref f], []⟩) (CR CX0 X.stack X.prog X.w H1 s' Q E0) s' := by
    refine run_ofS (k := k) (N := Ng) (ps := [a]) (us := [.ref f]) (vs := [.ref f]) lk hcd Sg (hr.room.mono hk) md.inv.env0 (.of_eq (hbd kV doc pm0 an cdv ct (.ref f))) (.cons rfl .nil) rfl fun hr' => ?_
    have hrm : Rm k (X.A.deeper (envOfC qg sg s'.heap.objs.size g cdv)) := ⟨hr', (hr.mono hk).deeper _ |>.gd⟩
    have hS := hB cdv X.A X.stack s' H1 E0 hrm f Hi1 bsp (fun pn xe i2 Γ2 M2 R2 PE p1 p2 hN2 hΓ2 hp2 => ye_act md en1 LS hbind hb (hrm.mono hkk) hN2 hΓ2 hva hp2 hda hdc) M R h
    obtain ⟨t, pt, ht⟩ := hS Hi1 H1 _ md.ok (env_start (N := Ng) (.cons (.lam (Kp.refl Hi1)) .nil)) { nx := fun _ H' => Q .non H', rt := Q } ⟨fun Γ M' σ Hi' H' h1 s1 ok1 _ => h1.post (q.up md.sm) s1 ok1 .non, fun d M' v Hi' H' h1 s1 ok1 r1 => h1.post (q.up md.sm) s1 ok1 r1, fun _ _ _ _ _ z => z.elim, fun _ _ _ _ _ z => z.elim⟩
    exact ⟨t, pt.nox, ht⟩
  refine wpAny_call (codeAny_mono rc fun r s2 hq => ?_)
  cases r with
  | error e => exact (show False from hq).elim
  | ok fl =>
    cases fl with
    | ret u => exact md.inv.after hq
    | next => exact False.elim hq
    | brk => exact False.elim hq
    | cont => exact False.elim hq
end
end Ab
/-! Ab84: t * n for any n from 0 on -/
namespace Ab
open PySem PySem.Spec PyProof.Rows L2
theorem LGd.mono {P : Program} {w : World} {K : PySem.W.Frag} {mg : Str → Option Value} {base : Heap} {k k' : Nat} {x : Str} {sL : LSp} (G : LGd P w K mg base k x sL) (h : k ≤ k') : LGd P w K mg base k' x sL := by
  obtain ⟨g, q, pg, body, sc, N, a, fd, h1, h2, h3, h4, h5, h6, h7, h8, h9, hB⟩ := G.ex
  exact ⟨g, q, pg, body, sc, N, a, fd, h1, h2, h3, h4, h5, h6, h7, h8, h9, fun cdv A outer s H E hr => hB cdv A outer s H E (hr.mono h)⟩
end Ab
/-! Ab95: isinstance of a subclass -/
namespace Ab
open PySem PySem.Spec PyProof.Rows L2
/-! ### t == () -/
end Ab
/-! Ab96: a comprehension with one test, pure items -/
namespace Ab
open PySem PySem.Spec PyProof.Rows L2
section
variable {X : Cx} {Γ : Gam} {M : Mem} {P : Val → Mem → Prop} {pos : Pos}
theorem ae_lcF {tg iter elt c : Expr} {scope : Scope} (own : List (Str × Nat)) {n : Nat} {it : Nat → Val} (g : Nat → Val) (p : Nat → Bool) (hc : X.calm = true) (hN : X.N.Nodup) (ok : BlkOk X.N X.env.scope scope own)
    (hi : aI X tg iter Γ M n it (fun _ => True) (fun M' => M' = M))
    (hs : ∀ i acc D, i < n → bG X scope (own.map (·.2)) tg (it i) (wipeG Γ (own.map (·.2))) ((D, .lst acc) :: M) fun Γ2 M2 => ∀ s H C cl fp, aT (bx X scope s H C cl fp) c Γ2 M2 (fun b M3 => b = p i ∧ M3 = (D, .lst acc) :: M) ∧ (p i = true → aE (bx X scope s H C cl fp) elt Γ2 ((D, .lst acc) :: M) fun y M4 => y = g i ∧ M4 = (D, .lst acc) :: M))
    (hn : n ≤ 100000) (hd : P (.lst (((List.range n).filter p).map g)) M) (hf : ∀ x, foldedSetIterable iter X.env x = pure x := by intro _; rfl) :
    aE X (.ListComp elt [⟨tg, iter, [c], 0⟩] scope pos) Γ M P := by
  refine ae_frz (ae_lcC (it := it) own (fun i acc M' => M' = M ∧ acc = ((List.range i).filter p).map g) hc hN ok ?_ (fun _ _ _ _ _ => trivial) (fun _ _ _ => trivial) ?_ hn ?_ hf)
  · intro Hi H σ ok en R q
    exact hi Hi H σ ok en R fun J M1 Hi1 H1 h1 => q J M1 Hi1 H1 ⟨h1, rfl⟩
  · rintro i acc M' D hi' _ ⟨rfl, rfl⟩ s H C cl fp
    intro Hi1 H1 σ1 v1 ok1 en1 r1 Q1 q1
    refine hs i _ D hi' s H C cl fp Hi1 H1 σ1 v1 ok1 en1 r1 Q1 fun Γ2 M2 σ2 Hi2 H2 h2 => q1 Γ2 M2 σ2 Hi2 H2 fun s' H' C' cl' fp' => ats_one ((h2 s' H' C' cl' fp').1.mono fun b M3 hb => ?_)
    obtain ⟨rfl, rfl⟩ := hb
    refine ⟨fun z s2 H2 C2 cl2 fp2 => ((h2 s2 H2 C2 cl2 fp2).2 z).mono fun y M4 hy => ?_, fun z => ?_⟩
    · obtain ⟨rfl, rfl⟩ := hy
      exact ⟨_, rfl, rfl, by rw [List.range_succ, List.filter_append, List.map_append, List.filter_cons, if_pos z]; rfl⟩
    · exact ⟨_, rfl, rfl, by rw [List.range_succ, List.filter_append, List.filter_cons, if_neg (by rw [z]; decide)]; simp⟩
  · rintro D acc M' ⟨rfl, rfl⟩
    exact ⟨D, _, _, rfl, rfl, hd⟩
theorem cmp_neB {b c : Bool} : Cmp X .NotEq M (.bl b) (.bl c) (!decide (b = c)) := ⟨_, op_ne, fun Hi H v w ok rv rw_ Q q => by
  cases rv
  cases rw_
  refine ⟨rfl, ?_⟩
  have e : decide (V.bl b = V.bl c) = decide (b = c) := by simp
  rw [e]
  exact q _ _ _ Hi H ⟨rfl, rfl⟩ (Same.refl _) ok (.bl _)⟩
end
end Ab
/-! Ab97: xs[a:e], the upper bound changing cells -/
namespace Ab
open PySem PySem.Spec PyProof.Rows L2
end Ab
/-! Ab98: range(a, b, c) with a step of at least 1, walked and listed -/
namespace Ab
open PySem PySem.Spec PyProof.Rows L2
end Ab
/-! distances of places -/
namespace Sm
variable {k : Nat} {s l : Nat → Int}
theorem dvd_iff_div {m b : Nat} (hm : 0 < m) : (((b + 1) / m : Nat) : Int) - ((b / m : Nat) : Int) = if m ∣ b + 1 then 1 else 0 := by
  by_cases h : m ∣ b + 1
  · rw [if_pos h, dvd_div hm (Nat.succ_pos b) h, show b.succ - 1 = b from rfl]
    omega
  · rw [if_neg h, ndvd_div hm h]
    omega
/-- the distance between two leaves -/
theorem place_step (hk : 2 ≤ k) {b N : Nat} (hN : b + 1 < k ^ N) : place k s l (b + 1) - place k s l b = smN (fun j => if k ^ j ∣ b + 1 then l j else 0) (N + 1) + smN (fun j => if k ^ j = b + 1 then s (j + 1) else 0) N := by
  rw [place_two hk hN, place_two hk (N := N) (b := b) (by omega)]
  have e1 : smN (fun h => l h * (((b + 1) / k ^ h : Nat) : Int)) (N + 1) - smN (fun h => l h * ((b / k ^ h : Nat) : Int)) (N + 1) = smN (fun j => if k ^ j ∣ b + 1 then l j else 0) (N + 1) := by
    rw [← smN_sub]
    refine smN_congr fun j _ => ?_
    rw [← Int.mul_sub, dvd_iff_div (Nat.pow_pos (by omega))]
    split <;> simp
  have e2 : smN (fun h => if k ^ h ≤ b + 1 then s (h + 1) else 0) N - smN (fun h => if k ^ h ≤ b then s (h + 1) else 0) N = smN (fun j => if k ^ j = b + 1 then s (j + 1) else 0) N := by
    rw [← smN_sub]
    refine smN_congr fun j _ => ?_
    by_cases h1 : k ^ j ≤ b
    · rw [if_pos (by omega), if_pos h1, if_neg (by omega)]
      omega
    · by_cases h2 : k ^ j = b + 1
      · rw [if_pos (by omega), if_neg h1, if_pos h2]
        omega
      · rw [if_neg (by omega), if_neg h1, if_neg h2]
        omega
  omega
/-- by the exponent: b + 1 = k ^ e * r, k does not divide r -/
theorem place_exp (hk : 2 ≤ k) {b e r : Nat} (hb : b + 1 = k ^ e * r) (hr : ¬ k ∣ r) : place k s l (b + 1) - place k s l b = smN l (e + 1) + if r = 1 then s (e + 1) else 0 := by
  have r0 : 0 < r := by
    rcases Nat.eq_zero_or_pos r with h | h
    · subst h
      exact absurd (Nat.dvd_zero k) hr
    · exact h
  have dv : ∀ j, k ^ j ∣ b + 1 ↔ j ≤ e := fun j => by
    constructor
    · intro h
      rcases Nat.lt_or_ge e j with z | z
      · exfalso
        obtain ⟨c, rfl⟩ : ∃ c, j = e + 1 + c := ⟨j - (e + 1), by omega⟩
        have h1 : k ^ e * k ∣ k ^ e * r := by
          rw [← hb, ← Nat.pow_succ]
          exact Nat.dvd_trans (Nat.pow_dvd_pow k (by omega)) h
        exact hr (Nat.dvd_of_mul_dvd_mul_left (Nat.pow_pos (by omega)) h1)
      · exact z
    · intro h
      rw [hb]
      exact Nat.dvd_trans (Nat.pow_dvd_pow k h) (Nat.dvd_mul_right _ _)
  have eN : e < b + 1 := by
    have h1 := lt_pow hk e
    have h2 : k ^ e ≤ k ^ e * r := Nat.le_mul_of_pos_right _ r0
    omega
  rw [place_step hk (N := b + 1) (lt_pow hk (b + 1))]
  congr 1
  · have h1 : smN (fun j => if k ^ j ∣ b + 1 then l j else 0) (b + 1 + 1) = smN (fun j => if k ^ j ∣ b + 1 then l j else 0) (e + 1) := smN_ext (by omega) fun j hj => if_neg (by rw [dv]; omega)
    rw [h1]
    exact smN_congr fun j hj => if_pos ((dv j).mpr (by omega))
  · by_cases h1 : r = 1
    · subst h1
      rw [Nat.mul_one] at hb
      rw [if_pos rfl]
      have h2 : smN (fun j => if k ^ j = b + 1 then s (j + 1) else 0) (b + 1) = smN (fun j => if k ^ j = b + 1 then s (j + 1) else 0) (e + 1) := smN_ext (by omega) fun j hj => if_neg (by
        rw [hb]
        intro h
        have := (Nat.pow_right_inj (by omega : 2 ≤ k)).mp h
        omega)
      rw [h2, smN, if_pos hb.symm]
      have h3 : smN (fun j => if k ^ j = b + 1 then s (j + 1) else 0) e = smN (fun _ => 0) e := smN_congr fun j hj => if_neg (by
        rw [hb]
        intro h
        have := (Nat.pow_right_inj (by omega : 2 ≤ k)).mp h
        omega)
      rw [h3]
      have h4 : ∀ n, smN (fun _ => 0) n = 0 := fun n => by
        induction n with
        | zero => rfl
        | succ n ih => rw [smN, ih]; rfl
      rw [h4]
      omega
    · rw [if_neg h1]
      have h3 : smN (fun j => if k ^ j = b + 1 then s (j + 1) else 0) (b + 1) = smN (fun _ => 0) (b + 1) := smN_congr fun j hj => if_neg (by
        intro h
        have hj := (dv j).mp (by rw [h]; exact Nat.dvd_refl _)
        have h5 : k ^ e * r = k ^ j := by rw [← hb, h]
        obtain ⟨c, rfl⟩ : ∃ c, e = j + c := ⟨e - j, by omega⟩
        rw [Nat.pow_add, Nat.mul_assoc] at h5
        have h6 : k ^ c * r = 1 := Nat.eq_of_mul_eq_mul_left (Nat.pow_pos (by omega) : 0 < k ^ j) (by rw [h5, Nat.mul_one])
        exact h1 (Nat.eq_one_of_mul_eq_one_left h6))
      rw [h3]
      have h4 : ∀ n, smN (fun _ => 0) n = 0 := fun n => by
        induction n with
        | zero => rfl
        | succ n ih => rw [smN, ih]; rfl
      rw [h4]
/-! ### nodes of one height follow one another -/
/-- the labels of the node with b such nodes before it -/
def lab (s l : Nat → Int) (h b : Nat) : Int := if b = 0 then s h else l h
theorem fq_step {c : Ct} (h : CtOk c) (t i : Nat) : fq c t i + c.la 0 ≤ fq c t (i + 1) := by
  unfold fq
  rw [smN_head, smN_head, Nat.pow_zero, Nat.div_one, Nat.div_one]
  have h1 : smN (fun j => c.la (j + 1) * ((i / c.k ^ (j + 1) : Nat) : Int)) t ≤ smN (fun j => c.la (j + 1) * (((i + 1) / c.k ^ (j + 1) : Nat) : Int)) t := smN_le fun j _ => Int.mul_le_mul_of_nonneg_left (Int.ofNat_le.mpr (Nat.div_le_div_right (Nat.le_succ i))) (h.la _)
  have h2 : c.la 0 * ((i + 1 : Nat) : Int) = c.la 0 * (i : Int) + c.la 0 := by rw [Int.natCast_add, Int.mul_add]; simp
  omega
theorem fq_ext {c : Ct} (h : CtOk c) {t u i : Nat} (hu : t ≤ u) (hi : i < c.k ^ (t + 1)) : fq c u i = fq c t i := by
  unfold fq
  refine smN_ext (by omega) fun j hj => ?_
  have : i < c.k ^ j := Nat.lt_of_lt_of_le hi (Nat.pow_le_pow_right (by have := h.k2; omega) hj)
  rw [Nat.div_eq_of_lt this]
  simp
theorem pp_step {c : Ct} (h : CtOk c) (b : Nat) : pp c b + c.own ≤ pp c (b + 1) := by
  unfold pp
  rw [if_neg (Nat.succ_ne_zero b)]
  have hk := h.k2
  have e1 : smN (fun j => if c.k ^ j ≤ b then c.sp j else 0) b ≤ smN (fun j => if c.k ^ j ≤ b + 1 then c.sp j else 0) (b + 1) := by
    have h1 : smN (fun j => if c.k ^ j ≤ b then c.sp j else 0) b ≤ smN (fun j => if c.k ^ j ≤ b + 1 then c.sp j else 0) b := smN_le fun j _ => by
      have := h.sp j
      split
      · rw [if_pos (by omega)]
        exact Int.le_refl _
      · split
        · exact this
        · exact Int.le_refl _
    have h2 : 0 ≤ if c.k ^ b ≤ b + 1 then c.sp b else 0 := by
      split
      · exact h.sp b
      · exact Int.le_refl _
    rw [smN]
    omega
  have o1 := h.o1
  by_cases hb : b = 0
  · subst hb
    rw [if_pos rfl]
    have e0 : smN (fun j => if c.k ^ j ≤ 0 then c.sp j else 0) 0 = 0 := rfl
    have e2 : c.la 0 ≤ fq c (0 + 1) (0 + 1) := by
      have h3 := fq_step h 1 0
      have h4 := fq_nn h 1 0
      exact Int.le_trans (by omega) h3
    have ae := h.ae
    omega
  · rw [if_neg hb]
    have e2 : fq c b b + c.la 0 ≤ fq c (b + 1) (b + 1) := by
      have h3 := fq_step h (b + 1) b
      rw [fq_ext h (Nat.le_succ b) (Nat.lt_trans (lt_pow hk b) (Nat.pow_lt_pow_right (by omega) (Nat.lt_succ_self b)))] at h3
      exact h3
    omega
theorem pl_step (hk : 2 ≤ k) (hs : ∀ j, 0 ≤ s j) (hl : ∀ j, 0 ≤ l j) (h0 : 0 < l 0) (h b : Nat) : pl k s l h b + lab s l h (b + 1) ≤ pl k s l h (b + 1) := by
  have := pp_step (ct_ok hk hs hl h0 h) b
  unfold lab
  rw [if_neg (Nat.succ_ne_zero b)]
  exact this
/-- where a node begins -/
def pb (k : Nat) (s l : Nat → Int) (h b : Nat) : Int := pl k s l h b - max (lab s l h b - 1) 0
end Sm
namespace Sm
theorem pp_step2 {c : Ct} (h : CtOk c) {b : Nat} (hb : 0 < b) : pp c b + c.la 0 ≤ pp c (b + 1) := by
  unfold pp
  rw [if_neg (Nat.succ_ne_zero b), if_neg (by omega)]
  have hk := h.k2
  have e1 : smN (fun j => if c.k ^ j ≤ b then c.sp j else 0) b ≤ smN (fun j => if c.k ^ j ≤ b + 1 then c.sp j else 0) (b + 1) := by
    have h1 : smN (fun j => if c.k ^ j ≤ b then c.sp j else 0) b ≤ smN (fun j => if c.k ^ j ≤ b + 1 then c.sp j else 0) b := smN_le fun j _ => by
      have := h.sp j
      split
      · rw [if_pos (by omega)]
        exact Int.le_refl _
      · split
        · exact this
        · exact Int.le_refl _
    have h2 : 0 ≤ if c.k ^ b ≤ b + 1 then c.sp b else 0 := by
      split
      · exact h.sp b
      · exact Int.le_refl _
    rw [smN]
    omega
  have e2 : fq c b b + c.la 0 ≤ fq c (b + 1) (b + 1) := by
    have h3 := fq_step h (b + 1) b
    rw [fq_ext h (Nat.le_succ b) (Nat.lt_trans (lt_pow hk b) (Nat.pow_lt_pow_right (by omega) (Nat.lt_succ_self b)))] at h3
    exact h3
  omega
theorem pl_ge {k : Nat} {s l : Nat → Int} (hk : 2 ≤ k) (hs : ∀ j, 0 ≤ s j) (hl : ∀ j, 0 ≤ l j) (h0 : 0 < l 0) (h b : Nat) : (b : Int) ≤ pl k s l h b + 1 := by
  induction b with
  | zero =>
    have := pl_nn hk hs hl h0 h 0
    omega
  | succ b ih =>
    rcases Nat.eq_zero_or_pos b with z | z
    · subst z
      have := pl_nn hk hs hl h0 h 1
      show ((0 + 1 : Nat) : Int) ≤ pl k s l h 1 + 1
      omega
    · have h1 := pp_step2 (ct_ok hk hs hl h0 h) z
      have h2 : 0 < (ctO k s l h).la 0 := (ct_ok hk hs hl h0 h).l0
      have h3 : pl k s l h b + (ctO k s l h).la 0 ≤ pl k s l h (b + 1) := h1
      omega
theorem Cnt.le {k : Nat} {s l : Nat → Int} (hk : 2 ≤ k) (hs : ∀ j, 0 ≤ s j) (hl : ∀ j, 0 ≤ l j) (h0 : 0 < l 0) {h : Nat} {n v : Int} (n0 : 0 ≤ n) (hv : Cnt k s l h n v) : v ≤ n + 2 := by
  rcases Int.lt_or_le (n + 2) v with z | z
  · have h1 := (hv.2 (n + 2).toNat).mp (by omega)
    have h2 := pl_ge hk hs hl h0 h (n + 2).toNat
    omega
  · exact z
end Sm
/-! sums over powers and quotients; bounds of places -/
namespace Sm
/-! ### bounds -/
end Sm
/-! pruning: the labels of height 0 taken away -/
namespace Sm
section
variable {k : Nat} {s l : Nat → Int}
theorem Cnt.mono {h : Nat} {n m v u : Int} (a : Cnt k s l h n v) (b : Cnt k s l h m u) (hn : n ≤ m) : v ≤ u := by
  rcases (show v ≤ u ∨ u < v by omega) with z | z
  · exact z
  · have u0 := b.1
    have h1 := (a.2 u.toNat).mp (by omega)
    have h2 := (b.2 u.toNat).mpr (by omega)
    omega
end
end Sm
/-! the labels of all heights make up all labels -/
namespace Sm
/-- the part of the labels a+1 .. a+w that lies up to n -/
def cl (n a w : Int) : Int := max 0 (min (n - a) w)
def sg (f : Nat → Int) (lo c : Nat) : Int := smN (fun i => f (lo + i)) c
section
variable {k : Nat} {s l : Nat → Int}
/-- where a node's own labels begin -/
def stt (k : Nat) (s l : Nat → Int) (h b : Nat) : Int := pl k s l h b - lab s l h b
end
end Sm
/-! labels by number; another arity; greater schedules -/
namespace Sm
/-! ### another arity -/
section
variable {k e : Nat} {s l s2 l2 : Nat → Int}
structure Spr (e : Nat) (s l s2 l2 : Nat → Int) : Prop where
  s0 : s2 0 = s 0
  s1 : ∀ j, s2 (1 + e * j) = s (j + 1)
  s3 : ∀ i, i % e ≠ 0 → s2 (1 + i) = 0
  l1 : ∀ j, l2 (e * j) = l j
  l3 : ∀ i, i % e ≠ 0 → l2 i = 0
/-! ### greater schedules -/
end
end Sm
/-! S26: the order of the nodes of a tree; digits -/
namespace Sm
section
variable {k : Nat} {s l : Nat → Int}
theorem stt_00 : stt k s l 0 0 = 0 := by
  unfold stt
  rw [pl_zero]
  unfold fp lab
  rw [if_pos rfl, if_pos rfl]
  omega
theorem pl_stt (h b : Nat) : pl k s l h b = stt k s l h b + lab s l h b := by unfold stt; omega
/-! ### digits, the most significant one first -/
/-! ### the order -/
/-- how many leaves come before a node -/
def lf (k h b : Nat) : Nat := if b = 0 then (if h = 0 then 0 else k ^ (h - 1)) else b * k ^ h
end
end Sm
/-! S31: places and values as lists; exponents; conflicts (stage 6) -/
namespace Sm
/-! ### exponents -/
def spl (k : Nat) : Nat → Nat → Nat × Nat
  | 0, n => (0, n)
  | f + 1, n => if n % k = 0 then ((spl k f (n / k)).1 + 1, (spl k f (n / k)).2) else (0, n)
/-- the exponent of k in n; what remains -/
def vE (k n : Nat) : Nat := (spl k n n).1
def vR (k n : Nat) : Nat := (spl k n n).2
theorem spl_spec {k : Nat} (hk : 2 ≤ k) : ∀ (f n : Nat), 0 < n → n ≤ f → n = k ^ (spl k f n).1 * (spl k f n).2 ∧ ¬ k ∣ (spl k f n).2
  | 0, n, hn, hf => by omega
  | f + 1, n, hn, hf => by
    unfold spl
    by_cases z : n % k = 0
    · rw [if_pos z]
      have h1 : k * (n / k) = n := by have := Nat.div_add_mod n k; omega
      have h2 : 0 < n / k := by
        rcases Nat.eq_zero_or_pos (n / k) with y | y
        · rw [y] at h1; omega
        · exact y
      have h3 : n / k < n := Nat.div_lt_self hn (by omega)
      obtain ⟨i1, i2⟩ := spl_spec hk f (n / k) h2 (by omega)
      refine ⟨?_, i2⟩
      show n = k ^ ((spl k f (n / k)).1 + 1) * (spl k f (n / k)).2
      rw [Nat.pow_succ, Nat.mul_comm (k ^ _) k, Nat.mul_assoc, ← i1, h1]
    · rw [if_neg z]
      refine ⟨?_, fun h => z (Nat.mod_eq_zero_of_dvd h)⟩
      show n = k ^ 0 * n
      rw [Nat.pow_zero, Nat.one_mul]
theorem vE_spec {k n : Nat} (hk : 2 ≤ k) (hn : 0 < n) : n = k ^ vE k n * vR k n ∧ ¬ k ∣ vR k n := spl_spec hk n n hn (Nat.le_refl n)
theorem vR_pos {k n : Nat} (hk : 2 ≤ k) (hn : 0 < n) : 0 < vR k n := by
  rcases Nat.eq_zero_or_pos (vR k n) with h | h
  · have := (vE_spec hk hn).2
    rw [h] at this
    exact absurd (Nat.dvd_zero k) this
  · exact h
theorem exp_uniq {k e r e' r' : Nat} (hk : 2 ≤ k) (h : k ^ e * r = k ^ e' * r') (hr : ¬ k ∣ r) (hr' : ¬ k ∣ r') : e = e' ∧ r = r' := by
  have key : ∀ {e r e' r' : Nat}, k ^ e * r = k ^ e' * r' → ¬ k ∣ r → ¬ e < e' := fun {e r e' r'} h hr z => by
    obtain ⟨d, rfl⟩ : ∃ d, e' = e + (d + 1) := ⟨e' - e - 1, by omega⟩
    rw [Nat.pow_add, Nat.mul_assoc] at h
    have h2 := Nat.eq_of_mul_eq_mul_left (Nat.pow_pos (by omega)) h
    rw [Nat.pow_succ, Nat.mul_comm (k ^ d) k, Nat.mul_assoc] at h2
    exact hr ⟨_, h2⟩
  have h1 := key h hr
  have h2 := key h.symm hr'
  have e1 : e = e' := by omega
  subst e1
  exact ⟨rfl, Nat.eq_of_mul_eq_mul_left (Nat.pow_pos (by omega)) h⟩
theorem vE_of {k n e r : Nat} (hk : 2 ≤ k) (hn : 0 < n) (h : n = k ^ e * r) (hr : ¬ k ∣ r) : vE k n = e ∧ vR k n = r := by
  obtain ⟨h1, h2⟩ := vE_spec hk hn
  exact exp_uniq hk (h1.symm.trans h) h2 hr
theorem vE_lt {k n t : Nat} (hk : 2 ≤ k) (hn : 0 < n) (h : n < 2 ^ t) : vE k n < t := by
  obtain ⟨h1, _⟩ := vE_spec hk hn
  have h2 := vR_pos hk hn
  have h3 : k ^ vE k n * 1 ≤ k ^ vE k n * vR k n := Nat.mul_le_mul_left _ h2
  have h4 : 2 ^ vE k n ≤ k ^ vE k n := Nat.pow_le_pow_left hk _
  have h5 : 2 ^ vE k n < 2 ^ t := by omega
  exact (Nat.pow_lt_pow_iff_right (a := 2) (by decide)).mp h5
theorem vE_step {k n : Nat} (hk : 2 ≤ k) (hn : 0 < n) (h : n % k = 0) : vE k n = vE k (n / k) + 1 ∧ vR k n = vR k (n / k) ∧ 0 < n / k := by
  have h1 : k * (n / k) = n := by have := Nat.div_add_mod n k; omega
  have h2 : 0 < n / k := by
    rcases Nat.eq_zero_or_pos (n / k) with y | y
    · rw [y] at h1; omega
    · exact y
  obtain ⟨i1, i2⟩ := vE_spec hk h2
  have := vE_of hk hn (e := vE k (n / k) + 1) (r := vR k (n / k)) (by rw [Nat.pow_succ, Nat.mul_comm (k ^ _) k, Nat.mul_assoc, ← i1, h1]) i2
  exact ⟨this.1, this.2, h2⟩
theorem vE_stop {k n : Nat} (hk : 2 ≤ k) (hn : 0 < n) (h : ¬ n % k = 0) : vE k n = 0 ∧ vR k n = n := vE_of hk hn (by rw [Nat.pow_zero, Nat.one_mul]) fun z => h (Nat.mod_eq_zero_of_dvd z)
/-! ### places -/
section
variable {k : Nat} {s l : Nat → Int}
/-- the distance of the place of leaf b + 1 from the place before -/
theorem freq_eq (hk : 2 ≤ k) (b : Nat) : pl k s l 0 (b + 1) = pl k s l 0 b + smN l (vE k (b + 1) + 1) + if vR k (b + 1) = 1 then s (vE k (b + 1) + 1) else 0 := by
  obtain ⟨h1, h2⟩ := vE_spec hk (show 0 < b + 1 by omega)
  have h3 := place_exp (s := s) (l := l) hk h1 h2
  rw [← pl0_place hk, ← pl0_place hk] at h3
  omega
/-- what grows without end -/
structure Inc (P : Nat → Int) : Prop where
  z : 0 ≤ P 0
  st : ∀ b, P b < P (b + 1)
theorem pl_inc (hk : 2 ≤ k) (hs : ∀ j, 0 ≤ s j) (hl : ∀ j, 0 ≤ l j) (h0 : 0 < l 0) : Inc (pl k s l 0) := by
  refine ⟨?_, fun b => ?_⟩
  · have h3 := pl_stt (k := k) (s := s) (l := l) 0 0
    rw [stt_00] at h3
    have : 0 ≤ lab s l 0 0 := by unfold lab; rw [if_pos rfl]; exact hs 0
    omega
  · have h1 := pl_step hk hs hl h0 0 b
    have : lab s l 0 (b + 1) = l 0 := if_neg (Nat.succ_ne_zero b)
    omega
end
theorem Inc.lt {P : Nat → Int} (h : Inc P) {a b : Nat} (hab : a < b) : P a < P b := by
  induction b with
  | zero => omega
  | succ b ih =>
    have := h.st b
    rcases Nat.lt_or_ge a b with z | z
    · have := ih z
      omega
    · rw [show a = b by omega]
      exact this
theorem Inc.le {P : Nat → Int} (h : Inc P) {a b : Nat} (hab : a ≤ b) : P a ≤ P b := by
  rcases Nat.lt_or_ge a b with z | z
  · exact Int.le_of_lt (h.lt z)
  · rw [show a = b by omega]
    exact Int.le_refl _
theorem Inc.ge {P : Nat → Int} (h : Inc P) : ∀ b : Nat, (b : Int) ≤ P b
  | 0 => h.z
  | b + 1 => by
    have := h.ge b
    have := h.st b
    omega
/-! ### values -/
def vnx (P : Nat → Int) (n : Int) : Nat → Nat → Nat
  | 0, r => r
  | f + 1, r => if P r ≤ n then vnx P n f (r + 1) else r
/-- how many places are at most n -/
def Vv (P : Nat → Int) (n : Int) : Nat := vnx P n (n.toNat + 1) 0
theorem vnx_spec {P : Nat → Int} {n : Int} : ∀ (f r : Nat), (∀ b, b < r → P b ≤ n) → n < P (r + f) → (∀ b, b < vnx P n f r → P b ≤ n) ∧ n < P (vnx P n f r)
  | 0, r, h1, h2 => ⟨h1, h2⟩
  | f + 1, r, h1, h2 => by
    unfold vnx
    by_cases z : P r ≤ n
    · rw [if_pos z]
      refine vnx_spec f (r + 1) (fun b hb => ?_) (by rw [show r + 1 + f = r + (f + 1) by omega]; exact h2)
      rcases Nat.lt_or_ge b r with y | y
      · exact h1 b y
      · rw [show b = r by omega]
        exact z
    · rw [if_neg z]
      exact ⟨h1, by omega⟩
theorem Vv_spec {P : Nat → Int} (h : Inc P) {n : Int} (n0 : -1 ≤ n) : (∀ b, b < Vv P n → P b ≤ n) ∧ n < P (Vv P n) := by
  refine vnx_spec _ 0 (fun b hb => absurd hb (Nat.not_lt_zero b)) ?_
  have := h.ge (0 + (n.toNat + 1))
  omega
theorem Vv_of {P : Nat → Int} (h : Inc P) {n : Int} (n0 : -1 ≤ n) {v : Nat} (h1 : ∀ b, b < v → P b ≤ n) (h2 : n < P v) : Vv P n = v := by
  obtain ⟨a, b⟩ := Vv_spec h n0
  rcases Nat.lt_trichotomy (Vv P n) v with z | z | z
  · have := h1 _ z
    omega
  · exact z
  · have := a _ z
    omega
/-- values grow by 0 or 1 -/
theorem Vv_next {P : Nat → Int} (h : Inc P) {n : Int} (n0 : 0 ≤ n) : Vv P n = Vv P (n - 1) ∨ (Vv P n = Vv P (n - 1) + 1 ∧ P (Vv P (n - 1)) = n) := by
  obtain ⟨a, b⟩ := Vv_spec h (show -1 ≤ n - 1 by omega)
  by_cases z : P (Vv P (n - 1)) = n
  · refine .inr ⟨Vv_of h (by omega) (fun c hc => ?_) ?_, z⟩
    · have := h.le (show c ≤ Vv P (n - 1) by omega)
      omega
    · have := h.st (Vv P (n - 1))
      omega
  · exact .inl (Vv_of h (by omega) (fun c hc => by have := a c hc; omega) (by omega))
theorem Vv_neg {P : Nat → Int} (h : Inc P) : Vv P (-1) = 0 := Vv_of h (by omega) (fun b hb => absurd hb (Nat.not_lt_zero b)) (by have := h.z; omega)
/-- the first values -/
def vlL (P : Nat → Int) (c : Nat) : List Int := (List.range c).map fun (i : Nat) => ((Vv P (i : Int) : Nat) : Int)
/-- the first places -/
def plL (P : Nat → Int) (c : Nat) : List Int := (List.range c).map P
theorem plL_len {P : Nat → Int} {c : Nat} : (plL P c).length = c := by unfold plL; rw [List.length_map, List.length_range]
theorem vlL_len {P : Nat → Int} {c : Nat} : (vlL P c).length = c := by unfold vlL; rw [List.length_map, List.length_range]
theorem plL_succ {P : Nat → Int} {c : Nat} : plL P (c + 1) = plL P c ++ [P c] := by
  unfold plL
  rw [List.range_succ, List.map_append]
  rfl
theorem vlL_succ {P : Nat → Int} {c : Nat} : vlL P (c + 1) = vlL P c ++ [((Vv P (c : Int) : Nat) : Int)] := by
  unfold vlL
  rw [List.range_succ, List.map_append]
  rfl
theorem plL_ext {P Q : Nat → Int} {c : Nat} : plL P c = plL Q c ↔ ∀ b, b < c → P b = Q b := by
  unfold plL
  refine ⟨fun h b hb => ?_, fun h => List.map_congr_left fun b hb => h b (List.mem_range.mp hb)⟩
  have := congrArg (fun x => x[b]?) h
  simpa [hb] using this
/-! ### the places in values -/
def pIn (vs : List Int) : List Int := ((List.range vs.length).filter fun i => decide ((0 :: vs).getD i 0 < vs.getD i 0)).map fun (i : Nat) => (i : Int)
theorem vlL_at {P : Nat → Int} {c i : Nat} (hi : i < c) : (vlL P c).getD i 0 = ((Vv P (i : Int) : Nat) : Int) := by
  unfold vlL
  rw [List.getD_eq_getElem?_getD, List.getElem?_map, List.getElem?_range hi]
  rfl
theorem vlL_before {P : Nat → Int} (h : Inc P) {c i : Nat} (hi : i < c) : (0 :: vlL P c).getD i 0 = ((Vv P ((i : Int) - 1) : Nat) : Int) := by
  cases i with
  | zero =>
    show (0 : Int) = _
    rw [show ((0 : Nat) : Int) - 1 = -1 by decide, Vv_neg h]
    rfl
  | succ i =>
    rw [List.getD_cons_succ, vlL_at (by omega), show ((i + 1 : Nat) : Int) - 1 = (i : Int) by omega]
/-- they are the places below the number of values -/
theorem pIn_vlL {P : Nat → Int} (h : Inc P) : ∀ c : Nat, pIn (vlL P c) = plL P (Vv P ((c : Int) - 1)) := by
  have gen : ∀ c m : Nat, m ≤ c → ((List.range m).filter fun i => decide ((0 :: vlL P c).getD i 0 < (vlL P c).getD i 0)).map (fun (i : Nat) => (i : Int)) = plL P (Vv P ((m : Int) - 1)) := fun c m => by
    induction m with
    | zero =>
      intro _
      rw [show ((0 : Nat) : Int) - 1 = -1 by decide, Vv_neg h]
      rfl
    | succ m ih =>
      intro hm
      have hmc : m < c := hm
      rw [List.range_succ, List.filter_append, List.map_append, ih (by omega), show ((m + 1 : Nat) : Int) - 1 = (m : Int) by omega]
      have e1 := vlL_at (P := P) hmc
      have e2 := vlL_before h hmc
      rcases Vv_next h (show (0 : Int) ≤ (m : Int) by omega) with z | ⟨z, y⟩
      · have : decide ((0 :: vlL P c).getD m 0 < (vlL P c).getD m 0) = false := decide_eq_false (by rw [e1, e2, z]; omega)
        have ef : ([m] : List Nat).filter (fun i => decide ((0 :: vlL P c).getD i 0 < (vlL P c).getD i 0)) = [] := by
          simp only [List.filter, this]
        rw [ef, z]
        show _ ++ [] = _
        rw [List.append_nil]
      · have : decide ((0 :: vlL P c).getD m 0 < (vlL P c).getD m 0) = true := decide_eq_true (by rw [e1, e2, z]; omega)
        have ef : ([m] : List Nat).filter (fun i => decide ((0 :: vlL P c).getD i 0 < (vlL P c).getD i 0)) = [m] := by
          simp only [List.filter, this]
        rw [ef, z, plL_succ, y]
        rfl
  intro c
  unfold pIn
  rw [vlL_len]
  exact gen c c (Nat.le_refl c)
end Sm
/-! S32: bounds, plain numbers, conflicts -/
namespace Sm
def bndL (ps : List Int) (r : Int) : List Int := if ps = [] then [] else List.zipWith (fun x y => y - x) ps (ps.drop 1) ++ [r]
theorem bndL_len (ps : List Int) (r : Int) : (bndL ps r).length = ps.length := by
  unfold bndL
  by_cases z : ps = []
  · rw [if_pos z, z]
  · rw [if_neg z, List.length_append, List.length_zipWith, List.length_drop]
    have := List.length_pos_iff.mpr z
    show min ps.length (ps.length - 1) + 1 = _
    omega
theorem bndL_in {P : Nat → Int} {n i : Nat} {r : Int} (hi : i + 1 < n) : (bndL (plL P n) r).getD i 0 = P (i + 1) - P i := by
  have hne : plL P n ≠ [] := by
    intro z
    have := congrArg List.length z
    rw [plL_len] at this
    simp at this
    omega
  unfold bndL
  rw [if_neg hne, List.getD_eq_getElem?_getD, List.getElem?_append_left (by rw [List.length_zipWith, List.length_drop, plL_len]; omega)]
  unfold plL
  rw [List.getElem?_zipWith, List.getElem?_drop, List.getElem?_map, List.getElem?_map, List.getElem?_range (by omega), Nat.add_comm 1 i, List.getElem?_range hi]
  rfl
theorem bndL_last {P : Nat → Int} {n : Nat} {r : Int} : (bndL (plL P (n + 1)) r).getD n 0 = r := by
  have hne : plL P (n + 1) ≠ [] := by
    intro z
    have := congrArg List.length z
    rw [plL_len] at this
    simp at this
  unfold bndL
  rw [if_neg hne, List.getD_eq_getElem?_getD, List.getElem?_append_right (by rw [List.length_zipWith, List.length_drop, plL_len]; omega), List.length_zipWith, List.length_drop, plL_len]
  rw [show n - min (n + 1) (n + 1 - 1) = 0 by omega]
  rfl
abbrev Pln := Nat × Nat × Int
/-- the plain numbers among the first i: exponent, number, bound -/
def plnL (k : Nat) (bs : List Int) : Nat → List Pln
  | 0 => []
  | i + 1 => plnL k bs i ++ (if vR k (i + 1) ≠ 1 then [(vE k (i + 1), i + 1, bs.getD i 0)] else [])
theorem plnL_mem {k : Nat} {bs : List Int} {t : Pln} : ∀ {i : Nat}, t ∈ plnL k bs i → ∃ j, j < i ∧ vR k (j + 1) ≠ 1 ∧ t = (vE k (j + 1), j + 1, bs.getD j 0)
  | 0, h => nomatch h
  | i + 1, h => by
    rcases List.mem_append.mp h with z | z
    · obtain ⟨j, h1, h2⟩ := plnL_mem z
      exact ⟨j, by omega, h2⟩
    · by_cases y : vR k (i + 1) ≠ 1
      · rw [if_pos y] at z
        exact ⟨i, Nat.lt_succ_self i, y, List.mem_singleton.mp z⟩
      · rw [if_neg y] at z
        cases z
theorem plnL_le {k : Nat} {bs : List Int} : ∀ i, (plnL k bs i).length ≤ i
  | 0 => Nat.le_refl 0
  | i + 1 => by
    have := plnL_le (k := k) (bs := bs) i
    show (plnL k bs i ++ _).length ≤ i + 1
    rw [List.length_append]
    split
    · show _ + 1 ≤ _
      omega
    · show _ + 0 ≤ _
      omega
/-- the conflicts of a number with plain ones -/
def cfI (k : Nat) (bs : List Int) (number : Nat) (pl : List Pln) : List (Nat × Nat) := pl.filterMap fun t => if t.1 ≤ vE k number ∧ bs.getD (number - 1) 0 < t.2.2 then some (number, t.2.1) else none
/-- the conflicts of n numbers behind i -/
def cfF (k : Nat) (bs : List Int) (pl : List Pln) : Nat → Nat → List (Nat × Nat)
  | 0, _ => []
  | n + 1, i => cfI k bs (i + 1) pl ++ cfF k bs pl n (i + 1)
def cfL (k : Nat) (bs : List Int) : List (Nat × Nat) := cfF k bs (plnL k bs bs.length) (bs.length - 1) 0
theorem cfI_none {k : Nat} {bs : List Int} {number : Nat} {pl : List Pln} (h : ∀ t ∈ pl, t.1 ≤ vE k number → t.2.2 ≤ bs.getD (number - 1) 0) : cfI k bs number pl = [] := by
  unfold cfI
  refine List.filterMap_eq_nil_iff.mpr fun t ht => ?_
  rw [if_neg]
  rintro ⟨h1, h2⟩
  have := h t ht h1
  omega
theorem cfF_none {k : Nat} {bs : List Int} {pl : List Pln} : ∀ (n i : Nat), (∀ m, i ≤ m → m < i + n → cfI k bs (m + 1) pl = []) → cfF k bs pl n i = []
  | 0, _, _ => rfl
  | n + 1, i, h => by
    show cfI k bs (i + 1) pl ++ cfF k bs pl n (i + 1) = []
    rw [h i (Nat.le_refl i) (by omega), cfF_none n (i + 1) fun m h1 h2 => h m (by omega) (by omega)]
    rfl
theorem cfI_cons {k : Nat} {bs : List Int} {number : Nat} {t : Pln} {pl : List Pln} : cfI k bs number (t :: pl) = if t.1 ≤ vE k number ∧ bs.getD (number - 1) 0 < t.2.2 then (number, t.2.1) :: cfI k bs number pl else cfI k bs number pl := by
  unfold cfI
  rw [List.filterMap_cons]
  by_cases z : t.1 ≤ vE k number ∧ bs.getD (number - 1) 0 < t.2.2
  · rw [if_pos z, if_pos z]
  · rw [if_neg z, if_neg z]
theorem smN_up {f : Nat → Int} (hf : ∀ j, 0 ≤ f j) {a b : Nat} (h : a ≤ b) : smN f a ≤ smN f b := by
  induction b with
  | zero => rw [Nat.le_zero.mp h]; exact Int.le_refl _
  | succ b ih =>
    rcases Nat.lt_or_ge b a with z | z
    · rw [show a = b + 1 by omega]
      exact Int.le_refl _
    · have := ih z
      have := hf b
      show smN f a ≤ smN f b + f b
      omega
/-- the first places of a schedule have no conflict -/
theorem cf_own {k : Nat} {s l : Nat → Int} (hk : 2 ≤ k) (hs : ∀ j, 0 ≤ s j) (hl : ∀ j, 0 ≤ l j) {n : Nat} {r : Int} (hr : ∀ m, n = m + 1 → r ≤ pl k s l 0 (m + 1) - pl k s l 0 m) : cfL k (bndL (plL (pl k s l 0) n) r) = [] := by
  have hlen : (bndL (plL (pl k s l 0) n) r).length = n := by rw [bndL_len, plL_len]
  unfold cfL
  rw [hlen]
  refine cfF_none _ _ fun m _ hm => cfI_none fun t ht he => ?_
  rw [Nat.zero_add] at hm
  obtain ⟨j, hj, hj1, rfl⟩ := plnL_mem ht
  have e1 : (bndL (plL (pl k s l 0) n) r).getD (m + 1 - 1) 0 = pl k s l 0 (m + 1) - pl k s l 0 m := by rw [Nat.add_sub_cancel]; exact bndL_in (by omega)
  have f1 := freq_eq (s := s) (l := l) hk m
  have f2 := freq_eq (s := s) (l := l) hk j
  rw [if_neg hj1] at f2
  have e2 : (bndL (plL (pl k s l 0) n) r).getD j 0 ≤ pl k s l 0 (j + 1) - pl k s l 0 j := by
    rcases Nat.lt_or_ge (j + 1) n with z | z
    · rw [bndL_in z]
      exact Int.le_refl _
    · obtain rfl : n = j + 1 := by omega
      rw [bndL_last]
      exact hr j rfl
  have h3 : smN l (vE k (j + 1) + 1) ≤ smN l (vE k (m + 1) + 1) := smN_up hl (by dsimp only at he; omega)
  have h4 : 0 ≤ (if vR k (m + 1) = 1 then s (vE k (m + 1) + 1) else 0) := by
    split
    · exact hs _
    · exact Int.le_refl _
  dsimp only
  omega
end Sm
namespace Ab
open PySem PySem.Spec PyProof.Rows L2
end Ab
/-! arguments in any order; a def with one positional parameter and a star -/
namespace Ab
open PySem L2 GenW
end Ab
/-! slices of lists of ints, sums, comparisons of two texts -/
namespace Ab
open PySem L2
/-! ### repr(a) against repr(b) -/
end Ab
/-! texts: str(i), int(s), +, join, split, find, count, places, slices, signs walked, f-strings -/
namespace Ab
open PySem PySem.Spec PyProof.Rows L2
section
variable {X : Cx} {Γ : Gam} {M : Mem} {P : Val → Mem → Prop} {e a b c o : Expr} {es : List Expr} {pos p1 p2 apos : Pos} {d : Val} {i j : Int} {x y z : Str}
/-- s[i] -/
theorem av_ixS {cc : Nat} (ha : aV X a Γ M (.str x)) (hb : aV X b Γ M (.int i)) (hl : x.length ≤ sizeLine) (hc : atI x.cps.toList i = some cc) (hs : PlainIx b := by exact fun _ _ => rfl) : aV X (.Subscript a b pos) Γ M (.str ⟨#[cc]⟩) := fun Hi H σ ok en Q q => by
  refine ⟨_, pe_ix ix_str pe_we pe_we hs, ?_⟩
  refine ha Hi H σ ok en _ fun d M1 v Hi1 H1 h1 s1 ok1 r1 => ?_
  obtain ⟨rfl, rfl⟩ := h1
  cases r1
  refine hb Hi1 H1 σ ok1 (en.mono s1) _ fun d M2 w Hi2 H2 h2 s2 ok2 r2 => ?_
  obtain ⟨rfl, rfl⟩ := h2
  cases r2
  exact ⟨x, i, cc, rfl, rfl, hl, hc, q _ _ _ Hi2 _ ⟨rfl, rfl⟩ (s1.trans s2) ok2 (.str _)⟩
/-- s[i:j] -/
theorem av_sliceS {elo ehi : Option Expr} {lo hi : Option Int} (ha : aV X a Γ M (.str x)) (hl : aO X elo Γ M lo) (hh : aO X ehi Γ M hi) (hx : x.length ≤ sizeLine) : aV X (.Subscript a (.Slice elo ehi none p2) pos) Γ M (.str (L2.cutS x lo hi)) := fun Hi H σ ok en Q q => by
  refine ⟨_, pe_slice sl_str pe_we po_wo po_wo, ?_⟩
  refine ha Hi H σ ok en _ fun d M1 v Hi1 H1 h1 s1 ok1 r1 => ?_
  obtain ⟨rfl, rfl⟩ := h1
  cases r1
  refine hl Hi1 H1 σ ok1 (en.mono s1) _ fun Hi2 H2 s2 ok2 => ?_
  refine hh Hi2 H2 σ ok2 (en.mono (s1.trans s2)) _ fun Hi3 H3 s3 ok3 => ?_
  exact ⟨x, rfl, hx, q _ _ _ Hi3 _ ⟨rfl, rfl⟩ ((s1.trans s2).trans s3) ok3 (.str _)⟩
/-! ### f-strings -/
end
end Ab
/-! Ab85: str(o) of an own instance -/
namespace Ab
open PySem PySem.Spec PyProof.Rows L2
end Ab
/-! Ab93: repr(o) of an own instance -/
namespace Ab
open PySem PySem.Spec PyProof.Rows L2
end Ab
/-! Ab94: super().m(..) as a statement; (a, b) < (c, d) of ints -/
namespace Ab
open PySem PySem.Spec PyProof.Rows L2 PySem.W
end Ab
/-! Ab104: a list of a generator frozen; if not super().m(..) -/
namespace Ab
open PySem PySem.Spec PyProof.Rows L2 PySem.W GenW
section
variable {τ : Type} {G : GX τ} {sts : List Stmt} {n : Nat} {R : Hnd τ} {Γ : Gam} {M : Mem} {k : KG τ}
/-- the list in a slot's cell will change no more -/
theorem gs_frz (i : Nat) {p : Addr} {xs : List Val} (hΓ : Γ[i]? = some (some (.ptr p))) (h : gSs G sts n R (Γ.set i (some (.lst xs))) M k) : gSs G sts n R Γ ((p, .lst xs) :: M) k := fun go ip W s₀ c fs Kc Jc gd lv s σ H Hi g v hR en kk => by
  obtain ⟨e0, o, ho, vs, rfl, ra⟩ := v.ok.ce p _ List.mem_cons_self
  have s2 := same_upd (o := .lst vs) e0
  obtain ⟨v', hv, rv⟩ := en.2 i _ hΓ
  cases rv
  have en2 := (en.mono s2).set (i := i) (d := .lst xs) (v := .ref p) (.lst (SqL.of upd_same) (ra.mono s2))
  have e : σ.set i (some (V.ref p)) = σ := by
    apply List.ext_getElem?
    intro j
    by_cases hij : i = j
    · subst hij
      rw [List.getElem?_set_self (List.getElem?_eq_some_iff.mp hv).1, hv]
    · rw [List.getElem?_set_ne hij]
  rw [e] at en2
  exact h go ip W s₀ c fs Kc Jc gd lv s σ H _ g (v.to v.inv s2 (v.ok.freeze ho)) hR en2 (kk.up s2)
/-- y = [.. for ..] of a generator, items told by their number -/
theorem gs_lcP {y : Str} {cnt : Nat} {tg iter elt : Expr} {scope : Scope} {pos py spos : Pos} (m : Nat) (own : List (Str × Nat)) {it : Nat → Val} (g : Nat → Val) (hc : ∀ H s pn, (G.cx H s pn).calm = true) (hN : G.N.Nodup) (ok : BlkOk G.N G.env.scope scope own)
    (hi : ∀ H s pn, aI (G.cx H s pn) tg iter Γ M cnt it (fun _ => True) (fun M' => M' = M))
    (hs : ∀ H0 s0 pn0 i acc D, i < cnt → bG (G.cx H0 s0 pn0) scope (own.map (·.2)) tg (it i) (wipeG Γ (own.map (·.2))) ((D, .lst acc) :: M) fun Γ2 M2 => bE (G.cx H0 s0 pn0) scope elt Γ2 M2 fun y M4 => y = g i ∧ M4 = (D, .lst acc) :: M)
    (hn : cnt ≤ 100000) (h : gSs G sts n R (Γ.set m (some (.lst ((List.range cnt).map g)))) M k) (hm : m < Γ.length := by exact Nat.le_of_ble_eq_true rfl) (hy : G.N[m]? = some y := by rfl) (hyl : G.env.scope.names.lookup y = some .local := by rfl)
    (hsw : swapsWith (.ListComp elt [⟨tg, iter, [], 0⟩] scope pos) (some (.Name y py)) spos.line G.env = pure true := by exact sw_true rfl rfl rfl (by decide +kernel))
    (hf : ∀ x, foldedSetIterable iter G.env x = pure x := by intro _; rfl) :
    gSs G (.Assign [.Name y py] (.ListComp elt [⟨tg, iter, [], 0⟩] scope pos) spos :: sts) n R Γ M k := by
  refine gs_cons (g_plain fun H s pn => as_lcJ m own (hc H s pn) hN ok (aj_ai (hi H s pn) fun M1 e => ?_) hy hyl hsw hf)
  subst e
  refine ⟨hn, fun i acc M' => M' = M1 ∧ acc = (List.range i).map g, ⟨rfl, rfl⟩, ?_, ?_⟩
  · rintro i acc M' D hi' _ ⟨rfl, rfl⟩ s0 H0 C cl fp
    intro Hi1 H1 σ1 v1 ok1 en1 r1 Q1 q1
    refine hs H s pn i _ D hi' s0 H0 C cl fp Hi1 H1 σ1 v1 ok1 en1 r1 Q1 fun Γ2 M2 σ2 Hi2 H2 h2 => q1 Γ2 M2 σ2 Hi2 H2 fun s' H' C' cl' fp' => ats_nil ⟨fun _ s2 H2 C2 cl2 fp2 => (h2 s2 H2 C2 cl2 fp2).mono fun y M4 hy => ?_, fun z => nomatch z⟩
    obtain ⟨rfl, rfl⟩ := hy
    exact ⟨_, rfl, rfl, by rw [List.range_succ, List.map_append]; rfl⟩
  · rintro D acc M' ⟨rfl, rfl⟩
    refine gs_frz m (by rw [List.getElem?_set_self hm]) ?_
    rw [List.set_set]
    exact h
end
section
variable {X : Cx} {body s1 s2 : List Stmt} {Γ : Gam} {M : Mem} {e : Expr} {pos np : Pos} {k : AK}
theorem zs_ifNot (h : zE X body e Γ M fun d M' => ∃ b, d = .bl b ∧ (b = false → zSs X body s1 Γ M' k) ∧ (b = true → zSs X body s2 Γ M' k))
    (ht : isTrue e X.env (eval e X.env) = (do
      let v ← eval e X.env
      standAt e.pos
      holding [v] (truthy v)) := by rfl) : zS X body (.If (.UnaryOp .Not e np) s1 s2 pos) Γ M k := fun Hi H σ pins s ok en I Φ q => by
  refine ks_wpAt_If ?_
  show PySem.wpAt _ _ _ (do return !(← isTrue e X.env (eval e X.env))) _ _ _
  rw [ht]
  refine PySem.wpAt_bind (PySem.wpAt_bind (PySem.wpAt_mono (h Hi H σ pins s ok en I (fun v H' => ∃ (Hi' : Hp) (M' : Mem) (d : Val), Same Hi Hi' ∧ Ok X.K Hi' M' H' ∧ Rep X.K Hi' d v ∧ ∃ b, d = .bl b ∧ (b = false → zSs X body s1 Γ M' k) ∧ (b = true → zSs X body s2 Γ M' k)) fun d M' v Hi' H' p e o r => ⟨Hi', M', d, e, o, r, p⟩) (fun u s' z => ?_) fun _ _ z => z))
  obtain ⟨v, H', I', rv, Hi', M', d, e', o, r, b, rfl, p1, p2⟩ := z
  cases r
  obtain rfl : u = Value.bool b := rv
  refine wpAt_of_wpAny (wpAny_bind (wpAny_standAt (wpAny_holding (wpAny_pure ?_))))
  refine wpAt_of_wpAny (wpAny_pure ?_)
  cases b with
  | true => exact p2 rfl Hi' H' σ pins s' o (en.mono e') I' Φ (q.up e')
  | false => exact p1 rfl Hi' H' σ pins s' o (en.mono e') I' Φ (q.up e')
end
end Ab
namespace K43
open PySem L2 Ab GenW Sm
section
variable {P : Program} {w : World} {K : PySem.W.Frag} {mg : Str → Option Value} {base : Heap} {k : Nat} {f C CN CS CB : Addr}
/-! ### places and values of a schedule -/
/-- the place of a leaf -/
abbrev PlS (S : Sc) : Nat → Int := pl S.a.toNat (item S.sp) (item S.lv) 0
theorem PlS_inc {S : Sc} (h : GoodS S) : Inc (PlS S) := pl_inc h.k2 h.s0 h.l0 h.lp
theorem gdI {xs : List Int} {i : Nat} (h : i < xs.length) : (xs.map Val.int).getD i .non = .int (xs.getD i 0) := by
  rw [List.getD_eq_getElem?_getD, List.getElem?_map, List.getElem?_eq_getElem h, List.getD_eq_getElem?_getD, List.getElem?_eq_getElem h]
  rfl
/-! ### check_values, check_places, check_arity -/
def okVs (vs : List Int) : Prop := 1 ≤ vs.length ∧ vs.length ≤ 1000 ∧ ∀ i, i < vs.length → (0 :: vs).getD i 0 ≤ vs.getD i 0 ∧ vs.getD i 0 ≤ (0 :: vs).getD i 0 + 1
def okPs (ps : List Int) : Prop := ps.length ≤ 500 ∧ ∀ i, i < ps.length → (if i = 0 then 0 else ps.getD (i - 1) 0 + 1) ≤ ps.getD i 0 ∧ ps.getD i 0 ≤ (if i = 0 then 0 else ps.getD (i - 1) 0) + 1000000
def aCkv : ASp := fun ds M R => ∃ (d : Val) (vs : List Int), ds = [d] ∧ Sv M d vs ∧ okVs vs ∧ R .non M
theorem b_check_values (B : Bt mg) (GA : GInt P w K mg base) : BodyOk P w K mg base 2 f n_check_values "check_values" (defScope s_check_values) (defBody s_check_values) aCkv := by
  rintro cdv A outer s0 H E hr ds M R ⟨d, vs, rfl, hd, ⟨l1, l2, hst⟩, hp⟩
  refine as_cons (as_ifp (tp_w (wp_or (tp_not (tp_val (ae_isiS B.isinstance (v_ 0) (av_tup (avs_cons (av_ty (T := "list") B.list (by decide +kernel)) (avs_cons (av_ty (T := "tuple") B.tuple (by decide +kernel)) avs_nil)) szb) hd ⟨rfl, rfl⟩))) fun _ => wp_or1 (tp_not (tp_chain i_ (av_lenSv B.len (v_ 0) hd) i_ cp_le cp_le)))) (fun c => ?_) (fun _ => as_nil ?_))
  · rcases c with c | c
    · exact absurd rfl c
    · exact absurd ⟨by omega, by omega⟩ c
  refine as_one (as_for (G := fun M' => M' = M) (fun i Γ M' => M' = M ∧ Le [some (d), none, none, none] Γ) PassesOwn.never rfl (ai_enumS B.enumerate (v_ 0) hd ⟨rfl, (by repeat' first | exact le_nil | refine le_skip ?_ | refine le_keep rfl ?_)⟩) (fun i Γ M' _ h => h.1) ?_ ?_)
  · rintro i Γ M' hi ⟨rfl, hle⟩
    rw [List.length_map] at hi
    obtain ⟨s1, s2⟩ := hst i hi
    dsimp only
    rw [gdI hi]
    refine ag_le hle (ag_tup rfl (ags_cons (ag_name 1 q_check_values.nd (ags_cons (ag_name 2 q_check_values.nd (ags_nil ?_))))))
    refine as_cons (as_setv (d := .int ((0 :: vs).getD i 0)) 3 q_check_values.nd ?_ ?_)
    · cases i with
      | zero => exact ae_ifp (tp_cmp (v_ 1) i_ cp_gt) (fun c => absurd c (by decide)) (fun _ => i_.val ⟨rfl, rfl⟩)
      | succ i => exact ae_ifp (tp_cmp (v_ 1) i_ cp_gt) (fun _ => (av_ixSv (i := (i : Int)) (v_ 0) ((av_sub (v_ 1) i_).val ⟨by rw [show ((i + 1 : Nat) : Int) - 1 = (i : Int) by omega], rfl⟩) hd (by omega) (by omega)).val ⟨rfl, rfl⟩) (fun c => absurd (show (0 : Int) < ((i + 1 : Nat) : Int) by omega) c)
    refine as_one (as_if (at_not (at_val (ae_g GA hr (by decide) (aa_cons ((v_ 2).val (aa_nil (ak_cons ((v_ 3).val (ak_cons ((av_add (v_ 3) i_).val (ak_nil ⟨rfl, rfl, vs.getD i 0, some _, some _, rfl, true, ?_, nft, fun _ => as_nil ⟨rfl, (by repeat' first | exact le_nil | refine le_skip ?_ | refine le_keep rfl ?_)⟩⟩))))))))))))
    have e : within (vs.getD i 0) (some ((0 :: vs).getD i 0)) (some ((0 :: vs).getD i 0 + 1)) = true := by simp [within]; exact ⟨by simpa using s1, by simpa using s2⟩
    rw [e]
  · rintro Γ M' ⟨rfl, _⟩
    exact .ok hp
abbrev GCkv (P : Program) (w : World) (K : PySem.W.Frag) (mg : Str → Option Value) (base : Heap) : Prop := Gd P w K mg base 3 "check_values" [] fun ds _ => aCkv ds
structure Lm6 (mg : Str → Option Value) : Prop where
  MOST_LABELS : ∃ t, mg "MOST_LABELS" = some (.int 1000000 t)
  ITEM_COUNT : ∃ t, mg "ITEM_COUNT" = some (.int 12 t)
def aCkp : ASp := fun ds M R => ∃ (d : Val) (ps : List Int), ds = [d] ∧ Sv M d ps ∧ okPs ps ∧ R .non M
theorem b_check_places (B : Bt mg) (L : Lm6 mg) (GA : GInt P w K mg base) : BodyOk P w K mg base 2 f n_check_places "check_places" (defScope s_check_places) (defBody s_check_places) aCkp := by
  rintro cdv A outer s0 H E hr ds M R ⟨d, vs, rfl, hd, ⟨l2, hst⟩, hp⟩
  refine as_cons (as_ifp (tp_w (wp_or (tp_not (tp_val (ae_isiS B.isinstance (v_ 0) (av_tup (avs_cons (av_ty (T := "list") B.list (by decide +kernel)) (avs_cons (av_ty (T := "tuple") B.tuple (by decide +kernel)) avs_nil)) szb) hd ⟨rfl, rfl⟩))) fun _ => wp_or1 (tp_cmp (av_lenSv B.len (v_ 0) hd) i_ cp_gt))) (fun c => ?_) (fun _ => as_nil ?_))
  · rcases c with c | c
    · exact absurd rfl c
    · exact absurd c (by omega)
  refine as_one (as_for (G := fun M' => M' = M) (fun i Γ M' => M' = M ∧ Le [some (d), none, none, none, none] Γ) PassesOwn.never rfl (ai_enumS B.enumerate (v_ 0) hd ⟨rfl, (by repeat' first | exact le_nil | refine le_skip ?_ | refine le_keep rfl ?_)⟩) (fun i Γ M' _ h => h.1) ?_ ?_)
  · rintro i Γ M' hi ⟨rfl, hle⟩
    rw [List.length_map] at hi
    obtain ⟨s1, s2⟩ := hst i hi
    dsimp only
    rw [gdI hi]
    refine ag_le hle (ag_tup rfl (ags_cons (ag_name 1 q_check_places.nd (ags_cons (ag_name 2 q_check_places.nd (ags_nil ?_))))))
    refine as_cons (as_setv (d := .int (if i = 0 then 0 else vs.getD (i - 1) 0 + 1)) 3 q_check_places.nd ?_ ?_)
    · cases i with
      | zero => exact ae_ifp (tp_cmp (v_ 1) i_ cp_gt) (fun c => absurd c (by decide)) (fun _ => i_.val ⟨rfl, rfl⟩)
      | succ i => exact ae_ifp (tp_cmp (v_ 1) i_ cp_gt) (fun _ => (av_add (av_ixSv (i := (i : Int)) (v_ 0) ((av_sub (v_ 1) i_).val ⟨by rw [show ((i + 1 : Nat) : Int) - 1 = (i : Int) by omega], rfl⟩) hd (by omega) (by omega)) i_).val ⟨rfl, rfl⟩) (fun c => absurd (show (0 : Int) < ((i + 1 : Nat) : Int) by omega) c)
    refine as_cons (as_setv (d := .int ((if i = 0 then 0 else vs.getD (i - 1) 0) + 1000000)) 4 q_check_places.nd ?_ ?_)
    · cases i with
      | zero => exact ae_ifp (tp_cmp (v_ 1) i_ cp_gt) (fun c => absurd c (by decide)) (fun _ => (av_gi L.MOST_LABELS).val ⟨rfl, rfl⟩)
      | succ i => exact ae_ifp (tp_cmp (v_ 1) i_ cp_gt) (fun _ => (av_add (av_ixSv (i := (i : Int)) (v_ 0) ((av_sub (v_ 1) i_).val ⟨by rw [show ((i + 1 : Nat) : Int) - 1 = (i : Int) by omega], rfl⟩) hd (by omega) (by omega)) (av_gi L.MOST_LABELS)).val ⟨rfl, rfl⟩) (fun c => absurd (show (0 : Int) < ((i + 1 : Nat) : Int) by omega) c)
    refine as_one (as_if (at_not (at_val (ae_g GA hr (by decide) (aa_cons ((v_ 2).val (aa_nil (ak_cons ((v_ 3).val (ak_cons ((v_ 4).val (ak_nil ⟨rfl, rfl, vs.getD i 0, some _, some _, rfl, true, ?_, nft, fun _ => as_nil ⟨rfl, (by repeat' first | exact le_nil | refine le_skip ?_ | refine le_keep rfl ?_)⟩⟩))))))))))))
    have e : within (vs.getD i 0) (some (if i = 0 then 0 else vs.getD (i - 1) 0 + 1)) (some ((if i = 0 then 0 else vs.getD (i - 1) 0) + 1000000)) = true := by
      generalize (if i = 0 then (0 : Int) else vs.getD (i - 1) 0 + 1) = x1 at *
      generalize (if i = 0 then (0 : Int) else vs.getD (i - 1) 0) = x2 at *
      generalize vs.getD i 0 = x3 at *
      simp [within]
      exact ⟨s1, s2⟩
    rw [e]
  · rintro Γ M' ⟨rfl, _⟩
    exact .ok hp
abbrev GCkp (P : Program) (w : World) (K : PySem.W.Frag) (mg : Str → Option Value) (base : Heap) : Prop := Gd P w K mg base 3 "check_places" [] fun ds _ => aCkp ds
def aCka : ASp := fun ds M R => ∃ kn : Nat, ds = [.int (kn : Int)] ∧ 2 ≤ kn ∧ kn ≤ 9 ∧ R .non M
theorem b_check_arity (GB : GChk3 P w K mg base) : BodyOk P w K mg base 3 f n_check_arity "check_arity" (defScope s_check_arity) (defBody s_check_arity) aCka := by
  rintro cdv A outer s0 H E hr ds M R ⟨kn, rfl, k2, k9, hp⟩
  exact as_one (as_expr (ae_g GB hr (by decide) (aa_cons ((v_ 0).val (aa_cons (i_.val (aa_cons (i_.val (aa_nil (ak_nil ⟨rfl, (kn : Int), 2, 9, rfl, by omega, by omega, .ok hp⟩))))))))))
abbrev GCka (P : Program) (w : World) (K : PySem.W.Frag) (mg : Str → Option Value) (base : Heap) : Prop := Gd P w K mg base 4 "check_arity" [] fun ds _ => aCka ds
/-! ### split_number -/
def aSpn : ASp := fun ds M R => ∃ (n kn : Nat), ds = [.int (n : Int), .int (kn : Int)] ∧ 0 < n ∧ 2 ≤ kn ∧ kn ≤ 9 ∧ R (.tup [.int (vE kn n : Nat), .int (vR kn n : Nat)]) M
theorem b_split_number : BodyOk P w K mg base k f n_split_number "split_number" (defScope s_split_number) (defBody s_split_number) aSpn := by
  rintro cdv A outer s0 H E hr ds M R ⟨n, kn, rfl, n0, k2, k9, hp⟩
  refine as_cons (as_setv (d := .int ((0 : Nat) : Int)) 2 q_split_number.nd i_ ?_)
  refine as_cons (as_whileW (fun t Γ M' => ∃ e : Nat, 0 < t ∧ vE kn n = e + vE kn t ∧ vR kn n = vR kn t ∧ M' = M ∧ Γ = [some (.int (t : Int)), some (.int (kn : Int)), some (.int (e : Int))]) n PassesOwn.never ⟨_, _, ⟨0, n0, (Nat.zero_add _).symm, rfl, rfl, rfl⟩, (by repeat' first | exact le_nil | refine le_skip ?_ | refine le_keep rfl ?_), (by repeat' first | exact List.Sublist.refl _ | exact List.sublist_append_right _ _ | apply List.Sublist.cons₂ | apply List.Sublist.cons)⟩ ?_)
  rintro t Γ M' ⟨e, t0, h1, h2, rfl, rfl⟩
  refine ⟨_, (tp_cmp (av_mod (v_ 0) (v_ 1) (by first | omega | assumption)) i_ cp_eq), fun hc => ?_, fun hc => ?_⟩
  · have hc : t % kn = 0 := by
      have : (t : Int) % (kn : Int) = 0 := hc
      omega
    obtain ⟨g1, g2, g3⟩ := vE_step k2 t0 hc
    refine as_cons (as_augF 0 q_split_number.nd rfl ((v_ 1).val ⟨_, rfl, ⟨by omega, by omega⟩, ?_⟩))
    rw [← Int.natCast_ediv]
    refine as_one (as_augI 2 q_split_number.nd ip_add rfl (i_.val ⟨_, rfl, ?_⟩))
    rw [show (e : Int) + 1 = ((e + 1 : Nat) : Int) by omega]
    exact ⟨_, _, ⟨t / kn, Nat.div_lt_self t0 (by omega), e + 1, g3, by omega, by rw [h2, g2], rfl, rfl⟩, (by repeat' first | exact le_nil | refine le_skip ?_ | refine le_keep rfl ?_), (by repeat' first | exact List.Sublist.refl _ | exact List.sublist_append_right _ _ | apply List.Sublist.cons₂ | apply List.Sublist.cons)⟩
  · have hc : ¬ t % kn = 0 := fun z => by
      have : ¬ (t : Int) % (kn : Int) = 0 := hc
      omega
    obtain ⟨g1, g2⟩ := vE_stop k2 t0 hc
    rw [h1, h2, g1, g2, Nat.add_zero] at hp
    exact as_one (as_retv (ae_tup (aA.val (avs_cons (v_ 2) (avs_cons (v_ 0) avs_nil)) ⟨szb, rfl, rfl⟩)) (.ok hp))
abbrev GSpn (P : Program) (w : World) (K : PySem.W.Frag) (mg : Str → Option Value) (base : Heap) : Prop := Gd P w K mg base 1 "split_number" [] fun ds _ => aSpn ds
/-! ### first_places, first_values -/
abbrev smL (l : Nat → Int) (m : Nat) : List Int := (List.range m).map fun j => smN l (j + 1)
theorem smL_last {l : Nat → Int} {m : Nat} : atI ((smL l (m + 1)).map Val.int) (-1) = some (.int (smN l (m + 1))) := by
  refine atI_lastE (n := m) (by rw [List.length_map, List.length_range]) ?_
  unfold smL
  rw [List.getD_eq_getElem?_getD, List.getElem?_map, List.getElem?_range (by omega)]
  rfl
def aFpl (C : Addr) : ASp := fun ds M R => ∃ (S : Sc) (c : Nat), ds = [scV C S, .int (c : Int)] ∧ GoodS S ∧ c ≤ 5000 ∧ R (.tup ((plL (PlS S) c).map .int)) M
theorem b_first_places (B : Bt mg) (T : Rs K mg C) (Q : Sm2 P w K mg base C) (PA : PrA P w K mg base C) (GS : GSpn P w K mg base) : BodyOk P w K mg base 3 f n_first_places "first_places" (defScope s_first_places) (defBody s_first_places) (aFpl C) := by
  rintro cdv A outer s0 H E hr ds M R ⟨S, c, rfl, hS, hc, hp⟩
  have a2 := hS.a2
  have k2 := hS.k2
  have k9 := hS.k9
  have ea : S.a = (S.a.toNat : Int) := by omega
  refine as_cons (as_par3 2 3 4 q_first_places.nd rfl (aa_cons (ae_lstC (aa_nil ⟨szb, fun fq => aa_cons ((av_sa T Q hr (by decide) (v_ 0) i_ hS (by decide)).val (aa_cons (ae_lstC (aa_cons ((av_la T Q hr (by decide) (v_ 0) i_ hS (by decide)).val (aa_nil ⟨szb, fun q => aa_nil ⟨_, _, _, rfl, ?_⟩⟩))))))⟩))))
  have p0 : PlS S 0 = item S.sp (0 : Int).toNat := by
    show pl _ _ _ 0 0 = _
    rw [pl_zero]
    unfold fp
    rw [if_pos rfl, Int.zero_add]
    rfl
  rw [← p0]
  refine as_cons (as_forL PassesOwn.never rfl (aj_range2 B.range (aA.val (avs_cons i_ (avs_cons (av_add (v_ 1) i_) avs_nil)) ⟨_, _, rfl, ⟨by omega, by omega, by omega, by omega⟩, ?_⟩)))
  rw [show ((c : Int) + 1 - 1).toNat = c by omega]
  refine ⟨fun t Γ M' => ∃ m : Nat, 1 ≤ m ∧ m ≤ 64 ∧ M' = (q, .lst ((smL (item S.lv) m).map .int)) :: (fq, .lst ((plL (PlS S) t).map .int)) :: M ∧ Γ = [some (scV C S), some (.int (c : Int)), some (.ptr fq), some (.int (PlS S t)), some (.ptr q), none, none, none], ⟨_, ⟨1, Nat.le_refl 1, by decide, ?_, rfl⟩, (by repeat' first | exact le_nil | refine le_skip ?_ | refine le_keep rfl ?_)⟩, ?_, ?_⟩
  · show (q, Cell.lst [Val.int (item S.lv (0 : Int).toNat)]) :: _ = (q, Cell.lst [Val.int (smN (item S.lv) 1)]) :: _
    rw [show smN (item S.lv) 1 = item S.lv (0 : Int).toNat from Int.zero_add _]
    rfl
  · rintro t Γ M' ht ⟨m, m1, m64, rfl, rfl⟩
    have hf := freq_eq (s := item S.sp) (l := item S.lv) k2 t
    have he : vE S.a.toNat (t + 1) < 13 := vE_lt k2 (by omega) (by omega)
    dsimp only
    rw [show (1 : Int) + (t : Int) = ((t + 1 : Nat) : Int) by omega]
    refine ag_name 5 q_first_places.nd ?_
    refine as_cons (as_expr (ae_append (n0 := 1) (v_ 2) rfl ((v_ 3).val ⟨1, _, rfl, szl (by rw [List.length_map, plL_len]; omega), ?_⟩)))
    refine as_cons (as_asg (ae_g GS hr (by decide) (aa_cons ((v_ 5).val (aa_cons ((av_arity T PA hr (by decide) (v_ 0)).val (aa_nil (ak_nil ⟨rfl, t + 1, S.a.toNat, by rw [← ea], by omega, k2, k9, ag_tup rfl (ags_cons (ag_name 6 q_first_places.nd (ags_cons (ag_name 7 q_first_places.nd (ags_nil ?_)))))⟩))))))))
    have esucc : (plL (PlS S) t).map Val.int ++ [Val.int (PlS S t)] = (plL (PlS S) (t + 1)).map Val.int := by rw [plL_succ, List.map_append]; rfl
    show aSs _ _ _ ((q, .lst ((smL (item S.lv) m).map .int)) :: (fq, .lst ((plL (PlS S) t).map Val.int ++ [Val.int (PlS S t)])) :: M) _
    rw [esucc]
    have hsm : ∀ {m : Nat}, (smL (item S.lv) m).length = m := fun {m} => by rw [List.length_map, List.length_range]
    have hat : ∀ {m j : Nat}, j < m → at0 (smL (item S.lv) m) (j : Int) = smN (item S.lv) (j + 1) := fun {m j} hj => by
      show ((List.range m).map fun j => smN (item S.lv) (j + 1)).getD j 0 = _
      rw [List.getD_eq_getElem?_getD, List.getElem?_map, List.getElem?_range hj]
      rfl
    refine as_cons (as_whileL (fun b Γ M' => ∃ m : Nat, b = 64 - m ∧ 1 ≤ m ∧ m ≤ 64 ∧ M' = (q, .lst ((smL (item S.lv) m).map .int)) :: (fq, .lst ((plL (PlS S) (t + 1)).map .int)) :: M ∧ Γ = [some (scV C S), some (.int (c : Int)), some (.ptr fq), some (.int (PlS S t)), some (.ptr q), some (.int ((t + 1 : Nat) : Int)), some (.int (vE S.a.toNat (t + 1) : Nat)), some (.int (vR S.a.toNat (t + 1) : Nat))]) (64 - m) PassesOwn.never ⟨_, ⟨m, rfl, m1, m64, rfl, rfl⟩, (by repeat' first | exact le_nil | refine le_skip ?_ | refine le_keep rfl ?_)⟩ ?_)
    rintro b Γ M' ⟨m, rfl, m1, m64, rfl, rfl⟩
    have sv : Sv ((q, .lst ((smL (item S.lv) m).map .int)) :: (fq, .lst ((plL (PlS S) (t + 1)).map .int)) :: M) (.ptr q) (smL (item S.lv) m) := .c 0 rfl
    refine ⟨_, tp_cmp (av_lenSv B.len (v_ 4) sv) (v_ 6) cp_le, fun hc => ?_, fun hc => ?_⟩
    · rw [hsm] at hc
      have hc : (m : Int) ≤ (vE S.a.toNat (t + 1) : Nat) := hc
      obtain ⟨m, rfl⟩ : ∃ m', m = m' + 1 := ⟨m - 1, by omega⟩
      refine as_one (as_expr (ae_append (n0 := 0) (v_ 4) rfl ((av_add (av_ixL (v_ 4) (av_neg i_) (.lst 0 rfl) smL_last) (av_la T Q hr (by decide) (v_ 0) (av_lenSvN B.len (v_ 4) sv hsm) hS (i := ((m + 1 : Nat) : Int)) (by omega))).val ⟨0, _, rfl, szl (by rw [List.length_map, hsm]; omega), ?_⟩)))
      have esm : (smL (item S.lv) (m + 1)).map Val.int ++ [Val.int (smN (item S.lv) (m + 1) + item S.lv ((m + 1 : Nat) : Int).toNat)] = (smL (item S.lv) (m + 1 + 1)).map Val.int := by
        show _ = ((List.range (m + 1 + 1)).map fun j => smN (item S.lv) (j + 1)).map Val.int
        rw [List.range_succ, List.map_append, List.map_append]
        rfl
      exact ⟨_, ⟨64 - (m + 1 + 1), by omega, m + 1 + 1, rfl, by omega, by omega, by rw [← esm]; rfl, rfl⟩, (by repeat' first | exact le_nil | refine le_skip ?_ | refine le_keep rfl ?_)⟩
    · rw [hsm] at hc
      have hc : ¬ (m : Int) ≤ (vE S.a.toNat (t + 1) : Nat) := hc
      have hem : vE S.a.toNat (t + 1) < m := by omega
      refine as_one (as_augI 3 q_first_places.nd ip_add rfl (aE.val (d := .int (smN (item S.lv) (vE S.a.toNat (t + 1) + 1) + if vR S.a.toNat (t + 1) = 1 then item S.sp (vE S.a.toNat (t + 1) + 1) else 0)) ?_ ⟨_, rfl, ?_⟩))
      · rw [← hat hem]
        refine av_add (av_ixSv (v_ 4) (v_ 6) sv (by omega) (by rw [hsm]; omega)) ?_
        by_cases z : vR S.a.toNat (t + 1) = 1
        · rw [if_pos z]
          exact ae_ifp (tp_cmp (v_ 7) i_ cp_eq) (fun _ => (av_sa T Q hr (by decide) (v_ 0) (av_add (v_ 6) i_) hS (by omega)).val ⟨by rw [show ((vE S.a.toNat (t + 1) : Nat) : Int) + 1 = ((vE S.a.toNat (t + 1) + 1 : Nat) : Int) by omega]; rfl, rfl⟩) (fun c => absurd (show ((vR S.a.toNat (t + 1) : Nat) : Int) = 1 by omega) c)
        · rw [if_neg z]
          exact ae_ifp (tp_cmp (v_ 7) i_ cp_eq) (fun c => absurd (show ((vR S.a.toNat (t + 1) : Nat) : Int) = 1 from c) (by omega)) (fun _ => i_.val ⟨rfl, rfl⟩)
      · have hf : PlS S (t + 1) = PlS S t + (smN (item S.lv) (vE S.a.toNat (t + 1) + 1) + if vR S.a.toNat (t + 1) = 1 then item S.sp (vE S.a.toNat (t + 1) + 1) else 0) := by rw [← Int.add_assoc]; exact hf
        rw [← hf]
        exact ⟨_, ⟨m, m1, m64, rfl, rfl⟩, (by repeat' first | exact le_nil | refine le_skip ?_ | refine le_keep rfl ?_)⟩
  · rintro Γ M' ⟨m, m1, m64, rfl, rfl⟩
    refine as_one (as_ret ((av_tupSv B.tuple (v_ 2) (.c 1 rfl)).val (.drop (.drop (.ok hp)))))
abbrev GFpl (P : Program) (w : World) (K : PySem.W.Frag) (mg : Str → Option Value) (base : Heap) (C : Addr) : Prop := Gd P w K mg base 4 "first_places" [] fun ds _ => aFpl C ds
/-! ### places_in, rest_of, bounds_of -/
theorem Sv.up {d : Val} {ns : List Int} {M : Mem} (h : Sv [] d ns) : Sv M d ns := by
  cases h with
  | t => exact .t
  | l => exact .l
  | c n h => simp at h
theorem cut_m1 (xs : List Val) : cutA xs none (some (-1)) = xs.dropLast := by
  unfold cutA
  rw [HT.sIx_none, List.drop_zero, Nat.sub_zero, List.dropLast_eq_take]
  congr 1
  unfold HT.sIx
  simp
  omega
theorem cut_1 (xs : List Val) : cutA xs (some 1) none = xs.drop 1 := by
  unfold cutA
  have e : HT.sIx xs.length 0 (some 1) = min 1 xs.length := HT.sIx_nat ..
  rw [e, HT.sIx_none]
  by_cases h : 1 ≤ xs.length
  · rw [Nat.min_eq_left h, List.take_of_length_le (by rw [List.length_drop]; omega)]
  · rw [Nat.min_eq_right (by omega), List.drop_of_length_le (Nat.le_refl _), List.drop_of_length_le (by omega), List.take_nil]
def aPin6 : ASp := fun ds M R => ∃ (d : Val) (vs : List Int), ds = [d] ∧ Sv [] d vs ∧ 1 ≤ vs.length ∧ vs.length ≤ 1000 ∧ R (.tup ((pIn vs).map .int)) M
theorem bef_at {vs : List Int} {i : Nat} (hi : i < vs.length) : atI ((0 :: vs.dropLast).map Val.int) (i : Int) = some (.int ((0 :: vs).getD i 0)) := by
  have hl : (0 :: vs.dropLast).length = vs.length := by rw [List.length_cons, List.length_dropLast]; omega
  rw [atI_int (by omega) (by rw [hl]; omega)]
  congr 2
  show (0 :: vs.dropLast).getD i 0 = _
  cases i with
  | zero => rfl
  | succ i =>
    rw [List.getD_cons_succ, List.getD_cons_succ, List.getD_eq_getElem?_getD, List.getD_eq_getElem?_getD, List.dropLast_eq_take, List.getElem?_take_of_lt (by omega)]
theorem b_places_in (B : Bt mg) : BodyOk P w K mg base k f n_places_in "places_in" (defScope s_places_in) (defBody s_places_in) aPin6 := by
  rintro cdv A outer s0 H E hr ds M R ⟨d, vs, rfl, hd, l1, l2, hp⟩
  refine as_cons (as_setv (d := .lst ((0 :: vs.dropLast).map .int)) 1 q_places_in.nd (av_catL (av_lst (avs_cons i_ avs_nil) szb) (d2 := .lst (vs.dropLast.map .int)) ?_ (.self _) (.self _) (sz (by rw [List.length_map, List.length_dropLast]; show 1 + (vs.length - 1) ≤ _; omega))) ?_)
  · cases hd with
    | t =>
      refine av_list B.list (av_sliceT (v_ 0) ao_none (ao_some (av_neg i_))) ?_
      rw [cut_m1, ← List.map_dropLast]
      exact .t
    | l =>
      refine av_list B.list (av_sliceL (v_ 0) ao_none (ao_some (av_neg i_)) (.self _)) ?_
      rw [cut_m1, ← List.map_dropLast]
      exact .l (.self _)
    | c n h => simp at h
  have hi : ∀ {X : Cx} {Γ : Gam} {M : Mem} {elts : List Expr} {kk : Nat} {tpos pos p1 : Pos} {a : Expr}, X.mg "enumerate" = none → aV X a Γ M d → Gl X "enumerate" → starEach [a] X.env = [(false, eval a X.env)] → aI X (.Tuple elts kk tpos) (.Call (.Name "enumerate" p1) [a] [] pos) Γ M (vs.map Val.int).length (fun i => .tup [.int i, (vs.map Val.int).getD i .non]) (fun _ => True) (fun M' => M' = M) := fun h1 h2 h3 h4 => by
    cases hd with
    | t => exact ai_enumT h1 h2 h3 h4
    | l => exact ai_enumL h1 h2 h3 h4
    | c n h => simp at h
  refine as_one (as_ret (ae_tuple B.tuple (ae_lcF [("label", 2), ("value", 3)] (fun (i : Nat) => .int (i : Int)) (fun i => decide ((0 :: vs).getD i 0 < vs.getD i 0)) rfl q_places_in.nd (blkOk_by (N := n_places_in) (sc := defScope s_places_in) (by decide +kernel)) (hi B.enumerate (v_ 0) rfl rfl) ?_ (by rw [List.length_map]; omega) ⟨_, .l (.self _), .ok ?_⟩)))
  · intro i acc D hi' s1 H1 C1 cl fp
    have hi' : i < vs.length := by rw [List.length_map] at hi'; exact hi'
    rw [gdI hi']
    refine agw_tup rfl (agws_cons (agw_name 2 q_places_in.nd (agws_cons (agw_name 3 q_places_in.nd (agws_nil fun s1 H1 C1 cl fp => ?_)))))
    exact ⟨at_cmp (v_ 3) (av_ixL (v_ 1) (v_ 2) (.self _) (bef_at hi')) cmp_gt ⟨rfl, rfl⟩, fun _ => (v_ 2).val ⟨rfl, rfl⟩⟩
  · rw [List.length_map]
    have : ((List.range vs.length).filter fun i => decide ((0 :: vs).getD i 0 < vs.getD i 0)).map (fun (i : Nat) => Val.int (i : Int)) = (pIn vs).map .int := by
      unfold pIn
      rw [List.map_map]
      rfl
    rw [this]
    exact hp
abbrev GPin6 (P : Program) (w : World) (K : PySem.W.Frag) (mg : Str → Option Value) (base : Heap) : Prop := Gd P w K mg base 1 "places_in" [] fun ds _ => aPin6 ds
def rOf (vs ps : List Int) : Int := (vs.length : Int) - (if ps = [] then 0 else ps.getD (ps.length - 1) 0)
def aRof : ASp := fun ds M R => ∃ (d : Val) (vs ps : List Int), ds = [d, .tup (ps.map .int)] ∧ Sv M d vs ∧ R (.int (rOf vs ps)) M
theorem b_rest_of (B : Bt mg) : BodyOk P w K mg base k f n_rest_of "rest_of" (defScope s_rest_of) (defBody s_rest_of) aRof := by
  rintro cdv A outer s0 H E hr ds M R ⟨d, vs, ps, rfl, hd, hp⟩
  have hu := hr.u64
  refine as_one (as_retv (av_sub (av_lenSv B.len (v_ 0) hd) (j := if ps = [] then 0 else ps.getD (ps.length - 1) 0) ?_) (.ok hp))
  by_cases z : ps = []
  · rw [if_pos z]
    subst z
    exact ae_ifp (tp_cmp (v_ 1) (av_tup avs_nil szb) (cp_neT (ns := []) (ms := []) hu)) (fun c => absurd rfl c) (fun _ => i_.val ⟨rfl, rfl⟩)
  · rw [if_neg z]
    exact ae_ifp (tp_cmp (v_ 1) (av_tup avs_nil szb) (cp_neT (ns := ps) (ms := []) hu)) (fun _ => (av_ixT (v_ 1) (av_neg i_) (atI_last z)).val ⟨rfl, rfl⟩) (fun c => absurd (fun e => z e) c)
abbrev GRof (P : Program) (w : World) (K : PySem.W.Frag) (mg : Str → Option Value) (base : Heap) : Prop := Gd P w K mg base 1 "rest_of" [] fun ds _ => aRof ds
def aBof : ASp := fun ds M R => ∃ (ps : List Int) (r : Int), ds = [.tup (ps.map .int), .int r] ∧ ps.length ≤ 2000 ∧ R (.lst ((bndL ps r).map .int)) M
theorem b_bounds_of (B : Bt mg) (mz : mg "zip" = none) : BodyOk P w K mg base k f n_bounds_of "bounds_of" (defScope s_bounds_of) (defBody s_bounds_of) aBof := by
  rintro cdv A outer s0 H E hr ds M R ⟨ps, r, rfl, hl, hp⟩
  have hu := hr.u64
  have hlen : min (ps.map Val.int).length ((ps.map Val.int).drop 1).length ≤ 2000 := by rw [List.length_map]; omega
  refine as_lcP 2 [("earlier", 3), ("later", 4)] (fun (i : Nat) => .int (ps.getD (i + 1) 0 - ps.getD i 0)) rfl q_bounds_of.nd (blkOk_by (N := n_bounds_of) (sc := defScope s_bounds_of) (by decide +kernel)) (ai_zipT mz (xs := ps.map .int) (ys := (ps.map .int).drop 1) (aA.val (avs_cons (v_ 0) (avs_cons (by rw [← cut_1]; exact av_sliceT (v_ 0) (ao_some i_) ao_none) avs_nil)) ⟨rfl, rfl⟩)) ?_ (by omega) ?_
  · intro i acc D hi' s1 H1 C1 cl fp
    have hi' : i + 1 < ps.length := by
      rw [List.length_drop, List.length_map] at hi'
      omega
    rw [gdI (by omega), show ((ps.map Val.int).drop 1).getD i .non = .int (ps.getD (i + 1) 0) by rw [← gdI hi', List.getD_eq_getElem?_getD, List.getElem?_drop, Nat.add_comm 1 i, ← List.getD_eq_getElem?_getD]]
    refine agw_tup rfl (agws_cons (agw_name 3 q_bounds_of.nd (agws_cons (agw_name 4 q_bounds_of.nd (agws_nil fun s1 H1 C1 cl fp => ?_)))))
    exact (av_sub (v_ 4) (v_ 3)).val ⟨rfl, rfl⟩
  have ez : (List.range (min (ps.map Val.int).length ((ps.map Val.int).drop 1).length)).map (fun (i : Nat) => Val.int (ps.getD (i + 1) 0 - ps.getD i 0)) = (List.zipWith (fun x y => y - x) ps (ps.drop 1)).map .int := by
    apply List.ext_getElem?
    intro i
    rw [List.getElem?_map, List.getElem?_map, List.getElem?_zipWith, List.length_drop, List.length_map, List.getElem?_drop, Nat.add_comm 1 i]
    by_cases h : i + 1 < ps.length
    · rw [List.getElem?_range (by omega), List.getElem?_eq_getElem (show i < ps.length by omega), List.getElem?_eq_getElem h]
      show some (Val.int (ps.getD (i + 1) 0 - ps.getD i 0)) = _
      rw [List.getD_eq_getElem?_getD, List.getD_eq_getElem?_getD, List.getElem?_eq_getElem (show i < ps.length by omega), List.getElem?_eq_getElem h]
      rfl
    · rw [List.getElem?_eq_none (by rw [List.length_range]; omega), List.getElem?_eq_none (show ps.length ≤ i + 1 by omega)]
      cases ps[i]? <;> rfl
  rw [ez]
  by_cases z : ps = []
  · have eb : bndL ps r = [] := by unfold bndL; rw [if_pos z]
    rw [eb] at hp
    subst z
    exact as_one (as_ret (ae_ifp (tp_cmp (v_ 0) (av_tup avs_nil szb) (cp_neT (ns := []) (ms := []) hu)) (fun c => absurd rfl c) (fun _ => (av_lst avs_nil szb).val (.ok hp))))
  · have eb : bndL ps r = List.zipWith (fun x y => y - x) ps (ps.drop 1) ++ [r] := by unfold bndL; rw [if_neg z]
    rw [eb, List.map_append] at hp
    exact as_one (as_ret (ae_ifp (tp_cmp (v_ 0) (av_tup avs_nil szb) (cp_neT (ns := ps) (ms := []) hu)) (fun _ => (av_catL (v_ 2) (av_lst (avs_cons (v_ 1) avs_nil) szb) (.self _) (.self _) (sz (by rw [List.length_map, List.length_zipWith]; show _ + 1 ≤ _; omega))).val (.ok hp)) (fun c => absurd (fun e => z e) c)))
abbrev GBof (P : Program) (w : World) (K : PySem.W.Frag) (mg : Str → Option Value) (base : Heap) : Prop := Gd P w K mg base 1 "bounds_of" [] fun ds _ => aBof ds
/-! ### plain_numbers, each_conflict -/
def plV (t : Pln) : Val := .tup [.int (t.1 : Nat), .int (t.2.1 : Nat), .int t.2.2]
def aPln : ASp := fun ds M R => ∃ (bs : List Int) (kn : Nat), ds = [.lst (bs.map .int), .int (kn : Int)] ∧ 2 ≤ kn ∧ kn ≤ 9 ∧ bs.length ≤ 2000 ∧ R (.lst ((plnL kn bs bs.length).map plV)) M
theorem b_plain_numbers (B : Bt mg) (GS : GSpn P w K mg base) : BodyOk P w K mg base 2 f n_plain_numbers "plain_numbers" (defScope s_plain_numbers) (defBody s_plain_numbers) aPln := by
  rintro cdv A outer s0 H E hr ds M R ⟨bs, kn, rfl, k2, k9, hl, hp⟩
  refine as_cons (as_set 2 q_plain_numbers.nd (ae_lstC (aa_nil ⟨szb, fun q => ?_⟩)))
  refine as_cons (as_forL PassesOwn.never rfl (aj_ai (ai_enumL B.enumerate ((v_ 0).val ⟨rfl, rfl⟩)) fun M1 e => ?_))
  subst e
  rw [List.length_map]
  refine ⟨fun t Γ M' => M' = (q, .lst ((plnL kn bs t).map plV)) :: M ∧ Γ = [some (.lst (bs.map .int)), some (.int (kn : Int)), some (.ptr q), none, none, none, none], ⟨_, ⟨rfl, rfl⟩, (by repeat' first | exact le_nil | refine le_skip ?_ | refine le_keep rfl ?_)⟩, ?_, ?_⟩
  · rintro t Γ M' ht ⟨rfl, rfl⟩
    dsimp only
    rw [gdI ht]
    refine ag_tup rfl (ags_cons (ag_name 3 q_plain_numbers.nd (ags_cons (ag_name 4 q_plain_numbers.nd (ags_nil ?_)))))
    refine as_cons (as_asg (ae_g GS hr (by decide) (aa_cons ((av_add (v_ 3) i_).val (aa_cons ((v_ 1).val (aa_nil (ak_nil ⟨rfl, t + 1, kn, rfl, by omega, k2, k9, ag_tup rfl (ags_cons (ag_name 5 q_plain_numbers.nd (ags_cons (ag_name 6 q_plain_numbers.nd (ags_nil ?_)))))⟩))))))))
    refine as_one (as_ifp (tp_cmp (v_ 6) i_ cp_ne) (fun c => ?_) (fun c => as_nil ?_))
    · have c : vR kn (t + 1) ≠ 1 := fun z => c (by show ((vR kn (t + 1) : Nat) : Int) = 1; omega)
      have := plnL_le (k := kn) (bs := bs) t
      refine as_one (as_expr (ae_append (n0 := 0) (v_ 2) rfl ((av_tup (avs_cons (v_ 5) (avs_cons (av_add (v_ 3) i_) (avs_cons (v_ 4) avs_nil))) szb).val ⟨0, _, rfl, szl (by rw [List.length_map]; omega), ?_⟩)))
      refine ⟨_, ⟨?_, rfl⟩, (by repeat' first | exact le_nil | refine le_skip ?_ | refine le_keep rfl ?_)⟩
      show _ = (q, Cell.lst ((plnL kn bs t ++ (if vR kn (t + 1) ≠ 1 then [(vE kn (t + 1), t + 1, bs.getD t 0)] else [])).map plV)) :: M
      rw [if_pos c, List.map_append]
      rfl
    · have c : ¬ vR kn (t + 1) ≠ 1 := fun z => c fun y => z (by have y : ((vR kn (t + 1) : Nat) : Int) = 1 := y; omega)
      refine ⟨_, ⟨?_, rfl⟩, (by repeat' first | exact le_nil | refine le_skip ?_ | refine le_keep rfl ?_)⟩
      show _ = (q, Cell.lst ((plnL kn bs t ++ (if vR kn (t + 1) ≠ 1 then [(vE kn (t + 1), t + 1, bs.getD t 0)] else [])).map plV)) :: M
      rw [if_neg c, List.append_nil]
  · rintro Γ M' ⟨rfl, rfl⟩
    exact as_one (as_retv (v_ 2) (.frz (.ok hp)))
abbrev GPln (P : Program) (w : World) (K : PySem.W.Frag) (mg : Str → Option Value) (base : Heap) : Prop := Gd P w K mg base 3 "plain_numbers" [] fun ds _ => aPln ds
theorem fmax (L : List Int) : ∀ a, a ≤ L.foldl max a ∧ (∀ y ∈ L, y ≤ L.foldl max a) ∧ (L.foldl max a = a ∨ L.foldl max a ∈ L) := by
  induction L with
  | nil => exact fun a => ⟨Int.le_refl a, fun y h => (List.not_mem_nil h).elim, .inl rfl⟩
  | cons x L ih =>
    intro a
    obtain ⟨h1, h2, h3⟩ := ih (max a x)
    refine ⟨by show a ≤ L.foldl max (max a x); omega, fun y hy => ?_, ?_⟩
    · rcases List.mem_cons.mp hy with rfl | hy
      · show y ≤ L.foldl max (max a y)
        omega
      · exact h2 y hy
    · show L.foldl max (max a x) = a ∨ L.foldl max (max a x) ∈ x :: L
      rcases h3 with h3 | h3
      · rcases Int.le_total a x with z | z
        · exact .inr (by rw [h3, Int.max_eq_right z]; exact List.mem_cons_self)
        · exact .inl (by rw [h3, Int.max_eq_left z])
      · exact .inr (List.mem_cons_of_mem _ h3)
/-- the greatest bound of the plain numbers up to an exponent -/
def topN (pl : List Pln) (h : Nat) : Int := ((pl.filter fun t => decide (t.1 ≤ h)).map (·.2.2)).foldl max 0
theorem topN_ge {pl : List Pln} {h : Nat} {t : Pln} (ht : t ∈ pl) (e : t.1 ≤ h) : t.2.2 ≤ topN pl h := (fmax _ 0).2.1 _ (List.mem_map.mpr ⟨t, List.mem_filter.mpr ⟨ht, decide_eq_true e⟩, rfl⟩)
theorem topN_is {pl : List Pln} {h : Nat} {m : Int} (h1 : m ∈ 0 :: (pl.filter fun t => decide (t.1 ≤ h)).map (·.2.2)) (h2 : ∀ y, y ∈ 0 :: (pl.filter fun t => decide (t.1 ≤ h)).map (·.2.2) → y ≤ m) : m = topN pl h := by
  obtain ⟨a, b, c⟩ := fmax ((pl.filter fun t => decide (t.1 ≤ h)).map (·.2.2)) 0
  have u : topN pl h ≤ m := by
    rcases c with c | c
    · show List.foldl max 0 _ ≤ m
      rw [c]
      exact h2 0 List.mem_cons_self
    · exact h2 _ (List.mem_cons_of_mem _ c)
  rcases List.mem_cons.mp h1 with e | e
  · have : 0 ≤ topN pl h := a
    omega
  · have : m ≤ topN pl h := b m e
    omega
theorem rng_getD {α : Type} (L : List α) (d : α) : (List.range L.length).map (fun i => L.getD i d) = L := by
  apply List.ext_getElem?
  intro i
  rw [List.getElem?_map]
  by_cases h : i < L.length
  · rw [List.getElem?_range h, List.getElem?_eq_getElem h]
    show some (L.getD i d) = _
    rw [List.getD_eq_getElem?_getD, List.getElem?_eq_getElem h]
    rfl
  · rw [List.getElem?_eq_none (by rw [List.length_range]; omega), List.getElem?_eq_none (by omega)]
    rfl
theorem flt_getD {α β : Type} (L : List α) (d : α) (q : α → Bool) (g : α → β) : ((List.range L.length).filter fun i => q (L.getD i d)).map (fun i => g (L.getD i d)) = (L.filter q).map g := by
  conv => rhs; rw [← rng_getD L d, List.filter_map, List.map_map]
  rfl
def tCf : List (Nat × Nat) → Mem → Hnd (List (Nat × Nat)) → Prop
  | [], M, R => R none M
  | a :: r, M, R => R (some (.tup [.int (a.1 : Nat), .int (a.2 : Nat)], r)) M
def sCf : List Val → List (Nat × Nat) → Prop := fun ds x => ∃ (bs : List Int) (kn : Nat), ds = [.lst (bs.map .int), .int (kn : Int)] ∧ 2 ≤ kn ∧ kn ≤ 9 ∧ bs.length ≤ 2000 ∧ x = cfL kn bs
theorem b_each_conflict (B : Bt mg) (L : Lm6 mg) (GS : GSpn P w K mg base) (GP : GPln P w K mg base) : GBody P w K mg base 4 f n_each_conflict "each_conflict" (defScope s_each_conflict) (defBody s_each_conflict) tCf sCf := by
  rintro cdv A outer B0 gp Th hr ds x n0 M R ⟨bs, kn, rfl, k2, k9, hl, rfl⟩ hn0 h0
  have hpm : ∀ {j : Nat}, j < (plnL kn bs bs.length).length → ((plnL kn bs bs.length).map plV).getD j .non = plV ((plnL kn bs bs.length).getD j (0, 0, 0)) := fun {j} hj => by
    rw [List.getD_eq_getElem?_getD, List.getElem?_map, List.getElem?_eq_getElem hj, List.getD_eq_getElem?_getD, List.getElem?_eq_getElem hj]
    rfl
  have hple := plnL_le (k := kn) (bs := bs) bs.length
  unfold cfL at h0
  generalize hpl : plnL kn bs bs.length = ppl at *
  refine gs_cons (g_plain fun H s pn => as_set 2 q_each_conflict.nd (ae_g GP hr (by decide) (aa_cons ((v_ 0).val (aa_cons ((v_ 1).val (aa_nil (ak_nil ⟨rfl, bs, kn, rfl, k2, k9, hl, ?_⟩))))))))
  rw [hpl]
  refine gs_lcP 3 [("triple", 4), ("height", 5)] (fun h : Nat => .int (topN ppl h)) (fun _ _ _ => rfl) q_each_conflict.nd (blkOk_by (N := n_each_conflict) (sc := defScope s_each_conflict) (by decide +kernel)) (fun H s pn => ai_range1 (n := 12) B.range ((av_gi L.ITEM_COUNT).val ⟨_, rfl, rfl, by decide, by decide, rfl⟩)) ?_ (by decide) ?_
  · intro H0 s0 pn0 i acc D hi s1 H1 C1 cl fp
    rw [Int.zero_add]
    refine agw_name 5 q_each_conflict.nd fun s1 H1 C1 cl fp => ?_
    refine ae_subP (ae_maxL B.max rfl (ae_bin ((av_lst (avs_cons i_ avs_nil) szb).val (ae_lcF [("triple", 4)] (fun j => .int (ppl.getD j (0, 0, 0)).2.2) (fun j => decide ((ppl.getD j (0, 0, 0)).1 ≤ i)) rfl q_each_conflict.nd (blkOk_by (by kernel_rfl)) (ai_lst (xs := ppl.map plV) ((v_ 2).val ⟨rfl, rfl⟩)) ?_ (by rw [List.length_map]; omega) ?_))))
    · intro j acc2 D2 hj s2 H2 C2 cl2 fp2
      have hj : j < ppl.length := by rw [List.length_map] at hj; exact hj
      rw [hpm hj]
      refine agw_name 4 q_each_conflict.nd fun s1 H1 C1 cl fp => ?_
      exact ⟨at_cmp (av_ixT (v_ 4) i_ rfl) (v_ 5) cmp_le ⟨by simp, rfl⟩, fun _ => (av_ixT (v_ 4) i_ rfl).val ⟨rfl, rfl⟩⟩
    · rw [List.length_map, flt_getD ppl (0, 0, 0) (fun t => decide (t.1 ≤ i)) (fun t => Val.int t.2.2)]
      have e : (ppl.filter fun t => decide (t.1 ≤ i)).map (fun t => Val.int t.2.2) = ((ppl.filter fun t => decide (t.1 ≤ i)).map (·.2.2)).map .int := by rw [List.map_map]; rfl
      have hle : (ppl.filter fun t => decide (t.1 ≤ i)).length ≤ ppl.length := List.length_filter_le ..
      rw [e]
      refine bv_catL (.self _) (.self _) (sz (by rw [List.length_map, List.length_map]; show 1 + _ ≤ _; omega)) fun p => ⟨0 :: (ppl.filter fun t => decide (t.1 ≤ i)).map (·.2.2), .lst 0 rfl, Nat.zero_lt_succ _, fun m h1 h2 => ?_⟩
      rw [topN_is h1 h2]
      exact ⟨_, List.sublist_cons_self _ _, rfl, rfl⟩
  have et : (List.range 12).map (fun h => Val.int (topN ppl h)) = ((List.range 12).map (topN ppl)).map .int := by rw [List.map_map]; rfl
  rw [et]
  have hbs : ∀ {j : Nat}, at0 bs (j : Int) = bs.getD j 0 := fun {j} => rfl
  have htp : ∀ {j : Nat}, j < 12 → at0 ((List.range 12).map (topN ppl)) (j : Int) = topN ppl j := fun {j} hj => by
    show ((List.range 12).map (topN ppl)).getD j 0 = _
    rw [List.getD_eq_getElem?_getD, List.getElem?_map, List.getElem?_range hj]
    rfl
  refine gs_one (g_forW (fun H s pn => aj_range2 B.range (aA.val (avs_cons i_ (avs_cons (av_lenSv B.len (v_ 0) .l) avs_nil)) ⟨_, _, rfl, ⟨by decide, by decide, by omega, by omega⟩, ?_⟩)))
  rw [show ((bs.length : Int) - 1).toNat = bs.length - 1 by omega]
  refine ⟨fun t n' R' Γ' M' => 0 < n' ∧ tCf (cfF kn bs ppl (bs.length - 1 - t) t) M' R' ∧ Γ' = [some (.lst (bs.map .int)), some (.int (kn : Int)), some (.lst (ppl.map plV)), some (.lst (((List.range 12).map (topN ppl)).map .int)), none, none, none, none, none, none], ⟨_, ⟨hn0, h0, rfl⟩, (by repeat' first | exact le_nil | refine le_skip ?_ | refine le_keep rfl ?_)⟩, ?_, ?_⟩
  · rintro t n' R' Γ' M' ht ⟨hn', h1, rfl⟩ H s pn
    have he : vE kn (t + 1) < 12 := vE_lt k2 (by omega) (by omega)
    rw [show bs.length - 1 - t = (bs.length - 1 - (t + 1)) + 1 by omega] at h1
    have h1 : tCf (cfI kn bs (t + 1) ppl ++ cfF kn bs ppl (bs.length - 1 - (t + 1)) (t + 1)) M' R' := h1
    dsimp only
    rw [show (1 : Int) + (t : Int) = ((t + 1 : Nat) : Int) by omega]
    refine ag_name 6 q_each_conflict.nd ?_
    refine gs_cons (g_plain fun H s pn => as_set 5 q_each_conflict.nd (ae_ixM (ae_g GS hr (by decide) (aa_cons ((v_ 6).val (aa_cons ((v_ 1).val (aa_nil (ak_nil ⟨rfl, t + 1, kn, rfl, by omega, k2, k9, i_.val ⟨_, _, _, rfl, .t, rfl, ?_⟩⟩)))))))))
    refine gs_one (g_if (fun H s pn => tp_cmp (av_ixSv (i := (t : Int)) (v_ 0) ((av_sub (v_ 6) i_).val ⟨by rw [show ((t + 1 : Nat) : Int) - 1 = (t : Int) by omega], rfl⟩) .l (by omega) (by omega)) (av_ixSv (v_ 3) (v_ 5) .l (by omega) (by rw [List.length_map, List.length_range]; omega)) cp_lt) (fun hlt => ?_) (fun hge => ?_))
    · refine gs_one (g_forW (fun H s pn => aj_ai (ai_lst (xs := ppl.map plV) ((v_ 2).val ⟨rfl, rfl⟩)) fun M1 e => ?_))
      subst e
      rw [List.length_map]
      refine ⟨fun j n' R' Γ' M' => 0 < n' ∧ tCf (cfI kn bs (t + 1) (ppl.drop j) ++ cfF kn bs ppl (bs.length - 1 - (t + 1)) (t + 1)) M' R' ∧ Γ' = [some (.lst (bs.map .int)), some (.int (kn : Int)), some (.lst (ppl.map plV)), some (.lst (((List.range 12).map (topN ppl)).map .int)), none, some (.int (vE kn (t + 1) : Nat)), some (.int ((t + 1 : Nat) : Int)), none, none, none], ⟨_, ⟨hn', h1, rfl⟩, (by repeat' first | exact le_nil | refine le_skip ?_ | refine le_keep rfl ?_)⟩, ?_, ?_⟩
      · rintro j n2 R2 Γ2 M2 hj ⟨hn2, h2, rfl⟩ H s pn
        dsimp only
        rw [hpm hj]
        have ed : ppl.drop j = ppl.getD j (0, 0, 0) :: ppl.drop (j + 1) := by
          rw [List.drop_eq_getElem_cons hj, List.getD_eq_getElem?_getD, List.getElem?_eq_getElem hj]
          rfl
        rw [ed, cfI_cons] at h2
        generalize ppl.getD j (0, 0, 0) = tr at *
        refine ag_tup rfl (ags_cons (ag_name 7 q_each_conflict.nd (ags_cons (ag_name 8 q_each_conflict.nd (ags_cons (ag_name 9 q_each_conflict.nd (ags_nil ?_)))))))
        refine gs_one (g_if (fun H s pn => tp_w (wp_and (tp_cmp (v_ 7) (v_ 5) cp_le) fun _ => wp_and1 (tp_cmp (av_ixSv (i := (t : Int)) (v_ 0) ((av_sub (v_ 6) i_).val ⟨by rw [show ((t + 1 : Nat) : Int) - 1 = (t : Int) by omega], rfl⟩) .l (by omega) (by omega)) (v_ 9) cp_lt))) (fun hc => ?_) (fun hc => ?_))
        · obtain ⟨c1, c2⟩ := hc
          have c1 : (tr.1 : Int) ≤ (vE kn (t + 1) : Nat) := c1
          rw [if_pos ⟨by omega, c2⟩] at h2
          exact gs_one (g_yield hn2 fun H s pn => (av_tup (avs_cons (v_ 6) (avs_cons (v_ 8) avs_nil)) szb).val (.ok ⟨_, h2, fun M3 R3 hn3 h3 => ⟨_, ⟨hn3, h3, rfl⟩, (by repeat' first | exact le_nil | refine le_skip ?_ | refine le_keep rfl ?_)⟩⟩))
        · rw [if_neg fun z => hc ⟨show (tr.1 : Int) ≤ (vE kn (t + 1) : Nat) by omega, z.2⟩] at h2
          exact gs_nil ⟨_, ⟨hn2, h2, rfl⟩, (by repeat' first | exact le_nil | refine le_skip ?_ | refine le_keep rfl ?_)⟩
      · rintro n2 R2 Γ2 M2 ⟨hn2, h2, rfl⟩
        rw [List.drop_length] at h2
        exact ⟨_, ⟨hn2, h2, rfl⟩, (by repeat' first | exact le_nil | refine le_skip ?_ | refine le_keep rfl ?_)⟩
    · rw [htp he, hbs] at hge
      have hge : ¬ bs.getD t 0 < topN ppl (vE kn (t + 1)) := hge
      have ec : cfI kn bs (t + 1) ppl = [] := cfI_none fun tr htr hle => by
        have := topN_ge htr hle
        show tr.2.2 ≤ bs.getD t 0
        omega
      rw [ec] at h1
      exact gs_nil ⟨_, ⟨hn', h1, rfl⟩, (by repeat' first | exact le_nil | refine le_skip ?_ | refine le_keep rfl ?_)⟩
  · rintro n' R' Γ' M' ⟨hn', h1, rfl⟩
    rw [Nat.sub_self] at h1
    exact .ok h1
abbrev GEcf (P : Program) (w : World) (K : PySem.W.Frag) (mg : Str → Option Value) (base : Heap) : Prop := GdN P w K mg base 5 "each_conflict" [] tCf fun ds es x => ds.length = 2 ∧ sCf (ds ++ es) x
end
end K43
namespace K43
open PySem L2 Ab GenW Sm
/-! ### fits -/
structure FtX (K : PySem.W.Frag) (X : Addr) : Prop where
  cl : Cls K X
  n0 : NoAttr K X "own_places"
  n1 : NoAttr K X "own_arity"
  n2 : NoAttr K X "own_rest"
  n3 : NoAttr K X "own_bounds"
def ftF (ps : List Int) (kn : Nat) (r : Int) : List (Str × Val) := [("own_places", .tup (ps.map .int)), ("own_arity", .int (kn : Int)), ("own_rest", .int r), ("own_bounds", .lst ((bndL ps r).map .int))]
def ftV (X : Addr) (ps : List Int) (kn : Nat) (r : Int) : Val := .obj X (ftF ps kn r)
section
variable {P : Program} {w : World} {K : PySem.W.Frag} {mg : Str → Option Value} {base : Heap} {k : Nat} {f C CP CV X0 : Addr}
theorem svC {d : Val} {ns : List Int} {M : Mem} {c : Addr × Cell} (h : Sv M d ns) : Sv (c :: M) d ns := by
  cases h with
  | t => exact .t
  | l => exact .l
  | c n h => exact .c (n + 1) h
section
variable {X : Cx} {Γ : Gam} {M : Mem} {o : Expr} {pos : Pos} {ps : List Int} {kn : Nat} {r : Int}
theorem av_ftP (N : FtX X.K X0) (ho : aV X o Γ M (ftV X0 ps kn r)) (hb : attributeBase o "own_places" X.env (eval o X.env) = eval o X.env := by rfl) : aV X (.Attribute o "own_places" pos) Γ M (.tup (ps.map .int)) := av_fld N.cl N.n0 ho (.im _) rfl hb
theorem av_ftA (N : FtX X.K X0) (ho : aV X o Γ M (ftV X0 ps kn r)) (hb : attributeBase o "own_arity" X.env (eval o X.env) = eval o X.env := by rfl) : aV X (.Attribute o "own_arity" pos) Γ M (.int (kn : Int)) := av_fld N.cl N.n1 ho (.im _) rfl hb
theorem av_ftR (N : FtX X.K X0) (ho : aV X o Γ M (ftV X0 ps kn r)) (hb : attributeBase o "own_rest" X.env (eval o X.env) = eval o X.env := by rfl) : aV X (.Attribute o "own_rest" pos) Γ M (.int r) := av_fld N.cl N.n2 ho (.im _) rfl hb
end
def aPrp (X0 : Addr) : ASp := fun ds M R => ∃ (p : Addr) (ps : List Int) (kn : Nat) (r : Int) (M0 : Mem), ds = [.ptr p, .tup (ps.map .int), .int (kn : Int), .int r] ∧ M = (p, .ins X0 []) :: M0 ∧ 2 ≤ kn ∧ kn ≤ 9 ∧ ps.length ≤ 2000 ∧ cfL kn (bndL ps r) = [] ∧ R .non ((p, .ins X0 (ftF ps kn r)) :: M0)
theorem b_prepare (F : FtX K X0) (GB : GBof P w K mg base) (GE : GEcf P w K mg base) : BodyOk P w K mg base 6 f n_PlaceFit_prepare "PlaceFit.prepare" (defScope c_PlaceFit_prepare) (defBody c_PlaceFit_prepare) (aPrp X0) := by
  rintro cdv A outer s0 H E hr ds M R ⟨p, ps, kn, r, M0, rfl, rfl, k2, k9, hl, hc, hp⟩
  refine as_cons (as_fld F.cl F.n0 ((v_ 1).val ((v_ 0).val ⟨0, p, _, rfl, rfl, Nat.le_of_ble_eq_true rfl, ?_⟩)))
  refine as_cons (as_fld F.cl F.n1 ((v_ 2).val ((v_ 0).val ⟨0, p, _, rfl, rfl, Nat.le_of_ble_eq_true rfl, ?_⟩)))
  refine as_cons (as_fld F.cl F.n2 ((v_ 3).val ((v_ 0).val ⟨0, p, _, rfl, rfl, Nat.le_of_ble_eq_true rfl, ?_⟩)))
  refine as_cons (as_fld F.cl F.n3 (ae_g GB hr (by decide) (aa_cons ((v_ 1).val (aa_cons ((v_ 3).val (aa_nil (ak_nil ⟨rfl, ps, r, rfl, hl, (v_ 0).val ⟨0, p, _, rfl, rfl, Nat.le_of_ble_eq_true rfl, ?_⟩⟩))))))))
  show aSs _ _ _ ((p, .ins X0 (ftF ps kn r)) :: M0) _
  refine as_one (as_forGW (kk := 5) PassesOwn.never hr (by decide) (agn_g GE (hr.mono (by decide)) (by decide) (aa_cons ((av_fld (fs := ftF ps kn r) F.cl F.n3 (v_ 0) (.ce 0 rfl) rfl).val (aa_cons ((v_ 2).val (aa_nil (ak_nil ⟨rfl, cfL kn (bndL ps r), ⟨rfl, _, kn, rfl, k2, k9, by rw [bndL_len]; exact hl, rfl⟩, ?_⟩))))))))
  refine ⟨fun n x Γ M' => 0 < n ∧ x = [] ∧ M' = (p, .ins X0 (ftF ps kn r)) :: M0 ∧ Γ = gam n_PlaceFit_prepare [.ptr p, .tup (ps.map .int), .int (kn : Int), .int r], 1, ⟨_, ⟨Nat.one_pos, hc, rfl, rfl⟩, (by repeat' first | exact le_nil | refine le_skip ?_ | refine le_keep rfl ?_)⟩, ?_⟩
  rintro n x Γ0 Γ M' l ⟨hn, rfl, rfl, rfl⟩
  exact ⟨hn, .ok hp⟩
structure MtF (P : Program) (w : World) (K : PySem.W.Frag) (mg : Str → Option Value) (base : Heap) (X : Addr) (nm : Str) (n : Nat) (sp : ASp) : Prop where
  ex : ∃ f, Meth K X nm f ∧ FX P w K mg base n f fun ds _ => sp ds
/-! ### PlaceFit -/
def aPfi (CP : Addr) : ASp := fun ds M R => ∃ (p : Addr) (d : Val) (ps : List Int) (kn : Nat) (M0 : Mem), ds = [.ptr p, d, .int (kn : Int)] ∧ M = (p, .ins CP []) :: M0 ∧ Sv M0 d ps ∧ okPs ps ∧ 2 ≤ kn ∧ kn ≤ 9 ∧ cfL kn (bndL ps (if ps = [] then 0 else 1)) = [] ∧ R .non ((p, .ins CP (ftF ps kn (if ps = [] then 0 else 1))) :: M0)
theorem b_pfit (B : Bt mg) (F : FtX K CP) (GP : GCkp P w K mg base) (GA : GCka P w K mg base) (XP : MtF P w K mg base CP "prepare" 7 (aPrp CP)) : BodyOk P w K mg base 7 f n_PlaceFit___init__ "PlaceFit.__init__" (defScope c_PlaceFit___init__) (defBody c_PlaceFit___init__) (aPfi CP) := by
  rintro cdv A outer s0 H E hr ds M R ⟨p, d, ps, kn, M0, rfl, rfl, hd, ok, k2, k9, hc, hp⟩
  have hd' : Sv ((p, .ins CP []) :: M0) d ps := svC hd
  refine as_cons (as_expr (ae_g GP hr (by decide) (aa_cons ((v_ 1).val (aa_nil (ak_nil ⟨rfl, d, ps, rfl, hd', ok, ?_⟩))))))
  refine as_cons (as_expr (ae_g GA hr (by decide) (aa_cons ((v_ 2).val (aa_nil (ak_nil ⟨rfl, kn, rfl, k2, k9, ?_⟩))))))
  obtain ⟨fp, mt, FP⟩ := XP.ex
  refine as_one (as_expr (ae_methG F.cl mt FP (hr.mono (by decide)) ((v_ 0).val ⟨(Ob.ce 0 rfl).obM rfl, aa_cons ((av_tupSv B.tuple (v_ 1) hd').val (aa_cons ((v_ 2).val (aa_cons (aE.val (d := .int (if ps = [] then 0 else 1)) ?_ (aa_nil (ak_nil ⟨rfl, p, ps, kn, _, M0, rfl, rfl, k2, k9, by have := ok.1; omega, hc, .ok hp⟩)))))))⟩)))
  by_cases z : ps = []
  · rw [if_pos z]
    exact ae_ifp (tp_cmp (av_lenSv B.len (v_ 1) hd') i_ cp_gt) (fun c => absurd c (by rw [z]; decide)) (fun _ => i_.val ⟨rfl, rfl⟩)
  · rw [if_neg z]
    have := List.length_pos_iff.mpr z
    exact ae_ifp (tp_cmp (av_lenSv B.len (v_ 1) hd') i_ cp_gt) (fun _ => i_.val ⟨rfl, rfl⟩) (fun c => absurd (show (0 : Int) < (ps.length : Int) by omega) c)
structure MkF (P : Program) (w : World) (K : PySem.W.Frag) (mg : Str → Option Value) (base : Heap) (X : Addr) (sp : ASp) : Prop where
  ex : ∃ fi, Mk K X fi ∧ FX P w K mg base 8 fi fun ds _ => sp ds
/-! ### properties -/
/-! ### of, fits -/
structure FtC (K : PySem.W.Frag) (mg : Str → Option Value) (X : Addr) (g : Str) : Prop where
  gC : mg g = some (.ref X)
  rd : ClX.CRead K X (.type "type")
  mp : ∃ t, ClX.CVal K X (.type "type") "MAX_PLACES" (.int 500) (.int 500 t)
  mv : ∃ t, ClX.CVal K X (.type "type") "MAX_VALUES" (.int 1000) (.int 1000 t)
def aOfP (C CP : Addr) : ASp := fun ds M R => ∃ (S : Sc) (c : Nat), ds = [.ptr CP, scV C S, .int (c : Int)] ∧ GoodS S ∧ okPs (plL (PlS S) c) ∧ R (ftV CP (plL (PlS S) c) S.a.toNat (if plL (PlS S) c = [] then 0 else 1)) M
theorem cf_pl {S : Sc} (h : GoodS S) {c : Nat} : cfL S.a.toNat (bndL (plL (PlS S) c) (if plL (PlS S) c = [] then 0 else 1)) = [] := by
  refine cf_own h.k2 h.s0 h.l0 fun m e => ?_
  have := (PlS_inc h).lt (Nat.lt_succ_self m)
  have : PlS S m < PlS S (m + 1) := this
  split
  · show (0 : Int) ≤ PlS S (m + 1) - PlS S m
    omega
  · show (1 : Int) ≤ PlS S (m + 1) - PlS S m
    omega
theorem b_ofP {g : Str} (B : Bt mg) (T : Rs K mg C) (IS : Isi K C) (PA : PrA P w K mg base C) (Z : FtC K mg CP g) (GB : GChk3 P w K mg base) (GF : GFpl P w K mg base C) (I : MkF P w K mg base CP (aPfi CP)) : BodyOk P w K mg base 9 f n_PlaceFit_of "PlaceFit.of" (defScope c_PlaceFit_of) (defBody c_PlaceFit_of) (aOfP C CP) := by
  rintro cdv A outer s0 H E hr ds M R ⟨S, c, rfl, hS, ok, hp⟩
  obtain ⟨fi, mk, F⟩ := I.ex
  obtain ⟨t, vp⟩ := Z.mp
  have hc : c ≤ 500 := by have := ok.1; rw [plL_len] at this; exact this
  have k2 := hS.k2
  have k9 := hS.k9
  have a2 := hS.a2
  refine as_cons (as_if (at_not (at_val (ae_isi B.isinstance (v_ 1) (ae_glob T.gC ⟨rfl, rfl⟩) (.own C) (ty_sc T IS) IS.c5 ⟨true, rfl, nft, fun _ => as_nil ?_⟩))))
  refine as_cons (as_expr (ae_g GB hr (by decide) (aa_cons ((v_ 2).val (aa_cons (i_.val (aa_cons ((av_cval Z.rd vp (v_ 0) fun _ => .int 500).val (aa_nil (ak_nil ⟨rfl, (c : Int), 0, 500, rfl, by omega, by omega, ?_⟩))))))))))
  refine as_one (as_ret (ae_frzO (ae_makeL 0 mk F hr (by decide) rfl (aa_cons (ae_g GF hr (by decide) (aa_cons ((v_ 1).val (aa_cons ((v_ 2).val (aa_nil (ak_nil ⟨rfl, S, c, rfl, hS, by omega, aa_cons ((av_arity T PA hr (by decide) (v_ 1)).val (aa_nil (ak_nil ⟨rfl, fun p hn => ?_⟩)))⟩)))))))))))
  exact ⟨p, _, plL (PlS S) c, S.a.toNat, M, by rw [show ((S.a.toNat : Nat) : Int) = S.a by omega], rfl, .t, ok, k2, k9, cf_pl hS, rfl, p, CP, _, M, rfl, rfl, .ok hp⟩
/-- what a fit by places answers -/
def aFit (K : PySem.W.Frag) (C X0 : Addr) : ASp := fun ds M R => ∃ (ps : List Int) (kn : Nat) (r : Int) (d : Val), ds = [ftV X0 ps kn r, d] ∧ ps.length ≤ 2000 ∧
  ((∃ S : Sc, d = scV C S ∧ GoodS S ∧ R (.bl (decide (S.a = kn ∧ plL (PlS S) ps.length = ps))) M) ∨ (∃ t, TyV K M d t ∧ PySem.W.kitOne K t (.ref C) = some false ∧ R (.bl false) M))
theorem b_fits (B : Bt mg) (T : Rs K mg C) (IS : Isi K C) (PA : PrA P w K mg base C) (F : FtX K X0) (GF : GFpl P w K mg base C) : BodyOk P w K mg base 5 f n_PlaceFit_fits "PlaceFit.fits" (defScope c_PlaceFit_fits) (defBody c_PlaceFit_fits) (aFit K C X0) := by
  rintro cdv A outer s0 H E hr ds M R ⟨ps, kn, r, d, rfl, hl, ⟨S, rfl, hS, hp⟩ | ⟨t, ht, hk, hp⟩⟩
  · have hu := hr.u64
    by_cases z : S.a = kn
    · refine as_cons (as_if (at_w (aw_or (at_not (at_val (ae_isi B.isinstance (v_ 1) (ae_glob T.gC ⟨rfl, rfl⟩) (.own C) (ty_sc T IS) IS.c5 ⟨true, rfl, nft, fun _ => aw_or1 (at_cmp (av_arity T PA hr (by decide) (v_ 1)) (av_ftA F (v_ 0)) (cmp_neI.eq (by rw [z]; simp)) ⟨nft, fun _ => as_nil ?_⟩)⟩))))))
      refine as_one (as_ret (ae_cmpM (ae_g GF hr (by decide) (aa_cons ((v_ 1).val (aa_cons ((av_lenSv B.len (av_ftP F (v_ 0)) .t).val (aa_nil (ak_nil ⟨rfl, S, ps.length, rfl, hS, by omega, (av_ftP F (v_ 0)).val ⟨_, cmp_eqTI hu, ?_⟩⟩)))))))))
      have e : decide (S.a = kn ∧ plL (PlS S) ps.length = ps) = decide (plL (PlS S) ps.length = ps) := by simp [z]
      rw [e] at hp
      exact .ok hp
    · refine as_cons (as_if (at_w (aw_or (at_not (at_val (ae_isi B.isinstance (v_ 1) (ae_glob T.gC ⟨rfl, rfl⟩) (.own C) (ty_sc T IS) IS.c5 ⟨true, rfl, nft, fun _ => aw_or1 (at_cmp (av_arity T PA hr (by decide) (v_ 1)) (av_ftA F (v_ 0)) (cmp_neI.eq (b' := true) (by simp [z])) ⟨fun _ => ?_, ntf⟩)⟩))))))
      have e : decide (S.a = kn ∧ plL (PlS S) ps.length = ps) = false := decide_eq_false fun h => z h.1
      rw [e] at hp
      exact as_one (as_retv av_bl (.ok hp))
  · exact as_cons (as_if (at_w (aw_or (at_not (at_val (ae_isi B.isinstance (v_ 1) (ae_glob T.gC ⟨rfl, rfl⟩) (.own C) ht hk ⟨false, rfl, fun _ => ⟨fun _ => as_one (as_retv av_bl (.ok hp)), ntf⟩, ntf⟩))))))
/-! ### ValueFit -/
def nfF (st : Stmt) (name qual : Str) (cc cda : Addr) : NdefX.NF := ⟨name, qual, defArgs st, defBody st, defScope st, [(("__class__" : Str), cc)], cda⟩
theorem pIn_le (vs : List Int) : (pIn vs).length ≤ vs.length := by
  unfold pIn
  rw [List.length_map]
  refine Nat.le_trans (List.length_filter_le _ _) ?_
  rw [List.length_range]
  exact Nat.le_refl _
/-- the rest of the first values -/
def vfR (P : Nat → Int) (c : Nat) : Int := (c : Int) - (if Vv P ((c : Int) - 1) = 0 then 0 else P (Vv P ((c : Int) - 1) - 1))
theorem rOf_vl {P : Nat → Int} (h : Inc P) (c : Nat) : rOf (vlL P c) (pIn (vlL P c)) = vfR P c := by
  rw [pIn_vlL h]
  unfold rOf vfR
  rw [vlL_len]
  by_cases z : Vv P ((c : Int) - 1) = 0
  · rw [if_pos z, z, if_pos (show plL P 0 = [] from rfl)]
  · obtain ⟨m, hm⟩ : ∃ m, Vv P ((c : Int) - 1) = m + 1 := ⟨Vv P ((c : Int) - 1) - 1, by omega⟩
    have hne : plL P (m + 1) ≠ [] := fun e => by have := plL_len (P := P) (c := m + 1); rw [e] at this; cases this
    rw [if_neg z, hm, if_neg hne, plL_len]
    unfold plL
    rw [List.getD_eq_getElem?_getD, List.getElem?_map, List.getElem?_range (by omega)]
    rfl
theorem cf_vl {S : Sc} (h : GoodS S) {c : Nat} : cfL S.a.toNat (bndL (plL (PlS S) (Vv (PlS S) ((c : Int) - 1))) (vfR (PlS S) c)) = [] := by
  refine cf_own h.k2 h.s0 h.l0 fun m e => ?_
  have hv := (Vv_spec (PlS_inc h) (show -1 ≤ (c : Int) - 1 by omega)).2
  show vfR (PlS S) c ≤ PlS S (m + 1) - PlS S m
  unfold vfR
  rw [e] at hv ⊢
  rw [if_neg (Nat.succ_ne_zero m), Nat.add_sub_cancel]
  omega
theorem ok_vl {P : Nat → Int} (h : Inc P) {c : Nat} (c1 : 1 ≤ c) (c2 : c ≤ 1000) : okVs (vlL P c) := by
  refine ⟨by rw [vlL_len]; exact c1, by rw [vlL_len]; exact c2, fun i hi => ?_⟩
  rw [vlL_len] at hi
  rw [vlL_before h hi, vlL_at hi]
  rcases Vv_next h (show (0 : Int) ≤ (i : Int) by omega) with e | ⟨e, _⟩ <;> rw [e] <;> omega
/-- the last place -/
def laP (ps : List Int) : Int := if ps = [] then 0 else ps.getD (ps.length - 1) 0
theorem pl_last {P : Nat → Int} {n : Nat} : atI ((plL P (n + 1)).map Val.int) (-1) = some (.int (P n)) := by
  refine atI_lastE (n := n) (by rw [plL_len]) ?_
  unfold plL
  rw [List.getD_eq_getElem?_getD, List.getElem?_map, List.getElem?_range (by omega)]
  rfl
/-- what a fit by values answers -/
def aFiv (K : PySem.W.Frag) (C X0 : Addr) : ASp := fun ds M R => ∃ (ps : List Int) (kn : Nat) (r : Int) (d : Val), ds = [ftV X0 ps kn r, d] ∧ ps.length ≤ 1000 ∧
  ((∃ S : Sc, d = scV C S ∧ GoodS S ∧ R (.bl (decide ((S.a = kn ∧ plL (PlS S) ps.length = ps) ∧ laP ps + r ≤ PlS S ps.length))) M) ∨ (∃ t, TyV K M d t ∧ PySem.W.kitOne K t (.ref C) = some false ∧ R (.bl false) M))
theorem z_vfits {cc cda D f2 : Addr} (B : Bt mg) (ms : mg "super" = none) (F : FtX K CV) (GF : GFpl P w K mg base C) (S1 : Sup K P f cda cc D CV f2 "fits") (XF : FX P w K mg base 6 f2 fun ds _ => aFit K C CV ds) :
    ZBody P w K mg base 6 f n_ValueFit_fits (nfF c_ValueFit_fits "fits" "ValueFit.fits" cc cda) (aFiv K C CV) := by
  rintro A outer s0 H hr ds M R ⟨ps, kn, r, d, rfl, hl, ⟨S, rfl, hS, hp⟩ | ⟨t, ht, hk, hp⟩⟩
  · have hu := hr.u64
    refine zs_cons (zs_ifNot (ze_sup S1 XF hr (by decide) ms F.cl rfl (.im _) (aa_cons ((v_ 1).val (aa_nil ⟨ps, kn, r, scV C S, rfl, by omega, .inl ⟨S, rfl, hS, _, rfl, fun hb => ?_, fun hb => ?_⟩⟩)))))
    · have e : decide ((S.a = kn ∧ plL (PlS S) ps.length = ps) ∧ laP ps + r ≤ PlS S ps.length) = false := decide_eq_false fun h => of_decide_eq_false hb h.1
      rw [e] at hp
      exact zs_of (as_one (as_retv av_bl (.ok hp)))
    · have hb := of_decide_eq_true hb
      have e : decide ((S.a = kn ∧ plL (PlS S) ps.length = ps) ∧ laP ps + r ≤ PlS S ps.length) = decide (laP ps + r ≤ PlS S ps.length) := by simp [hb]
      rw [e] at hp
      refine zs_nil (zs_of ?_)
      refine as_cons (as_setv (d := .int (laP ps)) 3 q_ValueFit_fits.nd ?_ ?_)
      · unfold laP
        by_cases z : ps = []
        · rw [if_pos z]
          subst z
          exact ae_ifp (tp_cmp (av_ftP F (v_ 0)) (av_tup avs_nil szb) (cp_neT (ns := []) (ms := []) hu)) (fun c => absurd rfl c) (fun _ => i_.val ⟨rfl, rfl⟩)
        · rw [if_neg z]
          exact ae_ifp (tp_cmp (av_ftP F (v_ 0)) (av_tup avs_nil szb) (cp_neT (ns := ps) (ms := []) hu)) (fun _ => (av_ixT (av_ftP F (v_ 0)) (av_neg i_) (atI_last z)).val ⟨rfl, rfl⟩) (fun c => absurd (fun e => z e) c)
      · refine as_one (as_ret (ae_cmpM (ae_ixM (ae_g GF hr (by decide) (aa_cons ((v_ 1).val (aa_cons ((av_add (av_lenSv B.len (av_ftP F (v_ 0)) .t) i_).val (aa_nil (ak_nil ⟨rfl, S, ps.length + 1, rfl, hS, by omega, aE.val (av_neg i_) ⟨_, _, _, rfl, .t, pl_last, (av_add (v_ 3) (av_ftR F (v_ 0))).val ⟨_, cmp_ge, .ok hp⟩⟩⟩))))))))))
  · refine zs_cons (zs_ifNot (ze_sup S1 XF hr (by decide) ms F.cl rfl (.im _) (aa_cons ((v_ 1).val (aa_nil ⟨ps, kn, r, d, rfl, by omega, .inr ⟨t, ht, hk, _, rfl, fun hb => ?_, fun hb => nomatch hb⟩⟩)))))
    exact zs_of (as_one (as_retv av_bl (.ok hp)))
end
end K43
/-! Ab105: a dict display whose values make cells -/
namespace Ab
open PySem PySem.Spec PyProof.Rows L2
section
variable {X : Cx} {Γ : Gam} {M : Mem} {a e : Expr}
theorem ap_consE {P : List (Key × Val) → Mem → Prop} {kk : Str} {ps : List (Expr × Expr)} (hk : aV X a Γ M (.str kk)) (hv : aE X e Γ M fun d M1 => ∃ M2, M2.Perm M1 ∧ aPr X ps Γ M2 fun kvs M' => P ((.inr kk, d) :: kvs) M') : aPr X ((a, e) :: ps) Γ M P := fun Hi H σ ok en Q q => by
  refine hk Hi H σ ok en _ fun x M1 v1 Hi1 H1 h1 s1 ok1 r1 => ?_
  obtain ⟨rfl, rfl⟩ := h1
  cases r1
  refine hv Hi1 H1 σ ok1 (en.mono s1) _ fun x M2 v2 Hi2 H2 h2 s2 ok2 r2 => ?_
  obtain ⟨M3, hp, h⟩ := h2
  have s12 := s1.trans s2
  refine h Hi2 H2 σ (ok2.perm hp) (en.mono s12) _ fun kvs M' ws Hi' H' h3 s3 ok3 r3 => ?_
  exact q ((.inr kk, _) :: kvs) M' ((.inr kk, v2) :: ws) Hi' H' h3 (s12.trans s3) ok3 (.cons (r2.mono s3) r3)
/-- [elt for ..] as a cell, items told by their number -/
theorem ae_lcPC {P : Val → Mem → Prop} {tg iter elt : Expr} {scope : Scope} {pos : Pos} (own : List (Str × Nat)) {n : Nat} {it : Nat → Val} (g : Nat → Val) (hc : X.calm = true) (hN : X.N.Nodup) (ok : BlkOk X.N X.env.scope scope own)
    (hi : aI X tg iter Γ M n it (fun _ => True) (fun M' => M' = M))
    (hs : ∀ i acc D, i < n → bG X scope (own.map (·.2)) tg (it i) (wipeG Γ (own.map (·.2))) ((D, .lst acc) :: M) fun Γ2 M2 => bE X scope elt Γ2 M2 fun y M4 => y = g i ∧ M4 = (D, .lst acc) :: M)
    (hn : n ≤ 100000) (hd : ∀ D, P (.ptr D) ((D, .lst ((List.range n).map g)) :: M)) (hf : ∀ x, foldedSetIterable iter X.env x = pure x := by intro _; rfl) :
    aE X (.ListComp elt [⟨tg, iter, [], 0⟩] scope pos) Γ M P := by
  refine ae_lcC (it := it) own (fun i acc M' => M' = M ∧ acc = (List.range i).map g) hc hN ok ?_ (fun _ _ _ _ _ => trivial) (fun _ _ _ => trivial) ?_ hn ?_ hf
  · intro Hi H σ ok en R q
    exact hi Hi H σ ok en R fun J M1 Hi1 H1 h1 => q J M1 Hi1 H1 ⟨h1, rfl⟩
  · rintro i acc M' D hi' _ ⟨rfl, rfl⟩ s H C cl fp
    intro Hi1 H1 σ1 v1 ok1 en1 r1 Q1 q1
    refine hs i _ D hi' s H C cl fp Hi1 H1 σ1 v1 ok1 en1 r1 Q1 fun Γ2 M2 σ2 Hi2 H2 h2 => q1 Γ2 M2 σ2 Hi2 H2 fun s' H' C' cl' fp' => ats_nil ⟨fun _ s2 H2 C2 cl2 fp2 => (h2 s2 H2 C2 cl2 fp2).mono fun y M4 hy => ?_, fun z => nomatch z⟩
    obtain ⟨rfl, rfl⟩ := hy
    exact ⟨_, rfl, rfl, by rw [List.range_succ, List.map_append]; rfl⟩
  · rintro D acc M' ⟨rfl, rfl⟩
    exact hd D
end
end Ab
namespace K43
open PySem L2 Ab Sm
/-! ### the draws of stage 6: a dict and its list in one box -/
def d6 (ns : List Int) (q : Addr) (t : Int) : List (Key × Val) := [(.inr "script", .lst (ns.map .int)), (.inr "at", .int t), (.inr "left", .ptr q)]
def st6 (p : Addr) (N : Nat) : Cell := .box fun B => ∃ (ns xs : List Int) (q : Addr) (t : Int), B = [(p, .dk (d6 ns q t)), (q, .lst (xs.map .int))] ∧ xs.length = ns.length ∧ 0 ≤ t ∧ t ≤ (N : Int)
section
variable {P : Program} {w : World} {K : PySem.W.Frag} {mg : Str → Option Value} {base : Heap} {k : Nat} {f C : Addr}
theorem dg61 {ns : List Int} {q : Addr} {t : Int} : dGet (d6 ns q t) (.inr ("script" : Str)) = some (.lst (ns.map .int)) := by rfl
theorem dg62 {ns : List Int} {q : Addr} {t : Int} : dGet (d6 ns q t) (.inr ("at" : Str)) = some (.int t) := by rfl
theorem dg63 {ns : List Int} {q : Addr} {t : Int} : dGet (d6 ns q t) (.inr ("left" : Str)) = some (.ptr q) := by rfl
theorem dp62 {ns : List Int} {q : Addr} {t v : Int} : dPut (d6 ns q t) (.inr ("at" : Str)) (.int v) = d6 ns q v := by rfl
theorem ixN_in {n : Nat} {i : Int} (h0 : 0 ≤ i) (h1 : i < n) : ixN n i = some i.toNat := by
  unfold ixN
  rw [if_pos h0, if_pos h1]
theorem setI {xs : List Int} {j : Nat} {v : Int} : (xs.map Val.int).set j (.int v) = (xs.set j v).map .int := by rw [List.map_set]
def aDr6 : ASp := fun ds M R => ∃ (p : Addr) (i N : Nat) (n : Int), ds = [.ptr p, .int n] ∧ M[i]? = some (p, st6 p N) ∧ N ≤ 1000000 ∧ 0 < n ∧ n ≤ 1000000 ∧ ∀ v, 0 ≤ v → v < n → R (.int v) (M.set i (p, st6 p (N + 1)))
theorem b__law_draw6 (B : Bt mg) : BodyOk P w K mg base k f n__law_draw "_law_draw" (defScope s__law_draw) (defBody s__law_draw) aDr6 := by
  rintro cdv A outer s0 H E hr ds M R ⟨p, i, N, n, rfl, hi, hN, n0, n1, hp⟩
  have hu := hr.u64
  have h1 := hr.u1
  refine as_open hi ?_
  rintro _ ⟨ns, xs, q, t, rfl, hx, t0, t1⟩ -
  show aSs _ _ _ ((p, .dk (d6 ns q t)) :: (q, .lst (xs.map .int)) :: M.eraseIdx i) _
  refine as_cons (as_setv (d := .int t) 2 q__law_draw.nd (av_dget h1 (v_ 0) s_ (n := 0) rfl dg62) ?_)
  refine as_cons (as_dput h1 (v_ 0) s_ (av_add (v_ 2) i_) (n := 0) rfl (Nat.lt_of_lt_of_le (show 3 < 4 by decide) szb) ?_)
  rw [dp62]
  show aSs _ _ _ ((p, .dk (d6 ns q (t + 1))) :: (q, .lst (xs.map .int)) :: M.eraseIdx i) _
  have m1 : 0 < max (1 : Int) (ns.length : Int) := by omega
  refine as_cons (as_setv (d := .int (t % max 1 (ns.length : Int))) 3 q__law_draw.nd (av_mod (v_ 2) (av_max2 B.max rfl i_ (av_lenSv B.len (av_dget h1 (v_ 0) s_ (n := 0) rfl dg61) .l)) m1) ?_)
  have p0 := Int.emod_nonneg t (show max (1 : Int) (ns.length : Int) ≠ 0 by omega)
  have p1 := Int.emod_lt_of_pos t m1
  generalize t % max 1 (ns.length : Int) = sp at *
  have fin : ∀ (ys : List Int) (v : Int), ys.length = ns.length → 0 ≤ v → v < n → Ret R (.int v) ((p, .dk (d6 ns q (t + 1))) :: (q, .lst (ys.map .int)) :: M.eraseIdx i) := fun ys v hy v0 v1 =>
    Ret.clsAt (B := [(p, .dk (d6 ns q (t + 1))), (q, .lst (ys.map .int))]) hi ⟨_, ys, _, _, rfl, hy, by omega, by omega⟩ List.mem_cons_self (.ok (hp v v0 v1))
  have sv : Sv ((p, .dk (d6 ns q (t + 1))) :: (q, .lst (xs.map .int)) :: M.eraseIdx i) (.ptr q) xs := .c 1 rfl
  refine as_cons (as_ifp (tp_w (wp_and (tp_cmp (av_dget h1 (v_ 0) s_ (n := 0) rfl dg63) (av_lst avs_nil szb) (cp_neL (ns := xs) (ms := []) (.lst 1 rfl) (.self _) hu)) fun hne => wp_and1 (tp_cmp (av_ixSv (av_dget h1 (v_ 0) s_ (n := 0) rfl dg63) (v_ 3) sv p0 (by have := List.length_pos_iff.mpr hne; omega)) i_ cp_gt))) (fun cnd => ?_) (fun cnd => as_nil ?_))
  · obtain ⟨hne, hgt⟩ := cnd
    have hl := List.length_pos_iff.mpr hne
    have hin : sp < xs.length := by omega
    refine as_cons (as_setv (d := .int (at0 xs sp)) 4 q__law_draw.nd (av_ixSv (av_dget h1 (v_ 0) s_ (n := 0) rfl dg63) (v_ 3) sv p0 hin) ?_)
    refine as_cons (as_asg ((av_fdivU (v_ 4) (v_ 1) (.inl ⟨n0, by omega⟩)).val (ag_sub (n := 1) (jj := sp.toNat) (av_dget h1 (v_ 0) s_ (n := 0) rfl dg63) (v_ 3) rfl (by rw [List.length_map]; exact ixN_in p0 hin) ?_)))
    rw [setI]
    exact as_one (as_retv (av_mod (v_ 4) (v_ 1) n0) (fin _ _ (by rw [List.length_set]; exact hx) (Int.emod_nonneg _ (by omega)) (Int.emod_lt_of_pos _ n0)))
  · have b0 := Int.emod_nonneg (at0 ns sp) (show (1000000007 : Int) ≠ 0 by decide)
    have b1 := Int.emod_lt_of_pos (at0 ns sp) (show (0 : Int) < 1000000007 by decide)
    refine as_cons (as_setv (d := .int (if ns = [] then 0 else at0 ns sp % 1000000007)) 4 q__law_draw.nd ?_ ?_)
    · by_cases z : ns = []
      · rw [if_pos z]
        exact ae_ifp (tp_cmp (av_dget h1 (v_ 0) s_ (n := 0) rfl dg61) (av_lst avs_nil szb) (cp_neL (ns := ns) (ms := []) (.self _) (.self _) hu)) (fun c => absurd z c) (fun _ => i_.val ⟨rfl, rfl⟩)
      · rw [if_neg z]
        have hl := List.length_pos_iff.mpr z
        exact ae_ifp (tp_cmp (av_dget h1 (v_ 0) s_ (n := 0) rfl dg61) (av_lst avs_nil szb) (cp_neL (ns := ns) (ms := []) (.self _) (.self _) hu)) (fun _ => (av_mod (av_ixSv (av_dget h1 (v_ 0) s_ (n := 0) rfl dg61) (v_ 3) .l p0 (by omega)) i_ (by decide)).val ⟨rfl, rfl⟩) (fun c => absurd z c)
    have pt0 : 0 ≤ (if ns = [] then 0 else at0 ns sp % 1000000007) := by split <;> omega
    have pt1 : (if ns = [] then 0 else at0 ns sp % 1000000007) < 1000000007 := by split <;> omega
    generalize (if ns = [] then (0 : Int) else at0 ns sp % 1000000007) = pt at *
    refine as_cons (as_setv 5 q__law_draw.nd (av_mod (av_add (av_add (av_add (av_mul (v_ 4) i_ (.inl ⟨by omega, by omega⟩)) (av_mul (av_mul i_ (v_ 2) (.inl ⟨by decide, by decide⟩)) (v_ 2) (.inr ⟨by omega, by omega⟩))) (av_mul i_ (v_ 2) (.inl ⟨by decide, by decide⟩))) i_) i_ (by decide)) ?_)
    generalize pt * 48271 + 7919 * t * t + 31 * t + 17 = y1
    have y0 := Int.emod_nonneg y1 (show (2147483647 : Int) ≠ 0 by decide)
    have y2 := Int.emod_lt_of_pos y1 (show (0 : Int) < 2147483647 by decide)
    generalize y1 % 2147483647 = y at *
    refine as_cons (as_setv 5 q__law_draw.nd (av_mod (av_add (av_add (av_mul (v_ 5) i_ (.inl ⟨by omega, by omega⟩)) (av_mul i_ (v_ 2) (.inl ⟨by decide, by decide⟩))) i_) i_ (by decide)) ?_)
    generalize y * 69619 + 104729 * t + 5 = z1
    have z0 := Int.emod_nonneg z1 (show (2147483629 : Int) ≠ 0 by decide)
    have z2 := Int.emod_lt_of_pos z1 (show (0 : Int) < 2147483629 by decide)
    generalize z1 % 2147483629 = z at *
    exact as_one (as_retv (av_mod (av_fdiv (av_mod (av_mul (v_ 5) (v_ 5) (.inl ⟨by omega, by omega⟩)) i_ (by decide)) i_ ⟨by decide, by decide⟩) (v_ 1) n0) (fin _ _ hx (Int.emod_nonneg _ (by omega)) (Int.emod_lt_of_pos _ n0)))
abbrev GDr6 (P : Program) (w : World) (K : PySem.W.Frag) (mg : Str → Option Value) (base : Heap) : Prop := Gd P w K mg base 1 "_law_draw" [] fun ds _ => aDr6 ds
def aOf6 : ASp := fun ds M R => ∃ (p : Addr) (i N : Nat) (xs : List Int), ds = [.ptr p, .lst (xs.map .int)] ∧ M[i]? = some (p, st6 p N) ∧ N ≤ 1000000 ∧ 0 < xs.length ∧ xs.length ≤ 1000 ∧ ∀ v, v ∈ xs → R (.int v) (M.set i (p, st6 p (N + 1)))
theorem b__law_of6 (B : Bt mg) (GD : GDr6 P w K mg base) : BodyOk P w K mg base 1 f n__law_of "_law_of" (defScope s__law_of) (defBody s__law_of) aOf6 := by
  rintro cdv A outer s0 H E hr ds M R ⟨p, i, N, xs, rfl, hi, hN, x0, x1, hp⟩
  refine as_one (as_ret (ae_ixM ((v_ 1).val (ae_g GD hr (by decide) (aa_cons ((v_ 0).val (aa_cons ((av_lenSv B.len (v_ 1) .l).val (aa_nil (ak_nil ⟨rfl, p, i, N, (xs.length : Int), rfl, hi, hN, by omega, by omega, fun v v0 v1 => ⟨v, _, _, rfl, .l (.self _), atI_int v0 v1, .ok (hp _ ?_)⟩⟩))))))))))
  have hv : v.toNat < xs.length := by omega
  show xs.getD v.toNat 0 ∈ xs
  rw [List.getD_eq_getElem?_getD, List.getElem?_eq_getElem hv]
  exact List.getElem_mem hv
abbrev GOf6 (P : Program) (w : World) (K : PySem.W.Frag) (mg : Str → Option Value) (base : Heap) : Prop := Gd P w K mg base 2 "_law_of" [] fun ds _ => aOf6 ds
/-! ### streams -/
structure Sr6 (lo : Int) (s : Stm) : Prop where
  lim : Lim s
  lo : lo ≤ item s 0
  b1 : ∀ v ∈ s.1, v ≤ 12
  b2 : ∀ v ∈ s.2, v ≤ 12
  l5 : s.1.length ≤ 5
  l3 : s.2.length ≤ 3
def aSr6 : ASp := fun ds M R => ∃ (p : Addr) (i N : Nat) (lo : Int), ds = [.ptr p, .int lo] ∧ M[i]? = some (p, st6 p N) ∧ N ≤ 900000 ∧ 0 ≤ lo ∧ lo ≤ 1 ∧ ∀ s N', Sr6 lo s → N' ≤ N + 9 → R (stV s) (M.set i (p, st6 p N'))
theorem sr6 {lo : Int} {xs ys : List Int} (hx : ∀ v ∈ xs, 0 ≤ v ∧ v ≤ 12) (hy : ∀ v ∈ ys, 0 ≤ v ∧ v ≤ 12) (xl : xs.length ≤ 5) (y1 : 1 ≤ ys.length) (y3 : ys.length ≤ 3) (hl : lo ≤ item (xs, ys) 0) : Sr6 lo (xs, ys) :=
  ⟨⟨by show xs.length ≤ 12; omega, by show ys.length ≤ 6; omega, List.length_pos_iff.mp y1, fun v hv => ⟨(hx v hv).1, by have := (hx v hv).2; omega⟩, fun v hv => ⟨(hy v hv).1, by have := (hy v hv).2; omega⟩⟩, hl, fun v hv => (hx v hv).2, fun v hv => (hy v hv).2, xl, y3⟩
theorem b__law_stream6 (B : Bt mg) (GD : GDr6 P w K mg base) (GO : GOf6 P w K mg base) : BodyOk P w K mg base 2 f n__law_stream "_law_stream" (defScope s__law_stream) (defBody s__law_stream) aSr6 := by
  rintro cdv A outer s0 H E hr ds M R ⟨p, i, N, lo, rfl, hi, hN, h0, h1, hp⟩
  have hu := hr.u64
  refine as_cons (as_setv (d := .lst (([0, 0, 1, 1, 2, 5] : List Int).map .int)) 2 q__law_stream.nd (av_lst (avs_cons i_ (avs_cons i_ (avs_cons i_ (avs_cons i_ (avs_cons i_ (avs_cons i_ avs_nil)))))) szb) ?_)
  have sm5 : ∀ v : Int, v ∈ ([0, 0, 1, 1, 2, 5] : List Int) → 0 ≤ v ∧ v ≤ 5 := by decide
  refine as_cons (as_lcJ 3 [("_law_k", 4)] rfl q__law_stream.nd (blkOk_by (N := n__law_stream) (sc := defScope s__law_stream) (by decide +kernel)) (aj_range1 B.range (ae_g GD hr (by decide) (aa_cons ((v_ 0).val (aa_cons (i_.val (aa_nil (ak_nil ⟨rfl, p, i, N, 4, rfl, hi, by omega, by decide, by decide, fun c c0 c1 => ⟨_, rfl, by omega, by omega, ?_⟩⟩)))))))))
  refine ⟨by omega, fun t acc M' => ∃ xs : List Int, acc = xs.map .int ∧ xs.length = t ∧ (∀ v ∈ xs, 0 ≤ v ∧ v ≤ 5) ∧ M' = M.set i (p, st6 p (N + 1 + t)), ⟨[], rfl, rfl, (fun _ h => nomatch h), rfl⟩, ?_, ?_⟩
  · rintro t acc M' D' ht hl ⟨xs, rfl, hxl, hx, rfl⟩ s H C' cl fp
    refine agw_name 4 q__law_stream.nd fun s H C' cl fp => ats_nil ⟨fun _ s H C' cl fp => ?_, ntf⟩
    refine ae_g GO hr (by decide) (aa_cons ((v_ 0).val (aa_cons ((v_ 2).val (aa_nil (ak_nil ⟨rfl, p, i + 1, N + 1 + t, [0, 0, 1, 1, 2, 5], rfl, bx_get hi, by omega, by decide, by decide, fun v hv => ?_⟩))))))
    refine ⟨_, by rw [List.set_cons_succ, List.set_set]; rfl, xs ++ [v], by rw [List.map_append]; rfl, by rw [List.length_append, hxl]; rfl, fun u hu => ?_, rfl⟩
    rcases List.mem_append.mp hu with z | z
    · exact hx u z
    · rw [List.mem_singleton.mp z]
      exact sm5 v hv
  rintro q acc M3 ⟨xs, rfl, hxl, hx, rfl⟩
  generalize hN1 : N + 1 + c.toNat = N1
  refine as_cons (as_lcJ 5 [("_law_k", 4)] rfl q__law_stream.nd (blkOk_by (N := n__law_stream) (sc := defScope s__law_stream) (by decide +kernel)) (aj_range1 B.range (ae_bin (i_.val (ae_g GD hr (by decide) (aa_cons ((v_ 0).val (aa_cons (i_.val (aa_nil (ak_nil ⟨rfl, p, i + 1, N1, 3, rfl, bx_get hi, by omega, by decide, by decide, fun e e0 e1 => bv_add ⟨_, rfl, by omega, by omega, ?_⟩⟩)))))))))))
  rw [List.set_cons_succ, List.set_set]
  refine ⟨by omega, fun t acc M' => ∃ ys : List Int, acc = ys.map .int ∧ ys.length = t ∧ (∀ v ∈ ys, 0 ≤ v ∧ v ≤ 5) ∧ M' = (q, .lst (xs.map .int)) :: M.set i (p, st6 p (N1 + 1 + t)), ⟨[], rfl, rfl, (fun _ h => nomatch h), rfl⟩, ?_, ?_⟩
  · rintro t acc M' D' ht hl ⟨ys, rfl, hyl, hy, rfl⟩ s H C' cl fp
    refine agw_name 4 q__law_stream.nd fun s H C' cl fp => ats_nil ⟨fun _ s H C' cl fp => ?_, ntf⟩
    refine ae_g GO hr (by decide) (aa_cons ((v_ 0).val (aa_cons ((v_ 2).val (aa_nil (ak_nil ⟨rfl, p, i + 2, N1 + 1 + t, [0, 0, 1, 1, 2, 5], rfl, bx_get hi, by omega, by decide, by decide, fun v hv => ?_⟩))))))
    refine ⟨_, by rw [List.set_cons_succ, List.set_cons_succ, List.set_set]; rfl, ys ++ [v], by rw [List.map_append]; rfl, by rw [List.length_append, hyl]; rfl, fun u hu => ?_, rfl⟩
    rcases List.mem_append.mp hu with z | z
    · exact hy u z
    · rw [List.mem_singleton.mp z]
      exact sm5 v hv
  rintro q2 acc M3 ⟨ys, rfl, hyl, hy, rfl⟩
  generalize hN2 : N1 + 1 + (1 + e).toNat = N2
  have y13 : 1 ≤ ys.length ∧ ys.length ≤ 3 := by omega
  have yne : ys ≠ [] := List.length_pos_iff.mp (by omega)
  have fin : ∀ (us vs : List Int) (N' : Nat) {Γ : Gam}, Sr6 lo (us, vs) → N' ≤ N + 9 → Γ[3]? = some (some (.ptr q)) → Γ[5]? = some (some (.ptr q2)) → aSs (bcx P w K mg base n__law_stream "_law_stream" (defScope s__law_stream) f cdv A outer s0 H E) [(defBody s__law_stream).getD 5 (.Pass ⟨0, 0, 0, 0⟩)] Γ ((q2, .lst (vs.map .int)) :: (q, .lst (us.map .int)) :: M.set i (p, st6 p N')) (kOf R) := fun us vs N' Γ hs hN' g1 g2 => by
    exact as_one (as_ret (aE.val (av_tup (avs_cons (av_tupSv B.tuple (v_ 3 g1) (.c 1 rfl)) (avs_cons (av_tupSv B.tuple (v_ 5 g2) (.c 0 rfl)) avs_nil)) szb) (.drop (.drop (.ok (hp (us, vs) N' hs hN'))))))
  have x12 : ∀ v ∈ xs, 0 ≤ v ∧ v ≤ 12 := fun v hv => by have := hx v hv; omega
  have y12 : ∀ v ∈ ys, 0 ≤ v ∧ v ≤ 12 := fun v hv => by have := hy v hv; omega
  have st12 : ∀ (zs : List Int) (w : Int), (∀ v ∈ zs, 0 ≤ v ∧ v ≤ 12) → 0 ≤ w → w ≤ 12 → ∀ v ∈ zs.set 0 w, 0 ≤ v ∧ v ≤ 12 := fun zs w h w0 w1 v hv => by
    rcases List.mem_or_eq_of_mem_set hv with z | rfl
    · exact h v z
    · exact ⟨w0, w1⟩
  by_cases z : xs = []
  · refine as_cons (as_set 6 q__law_stream.nd (ae_ifp (tp_cmp (v_ 3) (av_lst avs_nil szb) (cp_neL (ns := xs) (ms := []) (.lst 1 rfl) (.self _) hu)) (fun c => absurd z c) (fun _ => (v_ 5).val ?_)))
    refine as_cons (as_asg (ae_maxM B.max rfl ((av_ixSv (v_ 6) i_ (.c 0 rfl) (by decide) (by omega)).val (ae_bin ((v_ 1).val (ae_bin (i_.val (ae_g GD hr (by decide) (aa_cons ((v_ 0).val (aa_cons (i_.val (aa_nil (ak_nil ⟨rfl, p, i + 2, N2, 3, rfl, bx_get hi, by omega, by decide, by decide, fun e2 e0 e1 => bv_add (bv_mulI (.inl ⟨by omega, by omega⟩) ⟨_, _, rfl, rfl, ag_sub (n := 0) (jj := 0) (v_ 6) i_ rfl (by rw [List.length_map]; exact ixN_in (by decide) (by omega)) ?_⟩)⟩))))))))))))))
    rw [List.set_cons_succ, List.set_cons_succ, List.set_set]
    show aSs _ _ _ ((q2, .lst ((ys.map Val.int).set 0 _)) :: (q, .lst (xs.map .int)) :: M.set i (p, st6 p (N2 + 1))) _
    rw [setI]
    have a0 : at0 ys 0 = ys[0]'(by omega) := by show ys.getD 0 0 = _; rw [List.getD_eq_getElem?_getD, List.getElem?_eq_getElem (show 0 < ys.length by omega)]; rfl
    have a5 := hy (ys[0]'(by omega)) (List.getElem_mem _)
    have m3 : lo * (1 + e2) = 0 ∨ lo * (1 + e2) = 1 + e2 := by
      rcases (show lo = 0 ∨ lo = 1 by omega) with rfl | rfl
      · exact .inl (Int.zero_mul _)
      · exact .inr (Int.one_mul _)
    have mlo : lo ≤ lo * (1 + e2) := by
      rcases (show lo = 0 ∨ lo = 1 by omega) with rfl | rfl
      · rw [Int.zero_mul]; decide
      · rw [Int.one_mul]; omega
    refine fin xs _ (N2 + 1) (sr6 x12 (st12 ys _ y12 (by rw [a0]; omega) (by rw [a0]; omega)) (by omega) (by rw [List.length_set]; omega) (by rw [List.length_set]; omega) ?_) (by omega) rfl rfl
    subst z
    show lo ≤ item ([], ys.set 0 _) 0
    rw [item_ge (by exact Nat.le_refl _)]
    show lo ≤ lp (ys.set 0 _) 0
    rw [lp_lt (by rw [List.length_set]; omega), gd_eq (by rw [List.length_set]; omega), List.getElem_set_self]
    omega
  · have hx1 : 0 < xs.length := List.length_pos_iff.mpr z
    refine as_cons (as_set 6 q__law_stream.nd (ae_ifp (tp_cmp (v_ 3) (av_lst avs_nil szb) (cp_neL (ns := xs) (ms := []) (.lst 1 rfl) (.self _) hu)) (fun _ => (v_ 3).val ?_) (fun c => absurd z c)))
    refine as_cons (as_asg (ae_maxM B.max rfl ((av_ixSv (v_ 6) i_ (.c 1 rfl) (by decide) (by omega)).val (ae_bin ((v_ 1).val (ae_bin (i_.val (ae_g GD hr (by decide) (aa_cons ((v_ 0).val (aa_cons (i_.val (aa_nil (ak_nil ⟨rfl, p, i + 2, N2, 3, rfl, bx_get hi, by omega, by decide, by decide, fun e2 e0 e1 => bv_add (bv_mulI (.inl ⟨by omega, by omega⟩) ⟨_, _, rfl, rfl, ag_sub (n := 1) (jj := 0) (v_ 6) i_ rfl (by rw [List.length_map]; exact ixN_in (by decide) (by omega)) ?_⟩)⟩))))))))))))))
    show aSs _ _ _ ((q2, .lst (ys.map Val.int)) :: (q, .lst ((xs.map Val.int).set 0 _)) :: (M.set i (p, st6 p N2)).set i (p, st6 p (N2 + 1))) _
    rw [setI, List.set_set]
    have a0 : at0 xs 0 = xs[0]'(by omega) := by show xs.getD 0 0 = _; rw [List.getD_eq_getElem?_getD, List.getElem?_eq_getElem (show 0 < xs.length by omega)]; rfl
    have a5 := hx (xs[0]'(by omega)) (List.getElem_mem _)
    have m3 : lo * (1 + e2) = 0 ∨ lo * (1 + e2) = 1 + e2 := by
      rcases (show lo = 0 ∨ lo = 1 by omega) with rfl | rfl
      · exact .inl (Int.zero_mul _)
      · exact .inr (Int.one_mul _)
    have mlo : lo ≤ lo * (1 + e2) := by
      rcases (show lo = 0 ∨ lo = 1 by omega) with rfl | rfl
      · rw [Int.zero_mul]; decide
      · rw [Int.one_mul]; omega
    refine fin _ ys (N2 + 1) (sr6 (st12 xs _ x12 (by rw [a0]; omega) (by rw [a0]; omega)) y12 (by rw [List.length_set]; omega) (by omega) (by omega) ?_) (by omega) rfl rfl
    rw [item_lt (by rw [List.length_set]; exact hx1), gd_eq (by rw [List.length_set]; exact hx1), List.getElem_set_self]
    omega
abbrev GSr6 (P : Program) (w : World) (K : PySem.W.Frag) (mg : Str → Option Value) (base : Heap) : Prop := Gd P w K mg base 3 "_law_stream" [] fun ds _ => aSr6 ds
def aBg6 : ASp := fun ds M R => ∃ ns : List Int, ds = [.lst (ns.map .int)] ∧ ns.length ≤ 1000 ∧ ∀ p, R (.ptr p) ((p, st6 p 0) :: M)
theorem b__law_begun6 (B : Bt mg) : BodyOk P w K mg base k f n__law_begun "_law_begun" (defScope s__law_begun) (defBody s__law_begun) aBg6 := by
  rintro cdv A outer s0 H E hr ds M R ⟨ns, rfl, hl, hp⟩
  refine as_one (as_ret (ae_dict3 fun p => ap_cons s_ (v_ 0) (ap_cons s_ i_ (ap_consE s_ (ae_lcPC [("_law_part", 1)] (fun i => .int (if (10 : Int) ^ (18 : Int).toNat ≤ ns.getD i 0 then ns.getD i 0 else 0)) rfl q__law_begun.nd (blkOk_by (N := n__law_begun) (sc := defScope s__law_begun) (by decide +kernel)) (ai_lst (xs := ns.map .int) ((v_ 0).val ⟨rfl, rfl⟩)) ?_ (by rw [List.length_map]; omega) fun q => ⟨_, List.Perm.swap _ _ _, ap_nil ⟨_, rfl, Nat.le_of_ble_eq_true rfl, ?_⟩⟩)))))
  · intro i acc D hi s H C cl fp
    have hi : i < ns.length := by rw [List.length_map] at hi; exact hi
    have e : (ns.map Val.int).getD i .non = .int (ns.getD i 0) := by rw [List.getD_eq_getElem?_getD, List.getElem?_map, List.getElem?_eq_getElem hi, List.getD_eq_getElem?_getD, List.getElem?_eq_getElem hi]; rfl
    rw [e]
    generalize ns.getD i 0 = x
    refine agw_name 1 q__law_begun.nd fun s1 H1 C1 cl fp => ?_
    by_cases z : (10 : Int) ^ (18 : Int).toNat ≤ x
    · rw [if_pos z]
      exact ae_ifp (tp_cmp (v_ 1) (av_pow i_ i_ ⟨by decide, by decide, by decide⟩) cp_ge) (fun _ => (v_ 1).val ⟨rfl, rfl⟩) (fun c => absurd z c)
    · rw [if_neg z]
      exact ae_ifp (tp_cmp (v_ 1) (av_pow i_ i_ ⟨by decide, by decide, by decide⟩) cp_ge) (fun c => absurd c z) (fun _ => i_.val ⟨rfl, rfl⟩)
  · have e : (List.range (ns.map Val.int).length).map (fun i => Val.int (if (10 : Int) ^ (18 : Int).toNat ≤ ns.getD i 0 then ns.getD i 0 else 0)) = ((List.range (ns.map Val.int).length).map fun i => if (10 : Int) ^ (18 : Int).toNat ≤ ns.getD i 0 then ns.getD i 0 else 0).map .int := by rw [List.map_map]; rfl
    rw [e]
    exact Ret.cls (B := [(p, .dk (d6 ns q 0)), (q, .lst (((List.range (ns.map Val.int).length).map fun i => if (10 : Int) ^ (18 : Int).toNat ≤ ns.getD i 0 then ns.getD i 0 else 0).map .int))]) ⟨ns, _, q, 0, rfl, by rw [List.length_map, List.length_range, List.length_map], Int.le_refl _, Int.le_refl _⟩ List.mem_cons_self (.ok (hp p))
abbrev GBg6 (P : Program) (w : World) (K : PySem.W.Frag) (mg : Str → Option Value) (base : Heap) : Prop := Gd P w K mg base 1 "_law_begun" [] fun ds _ => aBg6 ds
end
end K43
namespace K43
open PySem L2 Ab Sm
/-! ### exceptions of one field -/
abbrev g1 (f : Str) (ds : List Val) : List (Str × Val) := [(f, ds.getD 0 .non)]
/-- what stands behind a class for its base's __init__ -/
structure XBase (K : PySem.W.Frag) (mg : Str → Option Value) (xb : Str) (initId : String) : Prop where
  ex : ∃ C0, ClX.CRead K C0 (.type "type") ∧ PySem.W.findCls K (.ref C0) (.type "type") "__init__" = some (.val (.builtin initId)) ∧ mg xb = some (.ref C0)
  hh : PySem.W.handedIn (.builtin initId) = true
end K43
/-! S22: texts of schedules: words read one by one, the machine that says which word is wrong -/
namespace Tx
open PySem TL Sm
def iS (i : Int) : Str := toString i
def dgs (w : Str) : Bool := (tl w).all fun c => decide (48 ≤ c) && decide (c ≤ 57)
/-- the number that a word denotes -/
def num? (w : Str) : Option Int :=
  if (tl w).length = 0 ∨ 7 < (tl w).length ∨ dgs w = false then none else if (tl w).head? = some 48 ∧ tl w ≠ [48] then none else some ((NumText.digitsVal (tl w) : Nat) : Int)
def rd (w : Str) (lo hi : Int) : Option Int := match num? w with
  | none => none
  | some n => if lo ≤ n ∧ n ≤ hi then some n else none
/-! ### the machine -/
inductive Pt
  | ar | b1 | f1 | l1 | b2 | f2 | l2 | en
  deriving DecidableEq
def Pt.str : Pt → Str
  | .ar => "arity" | .b1 => "bar" | .f1 => "front" | .l1 => "loop" | .b2 => "bars" | .f2 => "fronts" | .l2 => "loops" | .en => "end"
abbrev St := Pt × Nat × Int
def nm (w : Str) : Int := (num? w).getD (-1)
def step (st : St) (w : Str) : Option St :=
  if st.1 = .ar ∧ 2 ≤ nm w ∧ nm w ≤ 9 then some (.b1, st.2.1, 0)
  else if (st.1 = .b1 ∨ st.1 = .b2) ∧ w = "|" then some (if st.1 = .b2 then .f2 else .f1, 0, if st.1 = .b2 then 1 else 0)
  else if (st.1 = .f1 ∨ st.1 = .f2) ∧ (st.2.2 ≤ nm w ∧ nm w ≤ 1000000) ∧ 0 ≤ nm w ∧ st.2.1 < 12 then some (st.1, st.2.1 + 1, 0)
  else if (st.1 = .f1 ∨ st.1 = .f2) ∧ w = "(" then some (if st.1 = .f2 then .l2 else .l1, 0, st.2.2)
  else if (st.1 = .l1 ∨ st.1 = .l2) ∧ (st.2.2 ≤ nm w ∧ nm w ≤ 1000000) ∧ 0 ≤ nm w ∧ st.2.1 < 6 then some (st.1, st.2.1 + 1, 0)
  else if (st.1 = .l1 ∨ st.1 = .l2) ∧ w = ")" ∧ 0 < st.2.1 then some (if st.1 = .l2 then .en else .b2, st.2.1, st.2.2)
  else none
def fP (x : Bool) : Pt := if x then .f2 else .f1
theorem step_item (x : Bool) {m : Nat} {lw n : Int} {w : Str} (hn : nm w = n) (h1 : lw ≤ n) (h2 : n ≤ 1000000) (h0 : 0 ≤ n) (hm : m < 12) : step (fP x, m, lw) w = some (fP x, m + 1, 0) := by
  cases x <;> (unfold step; simp [fP, hn, h1, h2, h0, hm])
/-! ### what is read -/
/-! ### texts read back -/
theorem numL_head {n : Nat} (h : (numL n).head? = some 48) : n = 0 := by
  induction n using Nat.strongRecOn with
  | _ n ih =>
    by_cases hn : n < 10
    · rw [numL_lt hn] at h
      simp at h
      omega
    · rw [numL_step (by omega)] at h
      have hne := numL_ne (n / 10)
      cases hl : numL (n / 10) with
      | nil => exact absurd hl hne
      | cons c l =>
        rw [hl] at h
        have : (numL (n / 10)).head? = some 48 := by rw [hl]; exact h
        have := ih (n / 10) (by omega) this
        omega
theorem tl_iS (n : Nat) : tl (iS (n : Int)) = numL n := tl_num n
theorem num_iS {v : Int} (h0 : 0 ≤ v) (h1 : v ≤ 1000000) : num? (iS v) = some v := by
  obtain ⟨n, rfl⟩ := Int.eq_ofNat_of_zero_le h0
  have hl := numL_len (n := n) (k := 7) (by decide) (by show n < 10000000; omega)
  have hne := numL_ne n
  have hd : dgs (iS (n : Int)) = true := by
    unfold dgs
    rw [tl_iS, List.all_eq_true]
    intro c hc
    have := numL_digits n c hc
    simp
    omega
  unfold num?
  rw [tl_iS, if_neg, if_neg, numL_val]
  · rintro ⟨a, b⟩
    have := numL_head a
    subst this
    exact b (numL_lt (by decide))
  · rintro (a | a | a)
    · exact hne (List.length_eq_zero_iff.mp a)
    · omega
    · rw [hd] at a
      cases a
theorem iS_ne {v : Int} (h0 : 0 ≤ v) (h1 : v ≤ 1000000) {w : Str} (hw : num? w = none) : iS v ≠ w := fun e => by
  have := num_iS h0 h1
  rw [e, hw] at this
  cases this
/-! ### the text of a schedule is its words joined -/
end Tx
/-! Ab86: texts: a sign in a text, a text under a global name, bool comprehensions -/
namespace Ab
open PySem PySem.Spec PyProof.Rows L2
end Ab
/-! Ab87: isinstance of values whose kind is told by their representation (dicts too); split texts: how long -/
namespace Ab
open PySem PySem.Spec PyProof.Rows L2
end Ab
namespace K43
open PySem L2 Ab Sm Tx
/-! ### InvalidText -/
abbrev g2V (f1 f2 : Str) (ws : List V) : List (Str × V) := [(f2, ws.getD 1 .non), (f1, ws.getD 0 .non)]
abbrev g2 (f1 f2 : Str) (ds : List Val) : List (Str × Val) := [(f2, ds.getD 1 .non), (f1, ds.getD 0 .non)]
theorem g2_rel {K : PySem.W.Frag} {f1 f2 : Str} : ∀ H ds vs, RepA K H ds vs → ds.length = 2 → RepF K H (g2 f1 f2 ds) (g2V f1 f2 vs)
  | H, [d, e], _, .cons r (.cons r2 .nil), _ => .cons r2 (.cons r .nil)
end K43
/-! Ab106: xs.clear() -/
namespace Ab
open PySem PySem.Spec PyProof.Rows L2 PyProof
end Ab
/-! Ab107: a for over a generator whose suite may raise -/
namespace Ab
open PySem PySem.Spec PyProof.Rows L2 GenW
open Sem (wp)
theorem wpAny_gtw {α : Type} {M : Model} {A : Around} {t : Sem α} {Q : α → Shared → Prop} {E : Value → Shared → Prop} {s : Shared} {g : Array GenState} (h : wpAny M A t Q E { s with gens := g }) (hg : GTw g s.gens) :
    wpAny M A t (fun a s' => ∃ g', Q a { s' with gens := g' } ∧ GTw g' s'.gens) (fun a s' => ∃ g', E a { s' with gens := g' } ∧ GTw g' s'.gens) s := by
  intro Γ p hΓ
  refine Sem.wp_mono M Γ t ?_ ?_ p s (wp_tw M Γ g s.gens t _ _ p { s with gens := g } s.gens hg (.refl _ _) (h Γ p hΓ))
  · rintro a p' s' ⟨g', h1, h2, h3⟩
    exact ⟨g', h1, h2⟩
  · rintro a p' s' ⟨g', h1, h2, h3⟩
    exact ⟨g', h1, h2⟩
theorem cx_gens {P : Program} {w : World} {outer : List Env} {H : Hp} {s : Shared} {E : XK} {u : Value} {s' : Shared} {g : Array GenState} (h : L2.CX P w outer H s E u { s' with gens := g }) (hg : GTw g s'.gens) : L2.CX P w outer H s E u s' := by
  obtain ⟨a, B, H', cls, d, rfl, fl, hok, ub, na, os, ag, hE⟩ := h
  exact ⟨a, B, H', cls, d, rfl, fl, hok, ub, na, os, bare_r hg ag, hE⟩
section
variable {X : Cx} {Γ : Gam} {M : Mem} {k : AK} {pos : Pos}
theorem ys_forGN {ex : XG} {τ : Type} {Tr : τ → Mem → Hnd τ → Prop} {tg iter : Expr} {body : List Stmt} {kk : Nat} (hr : Rm (kk + 1) X.A)
    (hi : aGn X iter Γ M kk Tr fun x M1 => ∃ (J : Nat → τ → Gam → Mem → Prop) (n : Nat), J n x Γ M1 ∧ ∀ n x Γ M, J n x Γ M → 0 < n ∧ Tr x M fun r M' => match r with
      | none => k.nx Γ M'
      | some (d, x') => aG X tg d Γ M' fun Γ2 M2 => ySs X body Γ2 M2 { k with nx := J (n - 1) x', ct := J (n - 1) x', bk := k.nx } ex)
    (hxe : ∀ e s g, X.xe e { s with gens := g } → GTw g s.gens → X.xe e s)
    (hf : ∀ x, foldedSetIterable iter X.env x = pure x := by intro _; rfl) : yS X (.For tg iter body [] pos) Γ M k ex := fun Wx tk po Hi H σ ok en D q y => by
  refine ws_of fun pins s I => ?_
  refine wpAny_For (thn (hi Hi H σ ok en pins s I) fun v s1 h1 => ?_) hf
  obtain ⟨x, M1, Hi1, H1, sc, ⟨J, n0, hJ0, hJ⟩, sm1, ok1, Ic, I1, kp, N, qual, scp, f, cdv, gp, g, c, ow0, nm, qn, rfl, hgc, hgd, hgs, hfresh, how, hgp, hA⟩ := h1
  have isg : ∀ {h : Heap}, h.get? gp.1 = some gp.2 → h.IsGen gp.1 g := fun e => ⟨gp.2, nm, qn, e, hgc, hgd, hgs⟩
  refine wpAny_pyIter_gen (isg (how gp hgp).1) ?_
  -- the wish of a wake
  let hnd : Nat → Gam → Hnd τ := fun n Γ r M' => match r with
    | none => k.nx Γ M'
    | some (d, x') => aG X tg d Γ M' fun Γ2 M2 => ySs X body Γ2 M2 { k with nx := J (n - 1) x', ct := J (n - 1) x', bk := k.nx } ex
  let Th : Nat → Wkg τ → Shared → Prop := fun n W s => ∃ σ Γ, Inv X pins σ W.H s ∧ EnvR X.K W.Hi Γ σ ∧ Same Hi W.Hi ∧ W.R = hnd n Γ
  obtain ⟨gok, hwake⟩ := hA X.A.in1 Th hr.in1 I1.ok.frames
  let G : GX τ := GX.mk X.prog X.w X.K X.mg X.base N qual scp f cdv X.A.in1 X.stack sc.heap.objs.size gp Tr Th
  have hap0 : ∀ (ow : Own), ∀ p ∈ ([] : List (Addr × Obj)), ∀ q ∈ ow, p.1 ≠ q.1 := fun _ p hp => absurd hp (by simp)
  refine codeAny_forLoop_any (fun n s' => ∃ (x : τ) (Γ' : Gam) (M' : Mem) (σ' : L2.St) (H' Hi' : Hp) (ow : Own) (gs : GenState), s'.gens[g]? = some gs ∧ Inv X pins σ' H' s' ∧ Ok X.K Hi' M' H' ∧ Same Hi Hi' ∧ EnvR X.K Hi' Γ' σ' ∧ J n x Γ' M' ∧ OwOk G ow H' s' ∧
    ∀ (W : Wkg τ) (s2 : Shared), Woke G n W s2 → W.x = x → Same Hi' W.Hi → OwOk G ow W.H s2 → (∀ p ∈ W.pn, ∀ q ∈ ow, p.1 ≠ q.1) → gs.Goes (model X.prog X.w) X.A.in1 (RG G) (YG G) n (.send .none) s2) ?_ n0
    ⟨x, Γ, M1, σ, H1, Hi1, ow0, _, hfresh, I1, ok1, sm1, en.mono sm1, hJ0, ⟨fun p hp => (how p hp).1, fun p hp => (how p hp).2.1, fun p hp => (how p hp).2.2, hgp⟩, fun W s2 wk hx sm ow hap => ⟨rfl, hwake n0 W s2 wk hx sm ow hap⟩⟩
  rintro n s' ⟨x, Γ', M', σ', H', Hi', ow, gs, hg, I', ok', sm', en', hJn, how, hsl⟩
  obtain ⟨hpos, htr⟩ := hJ n x Γ' M' hJn
  obtain ⟨m, rfl⟩ : ∃ m, n = m + 1 := ⟨n - 1, by omega⟩
  have egp : s'.heap.get? gp.1 = some gp.2 := how.at_ gp how.gp
  have hbare : AllBare (s'.setGen g .running).gens := allBare_setGen I'.bare rfl
  have I2 : Inv X pins σ' H' (s'.setGen g .running) := inv_gens I' hbare
  have wk : Woke G (m + 1) ⟨x, Hi', H', M', hnd (m + 1) Γ', []⟩ (s'.setGen g .running) :=
    { th := ⟨σ', Γ', I2, en', sm', rfl⟩, pos := hpos, tr := htr, ok := ok', le := Nat.le_of_lt (Nat.lt_trans gok.gpB (Heap.lt_size egp)), bs := I2.bs, funs := I2.stack, frf := I2.stkFree, hok := I2.hok, bare := hbare, pn := fun p hp => absurd hp (by simp) }
  have goes := hsl _ _ wk rfl (Same.refl _) ⟨how.at_, how.no, how.ab, how.gp⟩ (hap0 ow)
  have hgl : g + 1 ≤ s'.gens.size := (Array.getElem?_eq_some_iff.mp hg).1
  refine wpAny_passesOwn po (wpAny_gsz (n := g + 1) hgl (next_S (F := EG G) hr.room.hd I'.nolimit hr.room.depth (isg egp) hg goes ?_ ?_))
  · intro v s3 k0 l0 c0 p0 f0 b0 hb hY hsz
    obtain ⟨W3, d, x', vv, M3, Hi3, H3, ow3, ⟨σ3, Γ3, I3, en3, sm3, hR3⟩, hR, rv, rep, seen, how3, _, hk⟩ := hY
    have hR : hnd (m + 1) Γ3 (some (d, x')) M3 := hR3 ▸ hR
    have I4 : Inv X pins σ3 H3 s3 := inv_ran Ic (G := G) rfl rfl rfl rfl I3 seen
    have b4 : AllBare (s3.setGen g (.suspended k0 l0 c0 p0 f0 b0)).gens := allBare_setGen I4.bare hb
    have szg : g < s3.gens.size := by
      rw [setGen_size] at hsz
      exact hsz
    have g4 : (s3.setGen g (.suspended k0 l0 c0 p0 f0 b0)).gens[g]? = some (.suspended k0 l0 c0 p0 f0 b0) := setGen_at szg
    have n3 : ∀ p ∈ ow3, H3 p.1 = none ∧ s3.heap.get? p.1 = some p.2 := fun p hp => ⟨how3.no p hp, how3.at_ p hp⟩
    have ni3 : ∀ p ∈ ow3, Hi3 p.1 = none := fun p hp => seen.ok.none (how3.no p hp)
    have I5 : Inv X pins σ3 (trk ow3 H3) (s3.setGen g (.suspended k0 l0 c0 p0 f0 b0)) := inv_trk (inv_gens I4 b4) n3 fun p hp => aw_of Ic (how3.ab p hp)
    have ok5 : Ok X.K (trk ow3 Hi3) M3 (trk ow3 H3) := ok_trk seen.ok how3.no
    have sm5 : Same W3.Hi (trk ow3 Hi3) := seen.sm.trans (same_trk ni3)
    refine wpAny_passesOwn po (go_of (o := gp.2) (how3.at_ gp how3.gp) hgc hgd (by decide) ?_)
    -- the target
    obtain ⟨tgt, pg, htg⟩ := hR (trk ow3 Hi3) (trk ow3 H3) σ3 vv ok5 (en3.mono sm5) (rep.mono (same_trk ni3)) (fun σ6 H6 => ∃ Γ6 M6 Hi6, ySs X body Γ6 M6 { k with nx := J m x', ct := J m x', bk := k.nx } ex ∧ Same (trk ow3 Hi3) Hi6 ∧ Ok X.K Hi6 M6 H6 ∧ EnvR X.K Hi6 Γ6 σ6)
      (fun Γ6 M6 σ6 Hi6 H6 h6 s6 o6 e6 => ⟨Γ6, M6, Hi6, h6, s6, o6, e6⟩)
    refine wpAny_passesOwn po (wpAny_mono (wpAny_slept (pg.run pins { s3.setGen g (.suspended k0 l0 c0 p0 f0 b0) with gens := twA (s3.setGen g (.suspended k0 l0 c0 p0 f0 b0)).gens } σ3 (trk ow3 H3) vv v _ (inv_gens I5 (bare_l (gtw_map _) b4)) rv htg)) (fun _ s6 h6 => ?_) fun e s6 ⟨g6, h6, tw6, _⟩ => ?_)
    · obtain ⟨g6, ⟨σ6, H6, I6, Γ6, M6, Hi6, hb6, sm6, ok6, en6⟩, tw6, st6⟩ := h6
      have b6 : AllBare s6.gens := bare_r tw6 I6.bare
      have I6' : Inv X pins σ6 H6 s6 := inv_gens (s := { s6 with gens := g6 }) (g := s6.gens) I6 b6
      have g6' := st6 g _ _ _ _ _ _ g4
      obtain ⟨tb, pb, htb⟩ := hb6 Wx tk po Hi6 H6 σ6 ok6 en6 _ gD_real (y.up ((sm3.trans sm5).trans sm6))
      refine wpAny_passesOwn po (wpAny_mono (wpAny_slept (pb.run pins { s6 with gens := twA s6.gens } σ6 H6 _ (inv_gens I6' (bare_l (gtw_map _) b6)) htb)) (fun fl s7 h7 => ?_) fun e s7 ⟨g7, h7, tw7, _⟩ => ?_)
      · obtain ⟨g7, sp7, tw7, st7⟩ := h7
        have smx : Same Hi Hi6 := (sm3.trans sm5).trans sm6
        have fin : ∀ {σ8 : L2.St} {H8 Hi8 : Hp} {Γ8 : Gam} {M8 : Mem}, Inv X pins σ8 H8 { s7 with gens := g7 } → J m x' Γ8 M8 → Same Hi6 Hi8 → Ok X.K Hi8 M8 H8 → EnvR X.K Hi8 Γ8 σ8 → ∃ m', m' < m + 1 ∧ ∃ (x : τ) (Γ' : Gam) (M' : Mem) (σ' : L2.St) (H' Hi' : Hp) (ow : Own) (gs : GenState), s7.gens[g]? = some gs ∧ Inv X pins σ' H' s7 ∧ Ok X.K Hi' M' H' ∧ Same Hi Hi' ∧ EnvR X.K Hi' Γ' σ' ∧ J m' x Γ' M' ∧ OwOk G ow H' s7 ∧
            ∀ (W : Wkg τ) (s2 : Shared), Woke G m' W s2 → W.x = x → Same Hi' W.Hi → OwOk G ow W.H s2 → (∀ p ∈ W.pn, ∀ q ∈ ow, p.1 ≠ q.1) → gs.Goes (model X.prog X.w) X.A.in1 (RG G) (YG G) m' (.send .none) s2 := fun {σ8 H8 Hi8 Γ8 M8} I8 hJ8 sm8 ok8 en8 => by
          have b8 : AllBare s7.gens := bare_r tw7 I8.bare
          have I8' : Inv X pins σ8 H8 s7 := inv_gens (s := { s7 with gens := g7 }) (g := s7.gens) I8 b8
          have smt : Same (trk ow3 Hi3) Hi8 := sm6.trans sm8
          have raw : ∀ p ∈ ow3, Hi8 p.1 = some (rawH p.1 p.2) := fun p hp => by
            obtain ⟨o', e'⟩ := look_some (List.mem_map.mpr ⟨p, hp, rfl⟩)
            have e1 := (n3 (p.1, o') (look_mem e')).2
            have e2 := (n3 p hp).2
            have e3 : o' = p.2 := by
              have e1 : s3.heap.get? p.1 = some o' := e1
              rw [e2] at e1
              exact (Option.some.inj e1).symm
            rw [← e3]
            exact smt _ _ (trk_in e')
          have rawH8 : ∀ p ∈ ow3, H8 p.1 = some (rawH p.1 p.2) := fun p hp => ok8.im _ _ (raw p hp)
          have smu : Same Hi3 (unt ow3 Hi8) := same_unt ni3 smt
          refine ⟨m, Nat.lt_succ_self _, x', Γ8, M8, σ8, unt ow3 H8, unt ow3 Hi8, ow3, _, st7 g _ _ _ _ _ _ g6', inv_unt I8' fun p hp => ⟨_, rawH8 p hp⟩, ok_unt ok8 fun p hp => ⟨_, raw p hp⟩, (sm3.trans seen.sm).trans smu, en8.kp (kp_unt fun p hp => ⟨_, raw p hp⟩), hJ8,
            ⟨fun p hp => hok_raw I8'.hok (rawH8 p hp), fun p hp => unt_none p hp, how3.ab, how3.gp⟩, fun W s2 wk hx sm ow hap => hk W s2 wk hx (smu.trans sm) ow hap⟩
        have up : ∀ {σ8 : L2.St} {H8 : Hp}, Inv X pins σ8 H8 { s7 with gens := g7 } → Inv X pins σ8 H8 s7 := fun I8 => inv_gens (s := { s7 with gens := g7 }) (g := s7.gens) I8 (bare_r tw7 I8.bare)
        cases fl with
        | next =>
          obtain ⟨σ8, H8, I8, Γ8, M8, Hi8, hJ8, sm8, ok8, en8⟩ := sp7
          exact fin I8 hJ8 sm8 ok8 en8
        | cont =>
          obtain ⟨σ8, H8, I8, Γ8, M8, Hi8, hJ8, sm8, ok8, en8⟩ := sp7
          exact fin I8 hJ8 sm8 ok8 en8
        | brk =>
          obtain ⟨σ8, H8, I8, Γ8, M8, Hi8, h8, sm8, ok8, en8⟩ := sp7
          exact ⟨σ8, H8, up I8, q.nx Γ8 M8 σ8 Hi8 H8 h8 (smx.trans sm8) ok8 en8⟩
        | ret u =>
          obtain ⟨v8, σ8, H8, I8, rv8, d8, M8, Hi8, h8, sm8, ok8, r8⟩ := sp7
          exact ⟨v8, σ8, H8, up I8, rv8, q.rt d8 M8 v8 Hi8 H8 h8 (smx.trans sm8) ok8 r8⟩
      · exact hxe e s7 g7 h7 tw7
    · exact hxe e s6 g6 h6 tw6
  · intro s3 hE h' hk _
    obtain ⟨W3, M3, Hi3, H3, ⟨σ3, Γ3, I3, en3, sm3, hR3⟩, hR, seen⟩ := hE
    have hR : hnd (m + 1) Γ3 none M3 := hR3 ▸ hR
    have I4 : Inv X pins σ3 H3 s3 := inv_ran Ic (G := G) rfl rfl rfl rfl I3 seen
    have I5 : Inv X pins σ3 H3 { s3 with heap := h' } := I4.kept (t' := s3.toks) hk
    have I6 : Inv X pins σ3 H3 { s3.setGen g .finished with heap := h' } := inv_gens I5 (allBare_setGen I4.bare rfl)
    exact wpAny_execs_nil ⟨σ3, H3, I6, q.nx Γ3 M3 σ3 Hi3 H3 hR (sm3.trans seen.sm) seen.ok (en3.mono seen.sm)⟩
theorem ex_gens {P : Program} {w : World} {K : PySem.W.Frag} {mg : Str → Option Value} {base : Heap} {N : List Str} {qual : Str} {sc : Scope} {f : Addr} {cdv : Value} {A : Around} {outer : List Env} {s : Shared} {H : Hp} {E : XK} :
    ∀ e s' g, (ecx P w K mg base N qual sc f cdv A outer s H E).xe e { s' with gens := g } → GTw g s'.gens → (ecx P w K mg base N qual sc f cdv A outer s H E).xe e s' := fun e s' g h hg => by
  exact wpAny_mono (wpAny_gtw h hg) (fun _ s'' ⟨g', hq, hg'⟩ => cx_gens hq hg') fun e2 s'' ⟨g', hq, hg'⟩ => cx_gens hq hg'
/-- .. slots are forgotten -/
theorem ys_forGNW {ex : XG} {m : Nat} {τ : Type} {Tr : τ → Mem → Hnd τ → Prop} {tg iter : Expr} {body : List Stmt} {kk : Nat} (hr : Rm m X.A) (hm : kk + 1 ≤ m)
    (hi : aGn X iter Γ M kk Tr fun x M1 => ∃ (J : Nat → τ → Gam → Mem → Prop) (n : Nat), (∃ Γ0, J n x Γ0 M1 ∧ Le Γ0 Γ) ∧ ∀ n x Γ0 Γ M, Le Γ0 Γ → J n x Γ0 M → 0 < n ∧ Tr x M fun r M' => match r with
      | none => k.nx Γ M'
      | some (d, x') => aG X tg d Γ M' fun Γ2 M2 => ySs X body Γ2 M2 { k with nx := fun Γ' M' => ∃ Γ1, J (n - 1) x' Γ1 M' ∧ Le Γ1 Γ', ct := fun Γ' M' => ∃ Γ1, J (n - 1) x' Γ1 M' ∧ Le Γ1 Γ', bk := k.nx } ex)
    (hxe : ∀ e s g, X.xe e { s with gens := g } → GTw g s.gens → X.xe e s)
    (hf : ∀ x, foldedSetIterable iter X.env x = pure x := by intro _; rfl) : yS X (.For tg iter body [] pos) Γ M k ex :=
  ys_forGN (hr.mono hm) (fun Hi H σ ok en pins s I => thn (hi Hi H σ ok en pins s I) fun u s' ⟨x, M1, Hi1, H1, s1, ⟨J, n, h0, hs⟩, r⟩ => ⟨x, M1, Hi1, H1, s1, ⟨fun n x Γ M => ∃ Γ0, J n x Γ0 M ∧ Le Γ0 Γ, n, h0, fun n x Γ M ⟨Γ0, h, l⟩ => hs n x Γ0 Γ M l h⟩, r⟩) hxe hf
end
end Ab
/-! Ab100: arguments that may raise; calls with such arguments -/
namespace Ab
open PySem PySem.Spec PyProof.Rows L2
end Ab
/-! Ab108: C(..) whose __init__ may raise -/
namespace Ab
open PySem PySem.Spec PyProof.Rows L2
section
variable {X : Cx} {Γ : Gam} {M : Mem} {P : Val → Mem → Prop} {PE : XP} {e o : Expr} {es : List Expr} {kws : List Keyword} {pos p1 apos : Pos} {x m : Str} {n q : Nat} {f C : Addr} {ks : List Str} {sx : ASxe} {W : WX}
theorem run_mkE {pins : List (Addr × Obj)} {σ : L2.St} {H : Hp} {s : Shared} {Q : VK} {us ws : List Value} {vs zs : List V} {sp : List V → List V → Hp → VK → XK → Prop} (tk : Takes X W) (Mk_ : Mk X.K C f) (F : FnE X.prog X.w X.K X.mg X.base n f ks sp) (hr : Rm (n + 1) X.A)
    (I : Inv X pins σ H s) (r : Vals vs us) (rz : Vals zs ws) (l2 : zs.length = ks.length)
    (h : ∀ x dx, H x = none → H dx = none → dx ≠ x → sp (.ref x :: vs) zs (upd (upd H dx (.own x)) x (.ins C dx [])) (fun v H2 => v = .non ∧ Q (.ref x) H2) fun cls d H' => W cls d σ H') :
    wpAny (model X.prog X.w) X.A (call (.ref C) us (ks.zip ws)) (EP X pins σ Q) X.xe s := by
  have hq := h (s.heap.objs.size + 1) s.heap.objs.size (I.hok.fresh (Nat.le_succ _)) (I.hok.fresh (Nat.le_refl _)) (Nat.ne_of_lt (Nat.lt_succ_self _))
  have I2 := Inv.made (C := C) I
  have r1 : Vals (V.ref (s.heap.objs.size + 1) :: vs) (Value.ref (s.heap.objs.size + 1) :: us) := .cons rfl r
  refine wpAny_call (make_map (f := f) I.kIn Mk_.makes Mk_.init (beq_iff_eq.mp Mk_.fn) (codeAny_mono (F.run _ X.stack _ _ (Value.ref (s.heap.objs.size + 1) :: us) ws _ zs _ _ (hr.make C us (ks.zip ws))
    (I2.env0.make C us (ks.zip ws)) r1 rz l2 hq) fun r s' hq' => ?_))
  cases r with
  | error e => exact tk e s' (XE.of_call I2 (fun _ _ _ z => z) hq')
  | ok fl =>
    cases fl with
    | ret u =>
      obtain ⟨v, H', I3, rv, ev, q3⟩ := I2.after hq'
      subst ev
      exact ⟨rv, ⟨V.ref (s.heap.objs.size + 1), H', I3, rfl, q3⟩⟩
    | next => exact False.elim hq'
    | brk => exact False.elim hq'
    | cont => exact False.elim hq'
theorem ye_make (Mk_ : Mk X.K C f) (F : FnE X.prog X.w X.K X.mg X.base n f ks (spE X.K sx)) (hr : Rm (n + 1) X.A) (hm : X.mg x = some (.ref C))
    (h : aA X (e :: es) Γ M fun ds M1 => aKw X kws Γ M1 fun zs M2 => zs.length = ks.length ∧ ∀ p, p ∉ M2.map (·.1) → sx (.ptr p :: ds) zs ((p, .ins C []) :: M2) (fun v M3 => v = .non ∧ P (.ptr p) M3) PE)
    (hg : Gl X x := by rfl) (hall : (backToKw pos (keywordEach kws X.env)).all (·.1.isSome) = true := by rfl) (hks : (backToKw pos (keywordEach kws X.env)).filterMap (·.1) = ks := by rfl) (hdb : (x == ("__debug__" : Str)) = false := by decide)
    (he : starEach (e :: es) X.env = (false, eval e X.env) :: starEach es X.env := by rfl) (hpl : ((backTo pos (starEach (e :: es) X.env)).any (·.1) || (backToKw pos (keywordEach kws X.env)).any (·.1.isNone)) = false := by rfl) : yE X (.Call (.Name x p1) (e :: es) kws pos) Γ M P PE := fun W tk po Hi H σ ok en Q q y => by
  refine ⟨fun σ H Q => WA X (e :: es) σ H fun vs H1 => WK X kws σ H1 fun zs H2 => zs.length = ks.length ∧ ∀ x dx, H2 x = none → H2 dx = none → dx ≠ x → spE X.K sx (.ref x :: vs) zs (upd (upd H2 dx (.own x)) x (.ins C dx [])) (fun v H3 => v = .non ∧ Q (.ref x) H3) fun cls d H' => W cls d σ H', ⟨fun pins s σ H Q I h => ?_⟩, ?_⟩
  · refine wpAny_Call_Name_kw (ld_glob I hg hm ?_ hdb)
    refine PySem.W.callWith_KW (h₀ := X.base) I.ok.mod.kin Mk_.kp hall (thn (pa_wa.run pos pins s σ H _ I h) fun us s1 ⟨vs, H1, I1, r, q⟩ => ?_) hpl he
    refine thn (pk_wk.run pos pins s1 σ H1 _ I1 q) fun ws s2 ⟨zs, H2, I2, rz, l2, q2⟩ => ⟨I2.kIn, ?_⟩
    rw [hks]
    exact run_mkE tk Mk_ F hr I2 r rz l2 q2
  · refine h Hi H σ ok en _ fun ds M1 vs Hi1 H1 h1 s1 ok1 r1 => ?_
    refine h1 Hi1 H1 σ ok1 (en.mono s1) _ fun zs M2 ws Hi2 H2 h2 s2 ok2 r2 => ?_
    refine ⟨r2.length.symm.trans h2.1, fun x dx hx hdx hne => ?_⟩
    have s3 := same_upd (o := .own x) (ok2.none hdx)
    have ok3 : Ok X.K (upd Hi2 dx (.own x)) M2 (upd H2 dx (.own x)) := ok2.imm hdx
    have hx3 : upd H2 dx (.own x) x = none := by rw [upd_ne hne.symm]; exact hx
    refine ⟨_, (x, .ins C []) :: M2, .ptr x :: ds, zs, _, PE, .cons (.ptr x) (r1.mono (s2.trans s3)), r2.mono s3, ok3.new hx3 ⟨dx, [], rfl, .nil⟩, h2.2 x (ok2.fresh hx), ?_, y.up ((s1.trans s2).trans s3)⟩
    rintro d M4 v Hi4 H4 ⟨rfl, hp⟩ s4 ok4 r4
    cases r4
    exact ⟨rfl, q _ _ _ Hi4 H4 hp (((s1.trans s2).trans s3).trans s4) ok4 (.ptr x)⟩
/-- the instance's fields will change no more -/
theorem ye_frzO (h : yE X e Γ M (fun d M' => ∃ p C fs M'', d = .ptr p ∧ M' = (p, .ins C fs) :: M'' ∧ P (.obj C fs) M'') PE) : yE X e Γ M P PE := fun W tk po Hi H σ ok en Q q y => by
  refine h W tk po Hi H σ ok en Q ?_ y
  rintro d M1 v Hi1 H1 ⟨p, C, fs, M2, rfl, rfl, hp⟩ s1 ok1 r1
  obtain ⟨e0, o, ho, dx, gs, rfl, ra⟩ := ok1.ce p _ List.mem_cons_self
  cases r1
  have s2 := same_upd (o := .ins C dx gs) e0
  exact q _ _ _ _ _ hp (s1.trans s2) (ok1.freeze ho) (.obj upd_same (ra.mono s2))
end
end Ab
/-! Ab90: zip of two lists walked; list(zip(xs, ys)); sum, min, max of tuples -/
namespace Ab
open PySem PySem.Spec PyProof.Rows L2
open Sem (wp)
/-! ### for .. in zip(xs, ys) -/
section
variable {X : Cx} {Γ : Gam} {M : Mem} {a b : Expr} {p1 pos : Pos}
theorem ai_zipL {elts : List Expr} {kk : Nat} {tpos : Pos} {R : Mem → Prop} {xs ys : List Val} (hm : X.mg "zip" = none) (ha : aA X [a, b] Γ M fun ds M' => ds = [.lst xs, .lst ys] ∧ R M') (hg : Gl X "zip" := by rfl)
    (hs : starEach [a, b] X.env = (false, eval a X.env) :: starEach [b] X.env := by rfl) (hpl : (backTo pos (starEach [b] X.env)).any (·.1) = false := by rfl) :
    aI X (.Tuple elts kk tpos) (.Call (.Name "zip" p1) [a, b] [] pos) Γ M (min xs.length ys.length) (fun i => .tup [xs.getD i .non, ys.getD i .non]) (fun _ => True) R := fun Hi H σ ok en R' q => by
  refine ⟨_, RZ.pi_zipA hg hm pa_wa hs hpl, ?_⟩
  refine ha Hi H σ ok en _ fun ds M1 vs Hi1 H1 h1 s1 ok1 r1 => ?_
  obtain ⟨rfl, hp⟩ := h1
  cases r1 with
  | cons ra r1 =>
    cases r1 with
    | cons rb r1 =>
      cases r1
      cases ra with
      | @lst p zs _ hq1 ra =>
        cases rb with
        | @lst p' zs' _ hq2 rb =>
          refine ⟨p, p', zs, zs', rfl, .inl ⟨ok1.im.seq hq1, ok1.im.seq hq2, q _ M1 Hi1 H1 hp s1 ok1 ?_⟩⟩
          rw [ra.length, rb.length]
          refine (walk_zip rfl).mono (fun H' hG => ?_) fun i H' v H'' hi hG hy Hi' M' s2 ok2 _ => ?_
          · obtain ⟨Hi', M', s2, ok2, _⟩ := hG
            exact ⟨ok2.im.seq (s2.seq hq1), ok2.im.seq (s2.seq hq2)⟩
          · obtain ⟨T, x, y, rfl, hT, rfl, hx, hy⟩ := hy
            have s3 := same_upd (o := .tup [x, y]) (ok2.none hT)
            exact ⟨_, s3, ok2.imm hT, .tup (SqT.of upd_same) (.cons ((Sq.at ra hx).mono (s2.trans s3)) (.cons ((Sq.at rb hy).mono (s2.trans s3)) .nil))⟩
end
/-! ### list(zip(xs, ys)) -/
section
variable {prog : Program} {w : World} {A : Around} {E : Value → Shared → Prop} {s : Shared} {S z TI TO i1 i2 l1 l2 : Addr}
/-- how the zip's things stand when i pairs have been given out -/
structure ZSt (S z TI TO i1 i2 l1 l2 : Addr) (i : Nat) (h : Heap) : Prop where
  ti : IsPair h TI (.ref i1) (.ref i2)
  j1 : h.IsListIter i1 l1 i
  j2 : h.IsListIter i2 l2 i
  zz : (IsZip h z TI TO .none ∧ ∃ a b, IsPair h TO a b) ∨ ∃ T f oT, IsZipHeld h z TI TO T f ∧ h.get? T = some oT ∧ S < T
/-- the list is younger than the zip -/
structure ZLow (S z TI TO i1 i2 : Addr) : Prop where
  z : z < S
  TI : TI < S
  TO : TO < S
  i1 : i1 < S
  i2 : i2 < S
theorem ZSt.keep {i : Nat} {h h' : Heap} (st : ZSt S z TI TO i1 i2 l1 l2 i h) (L : ZLow S z TI TO i1 i2) (k : ∀ b o, b ≠ S → h.get? b = some o → h'.get? b = some o) : ZSt S z TI TO i1 i2 l1 l2 i h' where
  ti := k _ _ (Nat.ne_of_lt L.TI) st.ti
  j1 := st.j1.at fun o e => k _ o (Nat.ne_of_lt L.i1) e
  j2 := st.j2.at fun o e => k _ o (Nat.ne_of_lt L.i2) e
  zz := by
    rcases st.zz with ⟨h1, a, b, h2⟩ | ⟨T, f, oT, h1, h2, h3⟩
    · exact .inl ⟨k _ _ (Nat.ne_of_lt L.z) h1, a, b, k _ _ (Nat.ne_of_lt L.TO) h2⟩
    · exact .inr ⟨T, f, oT, k _ _ (Nat.ne_of_lt L.z) h1, k _ _ (Nat.ne_of_gt h3) h2, h3⟩
/-- the pairs laid -/
structure ZPr (xs ys : Array Value) (lo : Addr) (h : Heap) (as : List Addr) : Prop where
  rise : as.Pairwise (· < ·)
  above : ∀ a ∈ as, lo < a
  pairs : ∀ (j : Nat) (a : Addr), as[j]? = some a → ∃ x y, xs[j]? = some x ∧ ys[j]? = some y ∧ IsPair h a x y
theorem ZPr.there {xs ys : Array Value} {lo : Addr} {h : Heap} {as : List Addr} (g : ZPr xs ys lo h as) {a : Addr} (ha : a ∈ as) : a < h.objs.size := by
  obtain ⟨j, hj⟩ := List.mem_iff_getElem?.mp ha
  obtain ⟨_, _, _, _, e⟩ := g.pairs j a hj
  exact Heap.lt_size e
end
/-! ### the pairs known to the abstract heap -/
end Ab
/-! Ab109: d.get(k); zip of two lists of ints that may change later -/
namespace Ab
open PySem PySem.Spec PyProof.Rows L2
section
variable {X : Cx} {Γ : Gam} {M : Mem} {a b : Expr} {pos apos : Pos} {kk : Key} {p : Addr} {ds : List (Key × Val)} {d : Val}
theorem av_dget1E (hu : X.A.units + 1 < cLine) (ha : aV X a Γ M (.ptr p)) (hb : aV X b Γ M (kD kk)) (hm : DkAt M p ds) (hd : (dGet ds kk).getD .non = d) (hbase : attributeBase a "get" X.env (eval a X.env) = eval a X.env := by rfl)
    (hfew : ((backTo pos (starEach [b] X.env)).all (fun x => !x.1) && (backToKw pos (keywordEach [] X.env)).all (fun x => x.1.isSome) && decide (([b] : List Expr).length + ([] : List Keyword).length + (if ([] : List Keyword).isEmpty then 0 else 1) < 30)) = true := by rfl)
    (hline : (apos.endLine == pos.line) = true := by rfl) (htr : backTo pos (starEach [b] X.env) = [(false, eval b X.env)] := by rfl) : aV X (.Call (.Attribute a "get" apos) [b] [] pos) Γ M d := fun Hi H σ ok en Q q => by
  subst hd
  refine ⟨_, pe_dget1 hu pe_we pe_we ⟨hbase, hfew, hline, htr⟩, ?_⟩
  refine ha Hi H σ ok en _ fun x M1 v Hi1 H1 h1 s1 ok1 r1 => ?_
  obtain ⟨rfl, rfl⟩ := h1
  cases r1
  obtain ⟨ks, rd, rk⟩ := hm.rd ok1
  refine ⟨p, rfl, .inl ⟨ks, rd⟩, ?_⟩
  refine hb Hi1 H1 σ ok1 (en.mono s1) _ fun y M2 w Hi2 H2 h2 s2 ok2 r2 => ?_
  obtain ⟨rfl, rfl⟩ := h2
  obtain rfl := rep_kD r2
  obtain ⟨ks3, rd3, rk3⟩ := hm.rd ok2
  refine ⟨valV ks3 kk, .inl ⟨ks3, kk, rd3, rfl, rfl⟩, q _ _ _ Hi2 H2 ⟨rfl, rfl⟩ (s1.trans s2) ok2 ?_⟩
  cases hg : dGet ds kk with
  | none =>
    rw [rk3.noKey hg]
    exact .non
  | some d2 =>
    obtain ⟨z2, hz, rz⟩ := rk3.get hg
    rw [hz]
    exact rz
theorem ai_zipC {elts : List Expr} {kk n m : Nat} {tpos p1 : Pos} {R : Mem → Prop} {p q : Addr} {ns ms : List Int} (hm : X.mg "zip" = none) (ha : aA X [a, b] Γ M fun ds M' => ds = [.ptr p, .ptr q] ∧ M'[n]? = some (p, .lst (ns.map .int)) ∧ M'[m]? = some (q, .lst (ms.map .int)) ∧ R M') (hg : Gl X "zip" := by rfl)
    (hs : starEach [a, b] X.env = (false, eval a X.env) :: starEach [b] X.env := by rfl) (hpl : (backTo pos (starEach [b] X.env)).any (·.1) = false := by rfl) :
    aI X (.Tuple elts kk tpos) (.Call (.Name "zip" p1) [a, b] [] pos) Γ M (min (ns.map Val.int).length (ms.map Val.int).length) (fun i => .tup [(ns.map Val.int).getD i .non, (ms.map Val.int).getD i .non]) (fun M => (∃ n : Nat, M[n]? = some (p, .lst (ns.map .int))) ∧ ∃ m : Nat, M[m]? = some (q, .lst (ms.map .int))) R := fun Hi H σ ok en R' qq => by
  refine ⟨_, RZ.pi_zipA hg hm pa_wa hs hpl, ?_⟩
  refine ha Hi H σ ok en _ fun ds M1 vs Hi1 H1 h1 s1 ok1 r1 => ?_
  obtain ⟨rfl, hc1, hc2, hp⟩ := h1
  have get : ∀ {n : Nat} {p : Addr} {ns : List Int} {M : Mem} {Hi H : Hp}, M[n]? = some (p, .lst (ns.map .int)) → Ok X.K Hi M H → ∃ ys, SqL X.K H p ys ∧ RepA X.K Hi (ns.map .int) ys ∧ ys = ns.map V.int := fun {n p ns M Hi H} h ok => by
    have hv : Vw M (.ptr p) (.lst (ns.map .int)) := .lst n h
    obtain ⟨p2, ys, e, hq, ra⟩ := hv.repL ok (.ptr p)
    cases e
    exact ⟨ys, hq, ra, ra.ints⟩
  cases r1 with
  | cons ra r1 =>
    cases r1 with
    | cons rb r1 =>
      cases r1
      cases ra
      cases rb
      obtain ⟨zs, hq1, ra, e1⟩ := get hc1 ok1
      obtain ⟨zs', hq2, rb, e2⟩ := get hc2 ok1
      subst e1 e2
      refine ⟨p, q, _, _, rfl, .inl ⟨hq1, hq2, qq _ M1 Hi1 H1 hp s1 ok1 ?_⟩⟩
      rw [ra.length, rb.length]
      refine (walk_zip rfl).mono (fun H' hG => ?_) fun i H' v H'' hi hG hy Hi' M' s2 ok2 _ => ?_
      · obtain ⟨Hi', M', s2, ok2, ⟨n2, g1⟩, ⟨m2, g2⟩⟩ := hG
        obtain ⟨y1, k1, _, e1⟩ := get g1 ok2
        obtain ⟨y2, k2, _, e2⟩ := get g2 ok2
        subst e1 e2
        exact ⟨k1, k2⟩
      · obtain ⟨T, x, y, rfl, hT, rfl, hx, hy⟩ := hy
        have s3 := same_upd (o := .tup [x, y]) (ok2.none hT)
        exact ⟨_, s3, ok2.imm hT, .tup (SqT.of upd_same) (.cons ((Sq.at ra hx).mono (s2.trans s3)) (.cons ((Sq.at rb hy).mono (s2.trans s3)) .nil))⟩
end
end Ab
/-! Ab110: None or e -/
namespace Ab
open PySem PySem.Spec PyProof.Rows L2
section
variable {X : Cx} {Γ : Gam} {M : Mem} {a b : Expr} {rest : List Expr} {pos : Pos} {P : Val → Mem → Prop} {ta tb : TE}
theorem pe_orN (ha : PE X a ta) (hb : PE X (.BoolOp .Or (b :: rest) pos) tb) : PE X (.BoolOp .Or (a :: b :: rest) pos) (fun σ H Q => ta σ H fun x H1 => x = .non ∧ tb σ H1 Q) := by
  refine ⟨fun pins s σ H Q I h => ?_⟩
  refine BoolOp_or (thn (ha.run pins s σ H _ I h) fun v s1 ⟨x, H1, I1, r1, q1⟩ => ?_)
  obtain ⟨rfl, q1⟩ := q1
  cases r1
  exact wpAny_pure (hb.run pins s1 σ H1 Q I1 q1)
theorem ae_orN (h : aE X a Γ M fun x M' => x = .non ∧ aE X (.BoolOp .Or (b :: rest) pos) Γ M' P) : aE X (.BoolOp .Or (a :: b :: rest) pos) Γ M P := fun Hi H σ ok en Q q => by
  refine ⟨_, pe_orN pe_we pe_we, ?_⟩
  refine h Hi H σ ok en _ fun x M1 v Hi1 H1 h1 s1 ok1 r1 => ?_
  obtain ⟨rfl, h2⟩ := h1
  cases r1
  exact ⟨rfl, h2 Hi1 H1 σ ok1 (en.mono s1) _ (q.up s1)⟩
theorem av_orN {d : Val} (ha : aV X a Γ M .non) (hb : aV X b Γ M d) : aV X (.BoolOp .Or [a, b] pos) Γ M d := ae_orN (ha.val ⟨rfl, ae_one (hb.val ⟨rfl, rfl⟩)⟩)
end
end Ab
/-! Ab111: t.index(x) of a tuple of texts -/
namespace Ab
open PySem PySem.Spec PyProof.Rows L2
section
variable {X : Cx} {Γ : Gam} {M : Mem} {a b : Expr} {apos pos : Pos}
theorem av_tupIdx {ys : List Str} {z : Str} {j : Nat} {T : Addr} {o : Obj} (ha : aV X a Γ M (.ptr T)) (hK : X.K.lookup T = some o) (hc : o.cls = .type "tuple") (hd : o.dict = none) (hT : ∀ H, SqT X.K H T (ys.map V.str)) (hb : aV X b Γ M (.str z)) (hy : ys[j]? = some z) (hno : ∀ m, m < j → ys[m]? ≠ some z) (hbase : attributeBase a "index" X.env (eval a X.env) = eval a X.env := by rfl)
    (hfew : ((backTo pos (starEach [b] X.env)).all (fun x => !x.1) && (backToKw pos (keywordEach [] X.env)).all (fun x => x.1.isSome)
      && decide (([b] : List Expr).length + ([] : List Keyword).length + (if ([] : List Keyword).isEmpty then 0 else 1) < 30)) = true := by rfl)
    (hline : (apos.endLine == pos.line) = true := by rfl) (hs : starEach [b] X.env = (false, eval b X.env) :: starEach [] X.env := by rfl) (hs2 : starEach [b] X.env = [(false, eval b X.env)] := by rfl) : aV X (.Call (.Attribute a "index" apos) [b] [] pos) Γ M (.int (j : Nat)) := fun Hi H σ ok en Q q => by
  refine ⟨_, pe_bm PySem.F.plainAttrs_tuple PySem.F.slot_tuple_index PySem.F.type_tuple_index mt_tup_index pe_we (pa_cons pe_we pa_nil hs2) hbase hfew hline hs rfl, ?_⟩
  refine ha Hi H σ ok en _ fun d M1 v Hi1 H1 h1 s1 ok1 r1 => ?_
  obtain ⟨rfl, rfl⟩ := h1
  cases r1
  refine ⟨.inr (.inl ⟨rfl, o, hK, hc, hd⟩), ?_⟩
  refine hb Hi1 H1 σ ok1 (en.mono s1) _ fun y M2 w Hi2 H2 h2 s2 ok2 r2 => ?_
  obtain ⟨rfl, rfl⟩ := h2
  cases r2
  exact ⟨T, ys, z, j, rfl, rfl, hT H2, hy, hno, q _ _ _ Hi2 H2 ⟨rfl, rfl⟩ (s1.trans s2) ok2 (.int _)⟩
end
end Ab
namespace K43
open PySem L2 Ab Sm
/-! ### counters in boxes -/
section
variable {P : Program} {w : World} {K : PySem.W.Frag} {mg : Str → Option Value} {base : Heap} {k : Nat} {f C C2 C3 : Addr}
/-! ### labels_of, has_number, frequency -/
/-! ### StartCounter -/
theorem CntS.le {S : Sc} (hS : GoodS S) {h : Nat} {x v : Int} (x0 : 0 ≤ x) (hv : CntS S h x v) : v ≤ x + 2 := Cnt.le hS.k2 hS.s0 hS.l0 hS.lp x0 hv
end
end K43
/-! items with zeros between them -/
namespace Sm
end Sm
namespace K43
open PySem L2 Ab Sm
section
variable {P : Program} {w : World} {K : PySem.W.Frag} {mg : Str → Option Value} {base : Heap} {k : Nat} {f C CN : Addr}
/-! ### is_integer, check_integer of anything -/
/-- no integer, or a truth value -/
def NInt (K : PySem.W.Frag) (M : Mem) (d : Val) : Prop := (∃ T, TyV K M d T ∧ PySem.W.kitOne K T (.type "int") = some false) ∨ ∃ b, d = .bl b
theorem NInt.non {M : Mem} : NInt K M .non := .inl ⟨_, .non, kit_ty (by decide +kernel)⟩
theorem NInt.str {M : Mem} {s : Str} : NInt K M (.str s) := .inl ⟨_, .str s, kit_ty (by decide +kernel)⟩
theorem NInt.bl {M : Mem} {b : Bool} : NInt K M (.bl b) := .inr ⟨b, rfl⟩
theorem NInt.tup {M : Mem} {xs : List Val} : NInt K M (.tup xs) := .inl ⟨_, .tup xs, kit_ty (by decide +kernel)⟩
/-! ### in_arity refuses -/
end
end K43
/-! S24: changes of items by index; the dict that holds them -/
namespace Ab
open PySem PySem.Spec L2 Sm
def cPut (cs : List (Nat × Int)) (n : Nat) (v : Int) : List (Nat × Int) := if (cs.any fun q => decide (q.1 = n)) = true then cs.map (fun q => if q.1 = n then (q.1, v) else q) else cs ++ [(n, v)]
def cGet : List (Nat × Int) → Nat → Option Int
  | [], _ => none
  | (m, v) :: r, n => if m = n then some v else cGet r n
end Ab
namespace Sm
end Sm
/-! Ab88: a dict locked while a statement that may raise runs; list(d); d == {}; a def f(a, .., **d) that may raise -/
namespace Ab
open PySem PySem.Spec PyProof.Rows L2 Builtin
end Ab
/-! Ab89: a for that may raise over what must stay (a locked dict) -/
namespace Ab
open PySem PySem.Spec PyProof.Rows L2
end Ab
/-! Ab91: sum and min of tuples of ints -/
namespace Ab
open PySem PySem.Spec PyProof.Rows L2
theorem aKw.mono {X : Cx} {kws : List Keyword} {Γ : Gam} {M : Mem} {P P' : List Val → Mem → Prop} (h : aKw X kws Γ M P) (f : ∀ d M', P d M' → P' d M') : aKw X kws Γ M P' :=
  fun Hi H σ ok en Q q => h Hi H σ ok en Q fun d M' v Hi' H' hp => q d M' v Hi' H' (f _ _ hp)
end Ab
namespace K43
open PySem L2 Ab Sm Tx
/-! ### keyword_index -/
/-- a keyword with its letter (d: true) and its number -/
structure KwI (x : Str) (b : Bool) (n : Nat) : Prop where
  f : cutS x none (some 1) = (if b then "d" else "w")
  r : cutS x (some 1) none = iS n
  n12 : n < 12
  c0 : ∃ cc, atI x.cps.toList 0 = some cc ∧ (⟨#[cc]⟩ : Str) = (if b then "d" else "w")
  len : x.length ≤ 100
  w0 : b = false → n = 0 → x = "w0"
theorem ok12 : ∀ n < 12, PyData.strOk (iS (n : Nat)) = true ∧ (iS (n : Nat)).length ≤ 2 := by decide +kernel
def dgV : List Val := (List.range 12).map fun (n : Nat) => .str (iS n)
theorem dgV_nb : nbVs dgV := ⟨(ok12 0 (by decide)).1, (ok12 1 (by decide)).1, (ok12 2 (by decide)).1, (ok12 3 (by decide)).1, (ok12 4 (by decide)).1, (ok12 5 (by decide)).1, (ok12 6 (by decide)).1, (ok12 7 (by decide)).1, (ok12 8 (by decide)).1, (ok12 9 (by decide)).1, (ok12 10 (by decide)).1, (ok12 11 (by decide)).1, trivial⟩
theorem dw_nb : nbVs [Val.str "d", Val.str "w"] := ⟨(by decide +kernel : PyData.strOk "d" = true), (by decide +kernel : PyData.strOk "w" = true), trivial⟩
theorem dgV_mem {x : Str} : Val.str x ∈ dgV ↔ ∃ n < 12, x = iS (n : Nat) := by
  unfold dgV
  rw [List.mem_map]
  constructor
  · rintro ⟨n, hn, e⟩
    injection e with e
    exact ⟨n, List.mem_range.mp hn, e.symm⟩
  · rintro ⟨n, hn, rfl⟩
    exact ⟨n, List.mem_range.mpr hn, rfl⟩
theorem dw_mem {x : Str} : Val.str x ∈ [Val.str "d", Val.str "w"] ↔ x = "d" ∨ x = "w" := by
  constructor
  · intro h
    rcases List.mem_cons.mp h with h | h
    · injection h with h
      exact .inl h
    · injection List.mem_singleton.mp h with h
      exact .inr h
  · rintro (rfl | rfl)
    · exact List.mem_cons_self
    · exact List.mem_cons_of_mem _ List.mem_cons_self
section
variable {P : Program} {w : World} {K : PySem.W.Frag} {mg : Str → Option Value} {base : Heap} {k : Nat} {f C CN CP : Addr}
/-! ### replaced_items -/
/-! ### check_integer of three refuses -/
/-! ### Schedule.replaced -/
/-- a change: the keyword, its letter, its number, the new item -/
structure Chg where
  x : Str
  b : Bool
  n : Nat
  v : Int
/-- the dict of one letter -/
def csB (b : Bool) (cs : List Chg) : List (Nat × Int) := cs.foldl (fun acc c => if c.b = b then cPut acc c.n c.v else acc) []
end
/-! ### the keywords of the law -/
/-! ### replaced, its promise by the keywords -/
/-- replaced by good changes -/
structure Rp (S S' : Sc) (cs : List Chg) : Prop where
  g : GoodS S'
  a : S'.a = S.a
  sp : ∀ i, item S'.sp i = (cGet (csB true cs) i).getD (item S.sp i)
  lv : ∀ i, item S'.lv i = (cGet (csB false cs) i).getD (item S.lv i)
theorem Rp.eq {S S' S1 S2 : Sc} {cs cs' : List Chg} (h : Rp S S1 cs) (h' : Rp S' S2 cs') (ha : S.a = S'.a) (e1 : ∀ i, (cGet (csB true cs) i).getD (item S.sp i) = (cGet (csB true cs') i).getD (item S'.sp i))
    (e2 : ∀ i, (cGet (csB false cs) i).getD (item S.lv i) = (cGet (csB false cs') i).getD (item S'.lv i)) : S1 = S2 :=
  GoodS.ext h.g h'.g (by rw [h.a, h'.a, ha]) (fun i => by rw [h.sp, h'.sp, e1]) fun i => by rw [h.lv, h'.lv, e2]
theorem Rp.nil {S S' : Sc} (hS : GoodS S) (h : Rp S S' []) : S' = S := GoodS.ext h.g hS h.a (fun i => h.sp i) fun i => h.lv i
/-- one change -/
theorem Rp.one {S S' : Sc} {c : Chg} (h : Rp S S' [c]) : (∀ i, item S'.sp i = if c.b = true ∧ i = c.n then c.v else item S.sp i) ∧ ∀ i, item S'.lv i = if c.b = false ∧ i = c.n then c.v else item S.lv i := by
  have key : ∀ (b : Bool) (i : Nat) (d : Int), (cGet (csB b [c]) i).getD d = if c.b = b ∧ i = c.n then c.v else d := fun b i d => by
    show (cGet (if c.b = b then cPut [] c.n c.v else []) i).getD d = _
    by_cases hb : c.b = b
    · rw [if_pos hb]
      show (if c.n = i then some c.v else none).getD d = _
      by_cases hi : c.n = i
      · rw [if_pos hi, if_pos ⟨hb, hi.symm⟩]
        rfl
      · rw [if_neg hi, if_neg fun z => hi z.2.symm]
        rfl
    · rw [if_neg hb, if_neg fun z => hb z.1]
      rfl
  exact ⟨fun i => by rw [h.sp, key], fun i => by rw [h.lv, key]⟩
end K43
/-! S33: limits of the sums of the levels, tightened; the smallest completion -/
namespace Sm
/-- prefix maximum -/
def pmx (l : Nat → Int) : Nat → Int
  | 0 => l 0
  | i + 1 => max (l (i + 1)) (pmx l i)
theorem pmx_ge {l : Nat → Int} : ∀ {i j : Nat}, j ≤ i → l j ≤ pmx l i
  | 0, j, h => by
    obtain rfl : j = 0 := by omega
    exact Int.le_refl _
  | i + 1, j, h => by
    show l j ≤ max (l (i + 1)) (pmx l i)
    rcases Nat.lt_or_ge i j with z | z
    · obtain rfl : j = i + 1 := by omega
      omega
    · have := pmx_ge (l := l) z
      omega
theorem pmx_mem {l : Nat → Int} : ∀ i : Nat, ∃ j, j ≤ i ∧ pmx l i = l j
  | 0 => ⟨0, Nat.le_refl _, rfl⟩
  | i + 1 => by
    obtain ⟨j, h1, h2⟩ := pmx_mem (l := l) i
    by_cases z : pmx l i ≤ l (i + 1)
    · exact ⟨i + 1, Nat.le_refl _, by show max _ _ = _; omega⟩
    · exact ⟨j, by omega, by show max _ _ = _; omega⟩
theorem pmx_step {l : Nat → Int} (i : Nat) : pmx l i ≤ pmx l (i + 1) := by
  show pmx l i ≤ max _ (pmx l i)
  omega
/-- minimum of some items from an index on, among twelve -/
def sfm (h : Nat → Int) : Nat → Nat → Int
  | 0, i => h i
  | t + 1, i => if i < 11 then min (sfm h t i) (sfm h t (i + 1)) else sfm h t i
theorem sfm_le {h : Nat → Int} : ∀ {t i j : Nat}, j ≤ t → i + j ≤ 11 → sfm h t i ≤ h (i + j)
  | 0, i, j, h1, _ => by
    obtain rfl : j = 0 := by omega
    exact Int.le_refl _
  | t + 1, i, 0, _, h2 => by
    have := sfm_le (h := h) (t := t) (i := i) (j := 0) (Nat.zero_le _) h2
    show (if i < 11 then min (sfm h t i) (sfm h t (i + 1)) else sfm h t i) ≤ _
    split <;> omega
  | t + 1, i, j + 1, h1, h2 => by
    have := sfm_le (h := h) (t := t) (i := i + 1) (j := j) (by omega) (by omega)
    show (if i < 11 then min (sfm h t i) (sfm h t (i + 1)) else sfm h t i) ≤ _
    rw [if_pos (by omega), show i + (j + 1) = i + 1 + j by omega]
    omega
theorem sfm_mem {h : Nat → Int} : ∀ {t i : Nat}, i ≤ 11 → ∃ j, j ≤ t ∧ i + j ≤ 11 ∧ sfm h t i = h (i + j)
  | 0, i, hi => ⟨0, Nat.le_refl _, hi, rfl⟩
  | t + 1, i, hi => by
    obtain ⟨j, h1, h2, h3⟩ := sfm_mem (h := h) (t := t) hi
    by_cases z : i < 11
    · obtain ⟨j', g1, g2, g3⟩ := sfm_mem (h := h) (t := t) (show i + 1 ≤ 11 by omega)
      by_cases y : sfm h t i ≤ sfm h t (i + 1)
      · exact ⟨j, by omega, h2, by show (if i < 11 then _ else _) = _; rw [if_pos z]; omega⟩
      · refine ⟨j' + 1, by omega, by omega, ?_⟩
        show (if i < 11 then _ else _) = _
        rw [if_pos z, show i + (j' + 1) = i + 1 + j' by omega, ← g3]
        omega
    · exact ⟨j, by omega, h2, by show (if i < 11 then _ else _) = _; rw [if_neg z]; exact h3⟩
/-- the least sum for an exponent, by the first bounds -/
def lwB (k : Nat) (bs : List Int) : Nat → Nat → Int
  | 0, _ => 1
  | i + 1, e => if vE k (i + 1) = e then max (lwB k bs i e) (if vR k (i + 1) = 1 then 1 else bs.getD i 0) else lwB k bs i e
/-- the greatest sum for an exponent -/
def hgB (k : Nat) (bs : List Int) : Nat → Nat → Int
  | 0, _ => 100000000
  | i + 1, e => if vE k (i + 1) = e then min (hgB k bs i e) (if i + 1 = bs.length then 100000000 else bs.getD i 0) else hgB k bs i e
theorem lwB_one {k : Nat} {bs : List Int} : ∀ {i e : Nat}, 1 ≤ lwB k bs i e
  | 0, _ => Int.le_refl _
  | i + 1, e => by
    have := lwB_one (k := k) (bs := bs) (i := i) (e := e)
    show 1 ≤ (if vE k (i + 1) = e then max (lwB k bs i e) _ else lwB k bs i e)
    split <;> omega
theorem lwB_ge {k : Nat} {bs : List Int} : ∀ {i j : Nat}, j < i → vR k (j + 1) ≠ 1 → bs.getD j 0 ≤ lwB k bs i (vE k (j + 1))
  | i + 1, j, h, hr => by
    show _ ≤ (if vE k (i + 1) = vE k (j + 1) then max (lwB k bs i (vE k (j + 1))) (if vR k (i + 1) = 1 then 1 else bs.getD i 0) else lwB k bs i (vE k (j + 1)))
    rcases Nat.lt_or_ge j i with z | z
    · have := lwB_ge (k := k) (bs := bs) z hr
      split <;> omega
    · obtain rfl : j = i := by omega
      rw [if_pos rfl, if_neg hr]
      omega
theorem lwB_mem {k : Nat} {bs : List Int} : ∀ {i e : Nat}, lwB k bs i e = 1 ∨ ∃ j, j < i ∧ vR k (j + 1) ≠ 1 ∧ vE k (j + 1) = e ∧ lwB k bs i e = bs.getD j 0
  | 0, _ => .inl rfl
  | i + 1, e => by
    have h1 := lwB_one (k := k) (bs := bs) (i := i) (e := e)
    have ih := lwB_mem (k := k) (bs := bs) (i := i) (e := e)
    show (if vE k (i + 1) = e then max (lwB k bs i e) (if vR k (i + 1) = 1 then 1 else bs.getD i 0) else lwB k bs i e) = 1 ∨ ∃ j, j < i + 1 ∧ vR k (j + 1) ≠ 1 ∧ vE k (j + 1) = e ∧ (if vE k (i + 1) = e then max (lwB k bs i e) (if vR k (i + 1) = 1 then 1 else bs.getD i 0) else lwB k bs i e) = bs.getD j 0
    by_cases z : vE k (i + 1) = e
    · rw [if_pos z]
      by_cases y : vR k (i + 1) = 1
      · rw [if_pos y, Int.max_eq_left h1]
        rcases ih with ih | ⟨j, a, b, c, d⟩
        · exact .inl ih
        · exact .inr ⟨j, by omega, b, c, d⟩
      · rw [if_neg y]
        by_cases x : lwB k bs i e ≤ bs.getD i 0
        · exact .inr ⟨i, by omega, y, z, Int.max_eq_right x⟩
        · rw [Int.max_eq_left (by omega)]
          rcases ih with ih | ⟨j, a, b, c, d⟩
          · exact .inl ih
          · exact .inr ⟨j, by omega, b, c, d⟩
    · rw [if_neg z]
      rcases ih with ih | ⟨j, a, b, c, d⟩
      · exact .inl ih
      · exact .inr ⟨j, by omega, b, c, d⟩
theorem hgB_top {k : Nat} {bs : List Int} : ∀ {i e : Nat}, hgB k bs i e ≤ 100000000
  | 0, _ => Int.le_refl _
  | i + 1, e => by
    have := hgB_top (k := k) (bs := bs) (i := i) (e := e)
    show (if vE k (i + 1) = e then min (hgB k bs i e) _ else hgB k bs i e) ≤ 100000000
    split <;> omega
theorem hgB_le {k : Nat} {bs : List Int} : ∀ {i j : Nat}, j < i → j + 1 ≠ bs.length → hgB k bs i (vE k (j + 1)) ≤ bs.getD j 0
  | i + 1, j, h, hr => by
    show (if vE k (i + 1) = vE k (j + 1) then min (hgB k bs i (vE k (j + 1))) (if i + 1 = bs.length then 100000000 else bs.getD i 0) else hgB k bs i (vE k (j + 1))) ≤ _
    rcases Nat.lt_or_ge j i with z | z
    · have := hgB_le (k := k) (bs := bs) z hr
      split <;> omega
    · obtain rfl : j = i := by omega
      rw [if_pos rfl, if_neg hr]
      omega
theorem hgB_mem {k : Nat} {bs : List Int} : ∀ {i e : Nat}, hgB k bs i e = 100000000 ∨ ∃ j, j < i ∧ j + 1 ≠ bs.length ∧ vE k (j + 1) = e ∧ hgB k bs i e = bs.getD j 0
  | 0, _ => .inl rfl
  | i + 1, e => by
    have h1 := hgB_top (k := k) (bs := bs) (i := i) (e := e)
    have ih := hgB_mem (k := k) (bs := bs) (i := i) (e := e)
    show (if vE k (i + 1) = e then min (hgB k bs i e) (if i + 1 = bs.length then 100000000 else bs.getD i 0) else hgB k bs i e) = 100000000 ∨ ∃ j, j < i + 1 ∧ j + 1 ≠ bs.length ∧ vE k (j + 1) = e ∧ (if vE k (i + 1) = e then min (hgB k bs i e) (if i + 1 = bs.length then 100000000 else bs.getD i 0) else hgB k bs i e) = bs.getD j 0
    by_cases z : vE k (i + 1) = e
    · rw [if_pos z]
      by_cases y : i + 1 = bs.length
      · rw [if_pos y, Int.min_eq_left h1]
        rcases ih with ih | ⟨j, a, b, c, d⟩
        · exact .inl ih
        · exact .inr ⟨j, by omega, b, c, d⟩
      · rw [if_neg y]
        by_cases x : bs.getD i 0 ≤ hgB k bs i e
        · exact .inr ⟨i, by omega, y, z, Int.min_eq_right x⟩
        · rw [Int.min_eq_left (by omega)]
          rcases ih with ih | ⟨j, a, b, c, d⟩
          · exact .inl ih
          · exact .inr ⟨j, by omega, b, c, d⟩
    · rw [if_neg z]
      rcases ih with ih | ⟨j, a, b, c, d⟩
      · exact .inl ih
      · exact .inr ⟨j, by omega, b, c, d⟩
/-- no conflict: a plain number has no greater bound than one of no lesser exponent -/
def NoCf (k : Nat) (bs : List Int) : Prop := ∀ m j, m + 1 < bs.length → j < bs.length → vR k (j + 1) ≠ 1 → vE k (j + 1) ≤ vE k (m + 1) → bs.getD j 0 ≤ bs.getD m 0
theorem plnL_in {k : Nat} {bs : List Int} : ∀ {i j : Nat}, j < i → vR k (j + 1) ≠ 1 → (vE k (j + 1), j + 1, bs.getD j 0) ∈ plnL k bs i
  | i + 1, j, h, hr => by
    show _ ∈ plnL k bs i ++ _
    rcases Nat.lt_or_ge j i with z | z
    · exact List.mem_append_left _ (plnL_in z hr)
    · obtain rfl : j = i := by omega
      rw [if_pos hr]
      exact List.mem_append_right _ List.mem_cons_self
theorem cfF_nil {k : Nat} {bs : List Int} {pl : List Pln} : ∀ {n i : Nat}, cfF k bs pl n i = [] → ∀ m, i ≤ m → m < i + n → cfI k bs (m + 1) pl = []
  | 0, i, _, m, h1, h2 => absurd h2 (by omega)
  | n + 1, i, h, m, h1, h2 => by
    have h : cfI k bs (i + 1) pl ++ cfF k bs pl n (i + 1) = [] := h
    obtain ⟨a, b⟩ := List.append_eq_nil_iff.mp h
    rcases Nat.lt_or_ge i m with z | z
    · exact cfF_nil b m z (by omega)
    · obtain rfl : m = i := by omega
      exact a
theorem cfL_nil {k : Nat} {bs : List Int} : cfL k bs = [] ↔ NoCf k bs := by
  constructor
  · intro h m j hm hj hr he
    have h1 := cfF_nil h m (Nat.zero_le _) (by omega)
    unfold cfI at h1
    have h2 := List.filterMap_eq_nil_iff.mp h1 _ (plnL_in hj hr)
    dsimp only at h2
    rw [Nat.add_sub_cancel] at h2
    by_cases z : bs.getD m 0 < bs.getD j 0
    · rw [if_pos ⟨he, z⟩] at h2
      cases h2
    · omega
  · intro h
    refine cfF_none _ _ fun m _ hm => cfI_none fun t ht he => ?_
    obtain ⟨j, hj, hj1, rfl⟩ := plnL_mem ht
    rw [Nat.add_sub_cancel]
    exact h m j (by omega) hj hj1 he
/-- tightened limits are met -/
theorem lw_le_hg {k : Nat} {bs : List Int} (h : NoCf k bs) (h1 : ∀ j, j < bs.length → 1 ≤ bs.getD j 0 ∧ bs.getD j 0 ≤ 100000000) {e e' : Nat} (he : e ≤ e') : lwB k bs bs.length e ≤ hgB k bs bs.length e' := by
  rcases lwB_mem (k := k) (bs := bs) (i := bs.length) (e := e) with a | ⟨j, hj, hr, hje, a⟩
  · rcases hgB_mem (k := k) (bs := bs) (i := bs.length) (e := e') with b | ⟨m, hm, hl, hme, b⟩
    · rw [a, b]; decide
    · rw [a, b]
      exact (h1 m hm).1
  · rcases hgB_mem (k := k) (bs := bs) (i := bs.length) (e := e') with b | ⟨m, hm, hl, hme, b⟩
    · rw [a, b]
      exact (h1 j hj).2
    · rw [a, b]
      exact h m j (by omega) hj hr (by omega)
theorem pm_le_sf {k : Nat} {bs : List Int} (h : NoCf k bs) (h1 : ∀ j, j < bs.length → 1 ≤ bs.getD j 0 ∧ bs.getD j 0 ≤ 100000000) {t i : Nat} (hi : i ≤ 11) : pmx (lwB k bs bs.length) i ≤ sfm (hgB k bs bs.length) t i := by
  obtain ⟨a, ha, ea⟩ := pmx_mem (l := lwB k bs bs.length) i
  obtain ⟨b, hb, hb2, eb⟩ := sfm_mem (h := hgB k bs bs.length) (t := t) hi
  rw [ea, eb]
  exact lw_le_hg h h1 (by omega)
end Sm
/-! S34: the smallest completion has the given places -/
namespace Sm
/-- the sums of the levels of the smallest completion -/
def cmW (k : Nat) (bs : List Int) (e : Nat) : Int := pmx (lwB k bs bs.length) e
/-- the items of its spine -/
def cmI (k : Nat) (bs : List Int) (r : Int) (e : Nat) : Int := if k ^ e < bs.length then bs.getD (k ^ e - 1) 0 - cmW k bs e else if k ^ e = bs.length then max 0 (r - cmW k bs e) else 0
def cmS (k : Nat) (bs : List Int) (r s0 : Int) : List Int := s0 :: (List.range 11).map (cmI k bs r)
def cmL (k : Nat) (bs : List Int) : List Int := cmW k bs 0 :: (List.range 11).map fun e => cmW k bs (e + 1) - cmW k bs e
theorem lp0 (i : Nat) : lp [0] i = 0 := by
  unfold lp
  rw [List.length_singleton, Nat.mod_one]
  rfl
theorem cmS_0 {k : Nat} {bs : List Int} {r s0 : Int} : item (cmS k bs r s0, [0]) 0 = s0 := rfl
theorem cmS_s {k : Nat} {bs : List Int} {r s0 : Int} {e : Nat} (he : e < 11) : item (cmS k bs r s0, [0]) (e + 1) = cmI k bs r e := by
  rw [item_lt (by show e + 1 < (cmS k bs r s0).length; unfold cmS; rw [List.length_cons, List.length_map, List.length_range]; omega)]
  show (cmS k bs r s0).getD (e + 1) 0 = _
  unfold cmS
  rw [List.getD_cons_succ, List.getD_eq_getElem?_getD, List.getElem?_map, List.getElem?_range he]
  rfl
theorem cmS_h {k : Nat} {bs : List Int} {r s0 : Int} {i : Nat} (hi : 12 ≤ i) : item (cmS k bs r s0, [0]) i = 0 := by
  rw [item_ge (by show (cmS k bs r s0).length ≤ i; unfold cmS; rw [List.length_cons, List.length_map, List.length_range]; omega)]
  exact lp0 _
theorem cmL_0 {k : Nat} {bs : List Int} : item (cmL k bs, [0]) 0 = cmW k bs 0 := rfl
theorem cmL_s {k : Nat} {bs : List Int} {e : Nat} (he : e < 11) : item (cmL k bs, [0]) (e + 1) = cmW k bs (e + 1) - cmW k bs e := by
  rw [item_lt (by show e + 1 < (cmL k bs).length; unfold cmL; rw [List.length_cons, List.length_map, List.length_range]; omega)]
  show (cmL k bs).getD (e + 1) 0 = _
  unfold cmL
  rw [List.getD_cons_succ, List.getD_eq_getElem?_getD, List.getElem?_map, List.getElem?_range he]
  rfl
theorem cmL_h {k : Nat} {bs : List Int} {i : Nat} (hi : 12 ≤ i) : item (cmL k bs, [0]) i = 0 := by
  rw [item_ge (by show (cmL k bs).length ≤ i; unfold cmL; rw [List.length_cons, List.length_map, List.length_range]; omega)]
  exact lp0 _
theorem cmL_sum {k : Nat} {bs : List Int} : ∀ {e : Nat}, e < 12 → smN (item (cmL k bs, [0])) (e + 1) = cmW k bs e
  | 0, _ => by
    show (0 : Int) + item (cmL k bs, [0]) 0 = _
    rw [cmL_0, Int.zero_add]
  | e + 1, h => by
    show smN (item (cmL k bs, [0])) (e + 1) + item (cmL k bs, [0]) (e + 1) = _
    rw [cmL_sum (show e < 12 by omega), cmL_s (by omega)]
    omega
theorem vE_pow {k e : Nat} (hk : 2 ≤ k) : vE k (k ^ e) = e ∧ vR k (k ^ e) = 1 := vE_of hk (Nat.pow_pos (by omega)) (Nat.mul_one _).symm fun h => by
  have := Nat.le_of_dvd Nat.one_pos h
  omega
theorem cmW_one {k : Nat} {bs : List Int} {e : Nat} : 1 ≤ cmW k bs e := by
  obtain ⟨j, _, h⟩ := pmx_mem (l := lwB k bs bs.length) e
  unfold cmW
  rw [h]
  exact lwB_one
theorem cmW_top {k : Nat} {bs : List Int} {e : Nat} {B : Int} (h1 : 1 ≤ B) (h : ∀ j, j < bs.length → bs.getD j 0 ≤ B) : cmW k bs e ≤ B := by
  obtain ⟨j, _, hj⟩ := pmx_mem (l := lwB k bs bs.length) e
  unfold cmW
  rw [hj]
  rcases lwB_mem (k := k) (bs := bs) (i := bs.length) (e := j) with a | ⟨m, hm, _, _, a⟩
  · rw [a]; exact h1
  · rw [a]; exact h m hm
/-- bounds between 1 and a limit -/
def BdOk (bs : List Int) : Prop := ∀ j, j < bs.length → 1 ≤ bs.getD j 0 ∧ bs.getD j 0 ≤ 100000000
theorem cmW_ge {k : Nat} {bs : List Int} {j : Nat} (hj : j < bs.length) (hr : vR k (j + 1) ≠ 1) : bs.getD j 0 ≤ cmW k bs (vE k (j + 1)) :=
  Int.le_trans (lwB_ge hj hr) (pmx_ge (Nat.le_refl _))
theorem cmW_le {k : Nat} {bs : List Int} (hc : NoCf k bs) (hb : BdOk bs) {j : Nat} (hj : j + 1 < bs.length) (he : vE k (j + 1) ≤ 11) : cmW k bs (vE k (j + 1)) ≤ bs.getD j 0 :=
  Int.le_trans (pm_le_sf hc hb (t := 0) he) (hgB_le (by omega) (by omega))
theorem cmI_nn {k : Nat} {bs : List Int} {r : Int} (hk : 2 ≤ k) (hc : NoCf k bs) (hb : BdOk bs) {e : Nat} (he : e ≤ 11) : 0 ≤ cmI k bs r e := by
  unfold cmI
  by_cases z : k ^ e < bs.length
  · rw [if_pos z]
    have hp : 0 < k ^ e := Nat.pow_pos (by omega)
    have := cmW_le hc hb (j := k ^ e - 1) (by omega) (by rw [Nat.sub_add_cancel hp, (vE_pow hk).1]; exact he)
    rw [Nat.sub_add_cancel hp, (vE_pow hk).1] at this
    omega
  · rw [if_neg z]
    split <;> omega
theorem cmI_top {k : Nat} {bs : List Int} {r : Int} {e : Nat} {B : Int} (hB : 0 ≤ B) (hr : r ≤ B) (h : ∀ j, j < bs.length → bs.getD j 0 ≤ B) : cmI k bs r e ≤ B := by
  have w1 := cmW_one (k := k) (bs := bs) (e := e)
  unfold cmI
  by_cases z : k ^ e < bs.length
  · rw [if_pos z]
    have := h (k ^ e - 1) (by omega)
    omega
  · rw [if_neg z]
    split <;> omega
/-- the smallest completion: its places -/
theorem cm_places {k : Nat} (hk : 2 ≤ k) {p : Nat → Int} {n : Nat} {r : Int} (hn : n < 2048) (hc : NoCf k (bndL (plL p n) r)) (hb : BdOk (bndL (plL p n) r)) {s0 : Int} (hs : 0 < n → s0 = p 0) {b : Nat} (h : b < n) :
    pl k (item (cmS k (bndL (plL p n) r) r s0, [0])) (item (cmL k (bndL (plL p n) r), [0])) 0 b = p b := by
  have hlen : (bndL (plL p n) r).length = n := by rw [bndL_len, plL_len]
  have hin : ∀ {i : Nat}, i + 1 < n → (bndL (plL p n) r).getD i 0 = p (i + 1) - p i := fun {i} hi => bndL_in hi
  generalize bndL (plL p n) r = bs at *
  induction b with
  | zero =>
    rw [pl_zero]
    unfold fp
    rw [if_pos rfl, Int.zero_add]
    show item (cmS k bs r s0, [0]) 0 = _
    rw [cmS_0]
    exact hs h
  | succ b ih =>
    have ih := ih (by omega)
    have he : vE k (b + 1) < 11 := vE_lt hk (by omega) (by omega)
    rw [freq_eq hk, ih, cmL_sum (show vE k (b + 1) < 12 by omega)]
    by_cases z : vR k (b + 1) = 1
    · rw [if_pos z]
      have e1 : k ^ vE k (b + 1) = b + 1 := by
        have := (vE_spec hk (show 0 < b + 1 by omega)).1
        rw [z, Nat.mul_one] at this
        exact this.symm
      rw [cmS_s he]
      unfold cmI
      rw [e1, if_pos (by omega), Nat.add_sub_cancel, hin h]
      omega
    · rw [if_neg z]
      have h1 := cmW_ge (k := k) (bs := bs) (j := b) (by omega) z
      have h2 := cmW_le hc hb (j := b) (by omega) (by omega)
      rw [hin h] at h1 h2
      omega
theorem cm_next {k : Nat} (hk : 2 ≤ k) {p : Nat → Int} {n : Nat} {r : Int} (hn : n < 2048) (hc : NoCf k (bndL (plL p n) r)) (hb : BdOk (bndL (plL p n) r)) {s0 : Int} (hs : s0 = if n = 0 then r else p 0) :
    (if n = 0 then 0 else p (n - 1)) + r ≤ pl k (item (cmS k (bndL (plL p n) r) r s0, [0])) (item (cmL k (bndL (plL p n) r), [0])) 0 n := by
  cases n with
  | zero =>
    rw [pl_zero]
    unfold fp
    rw [if_pos rfl, if_pos rfl, Int.zero_add, Int.zero_add]
    show r ≤ item (cmS k _ r s0, [0]) 0
    rw [cmS_0, hs, if_pos rfl]
    exact Int.le_refl _
  | succ b =>
    have ih := cm_places hk hn hc hb (s0 := s0) (b := b) (fun _ => by rw [hs, if_neg (Nat.succ_ne_zero b)]) (Nat.lt_succ_self b)
    have hlast : (bndL (plL p (b + 1)) r).getD b 0 = r := bndL_last
    have hlen : (bndL (plL p (b + 1)) r).length = b + 1 := by rw [bndL_len, plL_len]
    generalize bndL (plL p (b + 1)) r = bs at *
    have he : vE k (b + 1) < 11 := vE_lt hk (by omega) (by omega)
    rw [freq_eq hk, ih, cmL_sum (show vE k (b + 1) < 12 by omega), if_neg (Nat.succ_ne_zero b), Nat.add_sub_cancel]
    by_cases z : vR k (b + 1) = 1
    · rw [if_pos z]
      have e1 : k ^ vE k (b + 1) = b + 1 := by
        have := (vE_spec hk (show 0 < b + 1 by omega)).1
        rw [z, Nat.mul_one] at this
        exact this.symm
      rw [cmS_s he]
      unfold cmI
      rw [e1, if_neg (by omega), if_pos (by omega)]
      omega
    · rw [if_neg z]
      have h1 := cmW_ge (k := k) (bs := bs) (j := b) (by omega) z
      rw [hlast] at h1
      omega
end Sm
namespace K43
open PySem L2 Ab GenW Sm Tx
/-! ### the class Conflict -/
section
variable {P : Program} {w : World} {K : PySem.W.Frag} {mg : Str → Option Value} {base : Heap} {k : Nat} {f C CT : Addr} {fd : FuncData} {B newId initId : String} {tl : List Value}
theorem xi_Conflict {kws : List (Str × V)} (F : FunD K "__init__" "Conflict.__init__" (defArgs c_Conflict___init__) (defBody c_Conflict___init__) (defScope c_Conflict___init__) [] kws f fd) (T : XCl K C B newId initId tl) (XB : XBase K mg "StateError" initId) (hn1 : PySem.W.findIn K (.ref C) "first" = some none) (hn2 : PySem.W.findIn K (.ref C) "second" = some none) : FnX P w K mg base 1 f [] (SpI C (g2V "first" "second") 2) := by
  obtain ⟨C0, r, fv, mx⟩ := XB.ex
  refine (fnx_raw (sp := fun vs H Q => SpI C (g2V "first" "second") 2 vs [] H Q) F q_Conflict___init__ (fun _ _ _ _ _ _ us hl => match us, hl with | [_, _, _], _ => rfl) fun cdv A outer s H hr mod vs Q h => ?_).weak fun vs zs H Q h => ⟨?_, h⟩
  · obtain ⟨a, ws, rfl, hl, ha, hq⟩ := h
    obtain ⟨y, z, rfl⟩ : ∃ y z, ws = [y, z] := by
      match ws, hl with
      | [y, z], _ => exact ⟨y, z, rfl⟩
    refine ⟨_, pss_cons (ps_expr (px_init (B := B) (newId := newId) (initId := initId) (tl := tl) XB.hh r fv rfl mx (pa_cons (pv 0) (pa_cons pe_str pa_nil)))) (pss_cons (qx_set (B := B) (newId := newId) (initId := initId) (tl := tl) (pv 0) (pv 1)) (pss_one (qx_set (B := B) (newId := newId) (initId := initId) (tl := tl) (pv 0) (pv 2)))), ?_⟩
    refine ⟨.ref a, rfl, a, C, _, rfl, by decide, T, ha, y, rfl, .ref a, rfl, a, C, rfl, T, hn1, .inl ⟨ha, fun dx h1 h2 => ⟨z, rfl, .ref a, rfl, a, C, rfl, T, hn2, .inr ⟨dx, [("first", y)], upd_same, ?_, Nat.le_of_ble_eq_true rfl, ?_⟩⟩⟩⟩
    · rw [upd_ne h2, upd_same]
    · have e : upd (upd (upd H dx (exd dx [("first", y)])) a (exo a C (some dx))) dx (exd dx [("second", z), ("first", y)]) = upd (upd H dx (exd dx [("second", z), ("first", y)])) a (exo a C (some dx)) := funext fun b => by
        by_cases b1 : b = dx
        · rw [b1, upd_same, upd_ne h2, upd_same]
        · rw [upd_ne b1]
          by_cases b2 : b = a
          · rw [b2, upd_same, upd_same]
          · rw [upd_ne b2, upd_ne b1, upd_ne b2, upd_ne b1]
      rw [e]
      exact hq dx h1 h2
  · obtain ⟨a, ws, rfl, hl, _⟩ := h
    show ws.length + 1 = 3
    omega
end
section
variable {P : Program} {w : World} {K : PySem.W.Frag} {mg : Str → Option Value} {base : Heap} {k : Nat} {f C CP CV X0 CE : Addr}
/-! ### fits that raise Conflict -/
def cfE (a : Nat × Nat) : List (Str × Val) := [("second", .int (a.2 : Nat)), ("first", .int (a.1 : Nat))]
def aPrpE (X0 CE : Addr) : ASe := fun ds M R PE => ∃ (p : Addr) (ps : List Int) (kn : Nat) (r : Int) (M0 : Mem), ds = [.ptr p, .tup (ps.map .int), .int (kn : Int), .int r] ∧ M = (p, .ins X0 []) :: M0 ∧ 2 ≤ kn ∧ kn ≤ 9 ∧ ps.length ≤ 2000 ∧
  (cfL kn (bndL ps r) = [] → R .non ((p, .ins X0 (ftF ps kn r)) :: M0)) ∧ (∀ a l, cfL kn (bndL ps r) = a :: l → RetX PE CE (cfE a) ((p, .ins X0 (ftF ps kn r)) :: M0))
theorem e_prepare (F : FtX K X0) (GB : GBof P w K mg base) (GE : GEcf P w K mg base) (XC : XMk P w K mg base "Conflict" CE 2 (g2 "first" "second")) : BodyE P w K mg base 6 f n_PlaceFit_prepare "PlaceFit.prepare" (defScope c_PlaceFit_prepare) (defBody c_PlaceFit_prepare) (aPrpE X0 CE) := by
  rintro cdv A outer s0 H E hr po ds M R PE ⟨p, ps, kn, r, M0, rfl, rfl, k2, k9, hl, hp, hx⟩
  refine ys_cons (ys_of (as_fld F.cl F.n0 ((v_ 1).val ((v_ 0).val ⟨0, p, _, rfl, rfl, Nat.le_of_ble_eq_true rfl, ?_⟩))))
  refine ys_cons (ys_of (as_fld F.cl F.n1 ((v_ 2).val ((v_ 0).val ⟨0, p, _, rfl, rfl, Nat.le_of_ble_eq_true rfl, ?_⟩))))
  refine ys_cons (ys_of (as_fld F.cl F.n2 ((v_ 3).val ((v_ 0).val ⟨0, p, _, rfl, rfl, Nat.le_of_ble_eq_true rfl, ?_⟩))))
  refine ys_cons (ys_of (as_fld F.cl F.n3 (ae_g GB hr (by decide) (aa_cons ((v_ 1).val (aa_cons ((v_ 3).val (aa_nil (ak_nil ⟨rfl, ps, r, rfl, hl, (v_ 0).val ⟨0, p, _, rfl, rfl, Nat.le_of_ble_eq_true rfl, ?_⟩⟩)))))))))
  show ySs _ _ _ ((p, .ins X0 (ftF ps kn r)) :: M0) _ _
  refine ys_one (ys_forGNW (kk := 5) hr (by decide) (agn_g GE (hr.mono (by decide)) (by decide) (aa_cons ((av_fld (fs := ftF ps kn r) F.cl F.n3 (v_ 0) (.ce 0 rfl) rfl).val (aa_cons ((v_ 2).val (aa_nil (ak_nil ⟨rfl, cfL kn (bndL ps r), ⟨rfl, _, kn, rfl, k2, k9, by rw [bndL_len]; exact hl, rfl⟩, ?_⟩))))))) ex_gens)
  refine ⟨fun n x Γ M' => 0 < n ∧ x = cfL kn (bndL ps r) ∧ M' = (p, .ins X0 (ftF ps kn r)) :: M0 ∧ Γ = gam n_PlaceFit_prepare [.ptr p, .tup (ps.map .int), .int (kn : Int), .int r], 1, ⟨_, ⟨Nat.one_pos, rfl, rfl, rfl⟩, (by repeat' first | exact le_nil | refine le_skip ?_ | refine le_keep rfl ?_)⟩, ?_⟩
  rintro n x Γ0 Γ M' l ⟨hn, rfl, rfl, rfl⟩
  refine ⟨hn, ?_⟩
  cases hc : cfL kn (bndL ps r) with
  | nil => exact .ok (hp hc)
  | cons a x =>
    refine ag_le l (ag_tup rfl (ags_cons (ag_name 4 q_PlaceFit_prepare.nd (ags_cons (ag_name 5 q_PlaceFit_prepare.nd (ags_nil ?_))))))
    exact ys_one (ys_raise XC hr (by decide) rfl (aa_cons ((v_ 4).val (aa_cons ((v_ 5).val (aa_nil ⟨rfl, hx a x hc⟩))))))
def aPfiE (CP CE : Addr) : ASe := fun ds M R PE => ∃ (p : Addr) (d : Val) (ps : List Int) (kn : Nat) (M0 : Mem), ds = [.ptr p, d, .int (kn : Int)] ∧ M = (p, .ins CP []) :: M0 ∧ Sv M0 d ps ∧ okPs ps ∧ 2 ≤ kn ∧ kn ≤ 9 ∧
  (cfL kn (bndL ps (if ps = [] then 0 else 1)) = [] → R .non ((p, .ins CP (ftF ps kn (if ps = [] then 0 else 1))) :: M0)) ∧ (∀ a l, cfL kn (bndL ps (if ps = [] then 0 else 1)) = a :: l → PE CE (cfE a) M0)
theorem e_pfit (B : Bt mg) (F : FtX K CP) (GP : GCkp P w K mg base) (GA : GCka P w K mg base) (XP : MtE P w K mg base CP 7 "prepare" [] (fun ds _ => aPrpE CP CE ds)) : BodyE P w K mg base 7 f n_PlaceFit___init__ "PlaceFit.__init__" (defScope c_PlaceFit___init__) (defBody c_PlaceFit___init__) (aPfiE CP CE) := by
  rintro cdv A outer s0 H E hr po ds M R PE ⟨p, d, ps, kn, M0, rfl, rfl, hd, ok, k2, k9, hp, hx⟩
  have hd' : Sv ((p, .ins CP []) :: M0) d ps := svC hd
  refine ys_cons (ys_of (as_expr (ae_g GP hr (by decide) (aa_cons ((v_ 1).val (aa_nil (ak_nil ⟨rfl, d, ps, rfl, hd', ok, ?_⟩)))))))
  refine ys_cons (ys_of (as_expr (ae_g GA hr (by decide) (aa_cons ((v_ 2).val (aa_nil (ak_nil ⟨rfl, kn, rfl, k2, k9, ?_⟩)))))))
  refine ys_one (ys_expr (ye_m F.cl XP hr (by decide) ((v_ 0).val ⟨(Ob.ce 0 rfl).obM rfl, aa_cons ((av_tupSv B.tuple (v_ 1) hd').val (aa_cons ((v_ 2).val (aa_cons (aE.val (d := .int (if ps = [] then 0 else 1)) ?_ (aa_nil (ak_nil ⟨rfl, p, ps, kn, _, M0, rfl, rfl, k2, k9, by have := ok.1; omega, fun hc => .ok (hp hc), fun a l hc => .ok (.drop (.ok (hx a l hc)))⟩)))))))⟩)))
  by_cases z : ps = []
  · rw [if_pos z]
    exact ae_ifp (tp_cmp (av_lenSv B.len (v_ 1) hd') i_ cp_gt) (fun c => absurd c (by rw [z]; decide)) (fun _ => i_.val ⟨rfl, rfl⟩)
  · rw [if_neg z]
    have := List.length_pos_iff.mpr z
    exact ae_ifp (tp_cmp (av_lenSv B.len (v_ 1) hd') i_ cp_gt) (fun _ => i_.val ⟨rfl, rfl⟩) (fun c => absurd (show (0 : Int) < (ps.length : Int) by omega) c)
def aVfiE (CV CE : Addr) : ASe := fun ds M R PE => ∃ (p : Addr) (d : Val) (vs : List Int) (kn : Nat) (M0 : Mem), ds = [.ptr p, d, .int (kn : Int)] ∧ M = (p, .ins CV []) :: M0 ∧ Sv [] d vs ∧ okVs vs ∧ 2 ≤ kn ∧ kn ≤ 9 ∧
  (cfL kn (bndL (pIn vs) (rOf vs (pIn vs))) = [] → R .non ((p, .ins CV (ftF (pIn vs) kn (rOf vs (pIn vs)))) :: M0)) ∧ (∀ a l, cfL kn (bndL (pIn vs) (rOf vs (pIn vs))) = a :: l → PE CE (cfE a) M0)
theorem e_vfit (F : FtX K CV) (GV : GCkv P w K mg base) (GA : GCka P w K mg base) (GI : GPin6 P w K mg base) (GR : GRof P w K mg base) (XP : MtE P w K mg base CV 7 "prepare" [] (fun ds _ => aPrpE CV CE ds)) : BodyE P w K mg base 7 f n_ValueFit___init__ "ValueFit.__init__" (defScope c_ValueFit___init__) (defBody c_ValueFit___init__) (aVfiE CV CE) := by
  rintro cdv A outer s0 H E hr po ds M R PE ⟨p, d, vs, kn, M0, rfl, rfl, hd, ok, k2, k9, hp, hx⟩
  have hle := pIn_le vs
  have h2 := ok.2.1
  refine ys_cons (ys_of (as_expr (ae_g GV hr (by decide) (aa_cons ((v_ 1).val (aa_nil (ak_nil ⟨rfl, d, vs, rfl, Sv.up hd, ok, ?_⟩)))))))
  refine ys_cons (ys_of (as_expr (ae_g GA hr (by decide) (aa_cons ((v_ 2).val (aa_nil (ak_nil ⟨rfl, kn, rfl, k2, k9, ?_⟩)))))))
  refine ys_cons (ys_of (as_set 3 q_ValueFit___init__.nd (ae_g GI hr (by decide) (aa_cons ((v_ 1).val (aa_nil (ak_nil ⟨rfl, d, vs, rfl, hd, ok.1, ok.2.1, ?_⟩)))))))
  exact ys_one (ys_expr (ye_m F.cl XP hr (by decide) ((v_ 0).val ⟨(Ob.ce 0 rfl).obM rfl, aa_cons ((v_ 3).val (aa_cons ((v_ 2).val (aa_cons (ae_g GR hr (by decide) (aa_cons ((v_ 1).val (aa_cons ((v_ 3).val (aa_nil (ak_nil ⟨rfl, d, vs, pIn vs, rfl, Sv.up hd, aa_nil (ak_nil ⟨rfl, p, pIn vs, kn, _, M0, rfl, rfl, k2, k9, by omega, fun hc => .ok (hp hc), fun a l hc => .ok (.drop (.ok (hx a l hc)))⟩)⟩)))))))))))⟩)))
structure MkFE (P : Program) (w : World) (K : PySem.W.Frag) (mg : Str → Option Value) (base : Heap) (X : Addr) (sp : ASe) : Prop where
  ex : ∃ fi, Mk K X fi ∧ FnE P w K mg base 8 fi [] (spE K fun ds _ => sp ds)
theorem ye_mkF {X : Cx} {Γ : Gam} {M : Mem} {R : Val → Mem → Prop} {PE : XP} {e1 e2 : Expr} {pos p1 : Pos} {q : Nat} {X0 : Addr} {g : Str} {sp : ASe} (hgx : X.mg g = some (.ref X0)) (I : MkFE X.prog X.w X.K X.mg X.base X0 sp) (hr : Rm q X.A) (hq : 9 ≤ q)
    (h : aE X e1 Γ M fun x M1 => aE X e2 Γ M1 fun y M2 => ∀ p, sp [.ptr p, x, y] ((p, .ins X0 []) :: M2) (fun v M3 => v = .non ∧ ∃ p0 C fs M4, Val.ptr p = .ptr p0 ∧ M3 = (p0, .ins C fs) :: M4 ∧ R (.obj C fs) M4) PE) (hg : Gl X g := by rfl)
    (he : starEach [e1, e2] X.env = (false, eval e1 X.env) :: starEach [e2] X.env := by rfl) (he2 : starEach [e2] X.env = (false, eval e2 X.env) :: starEach [] X.env := by rfl) (hdb : (g == ("__debug__" : Str)) = false := by decide) : yE X (.Call (.Name g p1) [e1, e2] [] pos) Γ M R PE := by
  obtain ⟨fi, mk, F⟩ := I.ex
  refine ye_frzO (ye_make mk F (hr.mono hq) hgx (aa_cons (h.mono fun x M1 h1 => aa_cons (h1.mono fun y M2 h2 => aa_nil (ak_nil ⟨rfl, fun p hn => ?_⟩)) he2) he) hg rfl rfl hdb he (by rw [he, he2]; rfl))
  exact h2 p
/-! ### power_of, known_frequency, is_item_name -/
def aPwr : ASp := fun ds M R => ∃ (kn e : Nat), ds = [.int (kn : Int), .int (e : Int)] ∧ 2 ≤ kn ∧ kn ≤ 9 ∧ e ≤ 20 ∧ R (.int ((kn ^ e : Nat) : Int)) M
theorem b_power_of (B : Bt mg) : BodyOk P w K mg base k f n_power_of "power_of" (defScope s_power_of) (defBody s_power_of) aPwr := by
  rintro cdv A outer s0 H E hr ds M R ⟨kn, e, rfl, k2, k9, he, hp⟩
  refine as_cons (as_setv (d := .int ((kn ^ 0 : Nat) : Int)) 2 q_power_of.nd (by rw [Nat.pow_zero]; exact i_) ?_)
  refine as_cons (as_forL PassesOwn.never rfl (aj_range1 B.range ((v_ 1).val ⟨_, rfl, by omega, by omega, ?_⟩)))
  rw [Int.toNat_natCast]
  refine ⟨fun t Γ M' => M' = M ∧ Γ = [some (.int (kn : Int)), some (.int (e : Int)), some (.int ((kn ^ t : Nat) : Int)), none], ⟨_, ⟨rfl, rfl⟩, (by repeat' first | exact le_nil | refine le_skip ?_ | refine le_keep rfl ?_)⟩, ?_, ?_⟩
  · rintro t Γ M' ht ⟨rfl, rfl⟩
    refine ag_name 3 q_power_of.nd ?_
    refine as_one (as_augMu 2 q_power_of.nd rfl ((v_ 0).val ⟨_, rfl, .inr ⟨by omega, by omega⟩, ?_⟩))
    rw [← Int.natCast_mul, ← Nat.pow_succ]
    exact ⟨_, ⟨rfl, rfl⟩, (by repeat' first | exact le_nil | refine le_skip ?_ | refine le_keep rfl ?_)⟩
  · rintro Γ M' ⟨rfl, rfl⟩
    exact as_one (as_retv (v_ 2) (.ok hp))
abbrev GPwr (P : Program) (w : World) (K : PySem.W.Frag) (mg : Str → Option Value) (base : Heap) : Prop := Gd P w K mg base 1 "power_of" [] fun ds _ => aPwr ds
/-! ### relaxed -/
abbrev l12 (f : Nat → Int) : List Val := ((List.range 12).map f).map Val.int
theorem at12 {f : Nat → Int} {j : Nat} (hj : j < 12) : at0 ((List.range 12).map f) (j : Int) = f j := by
  show ((List.range 12).map f).getD j 0 = _
  rw [List.getD_eq_getElem?_getD, List.getElem?_map, List.getElem?_range hj]
  rfl
theorem ext12 {f g : Nat → Int} (h : ∀ j, j < 12 → f j = g j) : l12 f = l12 g := congrArg (List.map Val.int) (List.map_congr_left fun j hj => h j (List.mem_range.mp hj))
theorem set12 {f : Nat → Int} {i : Nat} {v : Int} : (l12 f).set i (.int v) = l12 fun j => if j = i then v else f j := by
  show (((List.range 12).map f).map Val.int).set i (.int v) = _
  rw [setI]
  congr 1
  apply List.ext_getElem?
  intro j
  by_cases h : j < 12
  · by_cases e : j = i
    · subst e
      rw [List.getElem?_set_self (by rw [List.length_map, List.length_range]; exact h), List.getElem?_map, List.getElem?_range h]
      show some v = some (if j = j then v else f j)
      rw [if_pos rfl]
    · rw [List.getElem?_set_ne (fun z => e z.symm), List.getElem?_map, List.getElem?_map, List.getElem?_range h]
      show some (f j) = some (if j = i then v else f j)
      rw [if_neg e]
  · rw [List.getElem?_eq_none (by rw [List.length_set, List.length_map, List.length_range]; omega), List.getElem?_eq_none (by rw [List.length_map, List.length_range]; omega)]
def aRlx : ASp := fun ds M R => ∃ (p q g : Addr) (l h : Nat → Int) (M0 : Mem), ds = [.ptr p, .ptr q, .ptr g] ∧ M = (p, .lst (l12 l)) :: (q, .lst (l12 h)) :: (g, .dk []) :: M0 ∧
  R (.bl (((List.range 12).map fun i => decide (pmx l i ≤ sfm h 12 i)).all id)) ((p, .lst (l12 (pmx l))) :: (q, .lst (l12 (sfm h 12))) :: (g, .dk []) :: M0)
/-- the lists inside a turn -/
def RlI (l h : Nat → Int) (t i : Nat) (a b : Nat → Int) : Prop := (∀ j, j < 12 → a j = if t = 0 ∧ i ≤ j ∧ j ≠ 0 then l j else pmx l j) ∧ ∀ j, j < 12 → b j = if j + 1 < i then sfm h (t + 1) j else sfm h t j
theorem RlI.next {l h : Nat → Int} {t : Nat} {a b : Nat → Int} (r : RlI l h t 12 a b) : RlI l h (t + 1) 0 a b := by
  refine ⟨fun j hj => ?_, fun j hj => ?_⟩
  · rw [r.1 j hj, if_neg (by omega), if_neg (by omega)]
  · rw [r.2 j hj, if_neg (show ¬ j + 1 < 0 by omega)]
    by_cases z : j + 1 < 12
    · rw [if_pos z]
    · rw [if_neg z]
      obtain rfl : j = 11 := by omega
      rfl
theorem RlI.zero {l h : Nat → Int} {t : Nat} {a b : Nat → Int} (r : RlI l h t 0 a b) : RlI l h t 1 a b := by
  refine ⟨fun j hj => ?_, fun j hj => ?_⟩
  · rw [r.1 j hj]
    by_cases z : t = 0 ∧ 0 ≤ j ∧ j ≠ 0
    · rw [if_pos z, if_pos ⟨z.1, by omega, z.2.2⟩]
    · rw [if_neg z, if_neg fun y => z ⟨y.1, by omega, y.2.2⟩]
  · rw [r.2 j hj, if_neg (by omega), if_neg (by omega)]
theorem RlI.step {l h : Nat → Int} {t i : Nat} {a b : Nat → Int} (r : RlI l h t (i + 1) a b) (hi : i + 1 < 12) :
    RlI l h t (i + 2) (fun j => if j = i + 1 then max (a (i + 1)) (a i + 0) else a j) (fun j => if j = i then min (b i) (b (i + 1) - 0) else b j) := by
  have ai : a i = pmx l i := by
    rw [r.1 i (by omega), if_neg (by omega)]
  refine ⟨fun j hj => ?_, fun j hj => ?_⟩ <;> dsimp only
  · by_cases e : j = i + 1
    · subst e
      rw [if_pos rfl, if_neg (by omega), ai, r.1 (i + 1) hi, Int.add_zero]
      by_cases z : t = 0
      · rw [if_pos ⟨z, Nat.le_refl _, by omega⟩]
        rfl
      · rw [if_neg fun y => z y.1]
        have := pmx_step (l := l) i
        omega
    · rw [if_neg e, r.1 j hj]
      by_cases z : t = 0 ∧ i + 1 ≤ j ∧ j ≠ 0
      · rw [if_pos z, if_pos ⟨z.1, by omega, z.2.2⟩]
      · rw [if_neg z, if_neg fun y => z ⟨y.1, by omega, y.2.2⟩]
  · by_cases e : j = i
    · subst e
      rw [if_pos rfl, if_pos (by omega), r.2 j hj, r.2 (j + 1) hi, if_neg (by omega), if_neg (by omega), Int.sub_zero]
      show _ = (if j < 11 then min (sfm h t j) (sfm h t (j + 1)) else sfm h t j)
      rw [if_pos (by omega)]
    · rw [if_neg e, r.2 j hj]
      by_cases z : j + 1 < i + 1
      · rw [if_pos z, if_pos (by omega)]
      · rw [if_neg z, if_neg (by omega)]
theorem b_relaxed (B : Bt mg) (L : Lm6 mg) (mz : mg "zip" = none) : BodyOk P w K mg base k f n_relaxed "relaxed" (defScope s_relaxed) (defBody s_relaxed) aRlx := by
  rintro cdv A outer s0 H E hr ds M R ⟨p, q, g, l, h, M0, rfl, rfl, hp⟩
  have h1 := hr.u1
  refine as_cons (as_forL PassesOwn.never rfl (aj_range1 B.range ((av_gi L.ITEM_COUNT).val ⟨_, rfl, by decide, by decide, ?_⟩)))
  rw [show ((12 : Int)).toNat = 12 by decide]
  refine ⟨fun t Γ M' => ∃ a b, RlI l h t 0 a b ∧ M' = (p, .lst (l12 a)) :: (q, .lst (l12 b)) :: (g, .dk []) :: M0 ∧ Γ = [some (.ptr p), some (.ptr q), some (.ptr g), none, none, none, none, none], ⟨_, ⟨l, h, ⟨fun j hj => ?_, fun j hj => ?_⟩, rfl, rfl⟩, (by repeat' first | exact le_nil | refine le_skip ?_ | refine le_keep rfl ?_)⟩, ?_, ?_⟩
  · by_cases z : j = 0
    · subst z
      rw [if_neg (by omega)]
      rfl
    · rw [if_pos ⟨rfl, Nat.zero_le _, z⟩]
  · rw [if_neg (by omega)]
    rfl
  · rintro t Γ M' ht ⟨a, b, hab, rfl, rfl⟩
    refine ag_name 3 q_relaxed.nd ?_
    refine as_one (as_forL (hk := fun _ _ _ l ⟨Γ0, h, l0⟩ => ⟨Γ0, h, l0.trans l⟩) PassesOwn.never rfl (aj_range1 B.range ((av_gi L.ITEM_COUNT).val ⟨_, rfl, by decide, by decide, ?_⟩)))
    rw [show ((12 : Int)).toNat = 12 by decide]
    refine ⟨fun i Γ M' => ∃ a b, RlI l h t i a b ∧ M' = (p, .lst (l12 a)) :: (q, .lst (l12 b)) :: (g, .dk []) :: M0 ∧ Γ = [some (.ptr p), some (.ptr q), some (.ptr g), none, none, none, none, none], ⟨_, ⟨a, b, hab, rfl, rfl⟩, (by repeat' first | exact le_nil | refine le_skip ?_ | refine le_keep rfl ?_)⟩, ?_, ?_⟩
    · rintro i Γ M' hi ⟨a, b, hab, rfl, rfl⟩
      dsimp only
      rw [Int.zero_add]
      refine ag_name 4 q_relaxed.nd ?_
      refine as_cons (as_setv (d := .non) 5 q_relaxed.nd (av_dget1E (kk := .inl (i : Int)) h1 (v_ 2) (v_ 4) (.dk 2 rfl) rfl) ?_)
      cases i with
      | zero =>
        refine as_cons (as_ifp (tp_cmp (v_ 4) i_ cp_gt) (fun c => absurd c (by decide)) (fun _ => as_nil ?_))
        refine as_cons (as_ifp (tp_w (wp_and (tp_cmp (v_ 4) i_ cp_gt) fun _ => wp_and1 (tp_cmp (v_ 5) n_ cp_notN))) (fun c => absurd c.1 (by decide)) (fun _ => as_nil ?_))
        exact as_one (as_ifp (tp_w (wp_and (tp_cmp (v_ 4) i_ cp_eq) fun _ => wp_and1 (tp_cmp (v_ 5) n_ cp_notN))) (fun c => absurd c.2 (by decide)) (fun _ => as_nil ⟨_, ⟨a, b, hab.zero, rfl, rfl⟩, (by repeat' first | exact le_nil | refine le_skip ?_ | refine le_keep rfl ?_)⟩))
      | succ i =>
        have l12l : ∀ {f : Nat → Int}, ((List.range 12).map f).length = 12 := fun {f} => by rw [List.length_map, List.length_range]
        refine as_cons (as_ifp (tp_cmp (v_ 4) i_ cp_gt) (fun _ => ?_) (fun c => absurd (show (0 : Int) < ((i + 1 : Nat) : Int) by omega) c))
        refine as_cons (as_asg ((av_max2 B.max rfl (av_ixSv (v_ 0) (v_ 4) (.c (ns := (List.range 12).map a) 0 rfl) (by omega) (by rw [l12l]; omega)) (av_add (av_ixSv (i := (i : Int)) (v_ 0) ((av_sub (v_ 4) i_).val ⟨by rw [show ((i + 1 : Nat) : Int) - 1 = (i : Int) by omega], rfl⟩) (.c (ns := (List.range 12).map a) 0 rfl) (by omega) (by rw [l12l]; omega)) (av_orN (v_ 5) i_))).val (ag_sub (n := 0) (i := ((i + 1 : Nat) : Int)) (jj := i + 1) (v_ 0) (v_ 4) rfl (ixN_in (by omega) (by rw [List.length_map, l12l]; omega)) ?_)))
        rw [at12 hi, at12 (by omega), set12]
        refine as_one (as_asg ((av_min2 B.min rfl (av_ixSv (i := (i : Int)) (v_ 1) ((av_sub (v_ 4) i_).val ⟨by rw [show ((i + 1 : Nat) : Int) - 1 = (i : Int) by omega], rfl⟩) (.c (ns := (List.range 12).map b) 1 rfl) (by omega) (by rw [l12l]; omega)) (av_sub (av_ixSv (v_ 1) (v_ 4) (.c (ns := (List.range 12).map b) 1 rfl) (by omega) (by rw [l12l]; omega)) (av_orN (v_ 5) i_))).val (ag_sub (n := 1) (i := (i : Int)) (jj := i) (v_ 1) ((av_sub (v_ 4) i_).val ⟨by rw [show ((i + 1 : Nat) : Int) - 1 = (i : Int) by omega], rfl⟩) rfl (ixN_in (by omega) (by rw [List.length_map, l12l]; omega)) ?_)))
        rw [at12 (by omega), at12 hi, set12]
        refine as_cons (as_ifp (tp_w (wp_and (tp_cmp (v_ 4) i_ cp_gt) fun _ => wp_and1 (tp_cmp (v_ 5) n_ cp_notN))) (fun c => absurd c.2 (by decide)) (fun _ => as_nil ?_))
        exact as_one (as_ifp (tp_w (wp_and (tp_cmp (v_ 4) i_ cp_eq) fun _ => wp_and1 (tp_cmp (v_ 5) n_ cp_notN))) (fun c => absurd c.2 (by decide)) (fun _ => as_nil ⟨_, ⟨_, _, hab.step hi, rfl, rfl⟩, (by repeat' first | exact le_nil | refine le_skip ?_ | refine le_keep rfl ?_)⟩))
    · rintro Γ M' ⟨a, b, hab, rfl, rfl⟩
      exact ⟨_, ⟨a, b, hab.next, rfl, rfl⟩, (by repeat' first | exact le_nil | refine le_skip ?_ | refine le_keep rfl ?_)⟩
  · rintro Γ M' ⟨a, b, hab, rfl, rfl⟩
    have ea : l12 a = l12 (pmx l) := ext12 fun j hj => by rw [hab.1 j hj, if_neg (by omega)]
    have eb : l12 b = l12 (sfm h 12) := ext12 fun j hj => by rw [hab.2 j hj, if_neg (by omega)]
    rw [ea, eb]
    refine as_one (as_ret (ae_all B.all rfl (ae_lcC [("low", 6), ("high", 7)] (fun i acc M' => M' = (p, .lst (l12 (pmx l))) :: (q, .lst (l12 (sfm h 12))) :: (g, .dk []) :: M0 ∧ acc = ((List.range i).map fun i => decide (pmx l i ≤ sfm h 12 i)).map Val.bl) rfl q_relaxed.nd (blkOk_by (N := n_relaxed) (sc := defScope s_relaxed) (by decide +kernel)) (ai_zipC (ns := (List.range 12).map (pmx l)) (ms := (List.range 12).map (sfm h 12)) (p := p) (q := q) (n := 0) (m := 1) mz (aA.val (avs_cons (v_ 0) (avs_cons (v_ 1) avs_nil)) ⟨rfl, rfl, rfl, rfl, rfl⟩)) ?_ ?_ ?_ (Nat.le_of_ble_eq_true rfl) ?_)))
    · rintro i acc M' _ ⟨rfl, _⟩
      exact ⟨⟨0, rfl⟩, ⟨1, rfl⟩⟩
    · rintro c M' ⟨⟨n, g1⟩, ⟨m, g2⟩⟩
      exact ⟨⟨n + 1, g1⟩, ⟨m + 1, g2⟩⟩
    · rintro i acc M' D hi _ ⟨rfl, rfl⟩ s1 H1 C1 cl fp
      have hi : i < 12 := hi
      have e1 : ∀ {f : Nat → Int}, (l12 f).getD i .non = .int (f i) := fun {f} => by rw [List.getD_eq_getElem?_getD, List.getElem?_map, List.getElem?_map, List.getElem?_range hi]; rfl
      rw [e1, e1]
      refine agw_tup rfl (agws_cons (agw_name 6 q_relaxed.nd (agws_cons (agw_name 7 q_relaxed.nd (agws_nil fun s1 H1 C1 cl fp => ats_nil ⟨fun _ s1 H1 C1 cl fp => ?_, ntf⟩)))))
      refine ae_cmp (v_ 6) (v_ 7) cmp_le ⟨_, rfl, rfl, ?_⟩
      rw [List.range_succ, List.map_append, List.map_append]
      rfl
    · rintro D acc M' ⟨rfl, rfl⟩
      exact ⟨_, .lst 0 rfl, .drop (.ok hp)⟩
abbrev GRlx (P : Program) (w : World) (K : PySem.W.Frag) (mg : Str → Option Value) (base : Heap) : Prop := Gd P w K mg base 1 "relaxed" [] fun ds _ => aRlx ds
/-! ### limits -/
theorem ae_repC {X : Cx} {Γ : Gam} {M : Mem} {es : List Expr} {b : Expr} {pos p1 : Pos} {R : Val → Mem → Prop} {ds : List Val} {j : Int} (h : aVs X es Γ M ds) (hl : ds.length ≤ sizeLine) (hb : ∀ M', aV X b Γ M' (.int j)) (h1 : 0 ≤ j) (h2 : j < 2 ^ 31) (hl2 : ds.length * j.toNat ≤ sizeLine)
    (hP : ∀ z, R (.ptr z) ((z, .lst (List.replicate j.toNat ds).flatten) :: M)) : aE X (.BinOp (.List es p1) .Mult b pos) Γ M R :=
  ae_subP (ae_bin (ae_lstC (h.val ⟨hl, fun q => (hb _).val (bv_repL (n := 0) rfl h1 h2 hl2 fun z => ⟨_, List.Sublist.cons_cons _ (List.sublist_cons_self _ _), hP z⟩)⟩)))
theorem av_subz {X : Cx} {Γ : Gam} {M : Mem} {a b : Expr} {pos : Pos} {i : Int} (ha : aV X a Γ M (.int i)) (hb : aV X b Γ M (.int 0)) : aV X (.BinOp a .Sub b pos) Γ M (.int i) := by
  have := av_sub (pos := pos) ha hb
  rw [Int.sub_zero] at this
  exact this
def aLmt (X0 : Addr) : ASp := fun ds M R => ∃ (ps : List Int) (kn : Nat) (r : Int) (g : Addr) (i : Nat), ds = [ftV X0 ps kn r, .ptr g] ∧ M[i]? = some (g, .dk []) ∧ 2 ≤ kn ∧ kn ≤ 9 ∧ ps.length ≤ 2000 ∧
  ∀ p q, R (.tup [.ptr p, .ptr q]) ((q, .lst (l12 (hgB kn (bndL ps r) (bndL ps r).length))) :: (p, .lst (l12 (lwB kn (bndL ps r) (bndL ps r).length))) :: M)
structure Lm7 (mg : Str → Option Value) : Prop where
  UNLIMITED : ∃ t, mg "UNLIMITED" = some (.int 100000000 t)
theorem b_limits (B : Bt mg) (L : Lm6 mg) (L7 : Lm7 mg) (F : FtX K X0) (GS : GSpn P w K mg base) : BodyOk P w K mg base 2 f n_PlaceFit_limits "PlaceFit.limits" (defScope c_PlaceFit_limits) (defBody c_PlaceFit_limits) (aLmt X0) := by
  rintro cdv A outer s0 H E hr ds M R ⟨ps, kn, r, g, ig, rfl, hg, k2, k9, hl, hp⟩
  have h1 := hr.u1
  have hlen : (bndL ps r).length = ps.length := bndL_len ps r
  generalize hbs : bndL ps r = bs at *
  have fld : ∀ {X : Cx} {Γ : Gam} {M : Mem} {o : Expr} {pos : Pos}, FtX X.K X0 → aV X o Γ M (ftV X0 ps kn r) → attributeBase o "own_bounds" X.env (eval o X.env) = eval o X.env → aV X (.Attribute o "own_bounds" pos) Γ M (.lst (bs.map .int)) := fun F ho hb => by
    rw [← hbs]
    exact av_fld F.cl F.n3 ho (.im _) rfl hb
  refine as_cons (as_par 2 3 q_PlaceFit_limits.nd rfl (by decide) (aa_cons (ae_repC (avs_cons i_ avs_nil) szb (fun _ => av_gi L.ITEM_COUNT) (by decide) (by decide) szb fun p => aa_cons (ae_repC (avs_cons (av_gi L7.UNLIMITED) avs_nil) szb (fun _ => av_gi L.ITEM_COUNT) (by decide) (by decide) szb fun q => aa_nil ⟨_, _, rfl, ?_⟩))))
  have e1 : (List.replicate (12 : Int).toNat [Val.int 1]).flatten = l12 (lwB kn bs 0) := rfl
  have e2 : (List.replicate (12 : Int).toNat [Val.int 100000000]).flatten = l12 (hgB kn bs 0) := rfl
  rw [e1, e2]
  refine as_cons (as_forL PassesOwn.never rfl (aj_ai (ai_enumL B.enumerate ((fld F (v_ 0) rfl).val ⟨rfl, rfl⟩)) fun M1 e => ?_))
  subst e
  rw [List.length_map]
  refine ⟨fun t Γ M' => M' = (q, .lst (l12 (hgB kn bs t))) :: (p, .lst (l12 (lwB kn bs t))) :: M ∧ Γ = [some (ftV X0 ps kn r), some (.ptr g), some (.ptr p), some (.ptr q), none, none, none, none, none, none, none, none], ⟨_, ⟨rfl, rfl⟩, (by repeat' first | exact le_nil | refine le_skip ?_ | refine le_keep rfl ?_)⟩, ?_, ?_⟩
  · rintro t Γ M' ht ⟨rfl, rfl⟩
    have he : vE kn (t + 1) < 12 := vE_lt k2 (by omega) (by omega)
    dsimp only
    rw [gdI ht]
    refine ag_tup rfl (ags_cons (ag_name 4 q_PlaceFit_limits.nd (ags_cons (ag_name 5 q_PlaceFit_limits.nd (ags_nil ?_)))))
    refine as_cons (as_asg (ae_g GS hr (by decide) (aa_cons ((av_add (v_ 4) i_).val (aa_cons ((av_ftA F (v_ 0)).val (aa_nil (ak_nil ⟨rfl, t + 1, kn, rfl, by omega, k2, k9, ag_tup rfl (ags_cons (ag_name 6 q_PlaceFit_limits.nd (ags_cons (ag_name 7 q_PlaceFit_limits.nd (ags_nil ?_)))))⟩))))))))
    have dk : DkAt ((q, Cell.lst (l12 (hgB kn bs t))) :: (p, .lst (l12 (lwB kn bs t))) :: M) g [] := .dk (ig + 2) hg
    refine as_cons (as_par 8 9 q_PlaceFit_limits.nd rfl (by decide) (aa_cons (aE.val (d := .bl (decide (t + 1 = bs.length))) (ae_cmp (av_add (v_ 4) i_) (av_lenSv B.len (fld F (v_ 0) rfl) .l) (cmp_eqI.eq (b' := decide (t + 1 = bs.length)) ?_) ⟨rfl, rfl⟩) (aa_cons ((av_dget1E (d := .non) (kk := .inl ((vE kn (t + 1) : Nat) + 1 : Int)) h1 (v_ 1) (av_add (v_ 6) i_) dk rfl).val (aa_nil ⟨_, _, rfl, ?_⟩))))))
    · by_cases z : t + 1 = bs.length
      · rw [decide_eq_true z, decide_eq_true (by omega)]
      · rw [decide_eq_false z, decide_eq_false (by omega)]
    have l12l : ∀ {f : Nat → Int}, ((List.range 12).map f).length = 12 := fun {f} => by rw [List.length_map, List.length_range]
    have most : ∀ {X : Cx} {Γ : Gam} {M : Mem} {c a b : Expr} {pos : Pos}, TP X c Γ M (decide (t + 1 = bs.length) = true) → aV X a Γ M (.int 100000000) → aV X b Γ M (.int (bs.getD t 0)) → aV X (.IfExp c a b pos) Γ M (.int (if t + 1 = bs.length then 100000000 else bs.getD t 0)) := fun hc ha hb => by
      by_cases z : t + 1 = bs.length
      · rw [if_pos z]
        exact ae_ifp hc (fun _ => ha.val ⟨rfl, rfl⟩) (fun c => absurd (decide_eq_true z) c)
      · rw [if_neg z]
        exact ae_ifp hc (fun c => absurd (of_decide_eq_true c) z) (fun _ => hb.val ⟨rfl, rfl⟩)
    have eqH : ∀ j, (if j = vE kn (t + 1) then min (hgB kn bs t (vE kn (t + 1))) (if t + 1 = bs.length then 100000000 else bs.getD t 0) else hgB kn bs t j) = hgB kn bs (t + 1) j := fun j => by
      show _ = (if vE kn (t + 1) = j then min (hgB kn bs t j) (if t + 1 = bs.length then 100000000 else bs.getD t 0) else hgB kn bs t j)
      by_cases z : j = vE kn (t + 1)
      · rw [if_pos z, if_pos z.symm, z]
      · rw [if_neg z, if_neg fun y => z y.symm]
    have eqL : ∀ j, (if j = vE kn (t + 1) then max (lwB kn bs t (vE kn (t + 1))) (if vR kn (t + 1) = 1 then 1 else bs.getD t 0) else lwB kn bs t j) = lwB kn bs (t + 1) j := fun j => by
      show _ = (if vE kn (t + 1) = j then max (lwB kn bs t j) (if vR kn (t + 1) = 1 then 1 else bs.getD t 0) else lwB kn bs t j)
      by_cases z : j = vE kn (t + 1)
      · rw [if_pos z, if_pos z.symm, z]
      · rw [if_neg z, if_neg fun y => z y.symm]
    refine as_cons (as_ifp (tp_cmp (v_ 7) i_ cp_eq) (fun c => ?_) (fun c => ?_))
    · have c : vR kn (t + 1) = 1 := by have c : ((vR kn (t + 1) : Nat) : Int) = 1 := c; omega
      rw [if_pos c] at eqL
      refine as_cons (as_setv (d := .int 1) 10 q_PlaceFit_limits.nd (ae_ifp (tp_cmp (v_ 9) n_ cp_notN) (fun c => absurd c (by decide)) (fun _ => i_.val ⟨rfl, rfl⟩)) ?_)
      refine as_one (as_setv 11 q_PlaceFit_limits.nd (most (tp_val ((v_ 8).val ⟨rfl, rfl⟩)) (av_gi L7.UNLIMITED) (av_subz (v_ 5) (av_orN (v_ 9) i_))) ?_)
      refine as_one (as_asg (ae_tup (aa_cons ((av_max2 B.max rfl (av_ixSv (v_ 2) (v_ 6) (.c (ns := (List.range 12).map (lwB kn bs t)) 1 rfl) (by omega) (by rw [l12l]; omega)) (v_ 10)).val (aa_cons ((av_min2 B.min rfl (av_ixSv (v_ 3) (v_ 6) (.c (ns := (List.range 12).map (hgB kn bs t)) 0 rfl) (by omega) (by rw [l12l]; omega)) (v_ 11)).val (aa_nil ⟨szb, ?_⟩)))))))
      refine ag_tup rfl (ags_cons (ag_sub (n := 1) (i := ((vE kn (t + 1) : Nat) : Int)) (jj := vE kn (t + 1)) (v_ 2) (v_ 6) rfl (ixN_in (by omega) (by rw [List.length_map, l12l]; omega)) (ags_cons (ag_sub (n := 0) (i := ((vE kn (t + 1) : Nat) : Int)) (jj := vE kn (t + 1)) (v_ 3) (v_ 6) rfl (ixN_in (by omega) (by rw [List.length_map, l12l]; omega)) (ags_nil ?_)))))
      rw [at12 he, at12 he, set12]
      rw [set12]
      refine ⟨_, ⟨?_, rfl⟩, (by repeat' first | exact le_nil | refine le_skip ?_ | refine le_keep rfl ?_)⟩
      rw [ext12 fun j _ => eqH j, ext12 fun j _ => eqL j]
      rfl
    · have c : ¬ vR kn (t + 1) = 1 := fun z => c (by show ((vR kn (t + 1) : Nat) : Int) = 1; omega)
      rw [if_neg c] at eqL
      refine as_one (as_par 10 11 q_PlaceFit_limits.nd rfl (by decide) (aa_cons ((v_ 5).val (aa_cons ((most (tp_val ((v_ 8).val ⟨rfl, rfl⟩)) (av_gi L7.UNLIMITED) (v_ 5)).val (aa_nil ⟨_, _, rfl, ?_⟩))))))
      refine as_one (as_asg (ae_tup (aa_cons ((av_max2 B.max rfl (av_ixSv (v_ 2) (v_ 6) (.c (ns := (List.range 12).map (lwB kn bs t)) 1 rfl) (by omega) (by rw [l12l]; omega)) (v_ 10)).val (aa_cons ((av_min2 B.min rfl (av_ixSv (v_ 3) (v_ 6) (.c (ns := (List.range 12).map (hgB kn bs t)) 0 rfl) (by omega) (by rw [l12l]; omega)) (v_ 11)).val (aa_nil ⟨szb, ?_⟩)))))))
      refine ag_tup rfl (ags_cons (ag_sub (n := 1) (i := ((vE kn (t + 1) : Nat) : Int)) (jj := vE kn (t + 1)) (v_ 2) (v_ 6) rfl (ixN_in (by omega) (by rw [List.length_map, l12l]; omega)) (ags_cons (ag_sub (n := 0) (i := ((vE kn (t + 1) : Nat) : Int)) (jj := vE kn (t + 1)) (v_ 3) (v_ 6) rfl (ixN_in (by omega) (by rw [List.length_map, l12l]; omega)) (ags_nil ?_)))))
      rw [at12 he, at12 he, set12]
      rw [set12]
      refine ⟨_, ⟨?_, rfl⟩, (by repeat' first | exact le_nil | refine le_skip ?_ | refine le_keep rfl ?_)⟩
      rw [ext12 fun j _ => eqH j, ext12 fun j _ => eqL j]
      rfl
  · rintro Γ M' ⟨rfl, rfl⟩
    exact as_one (as_retv (av_tup (avs_cons (v_ 2) (avs_cons (v_ 3) avs_nil)) szb) (.ok (hp p q)))
/-! ### known_frequency, spine_item -/
theorem av_ftB {X : Cx} {Γ : Gam} {M : Mem} {o : Expr} {pos : Pos} {ps : List Int} {kn : Nat} {r : Int} (N : FtX X.K X0) (ho : aV X o Γ M (ftV X0 ps kn r)) (hb : attributeBase o "own_bounds" X.env (eval o X.env) = eval o X.env := by rfl) : aV X (.Attribute o "own_bounds" pos) Γ M (.lst ((bndL ps r).map .int)) := av_fld N.cl N.n3 ho (.im _) rfl hb
def knF (kn : Nat) (bs : List Int) (e : Nat) : Val := if kn ^ e < bs.length then .int (bs.getD (kn ^ e - 1) 0) else .non
def aKnf (X0 : Addr) : ASp := fun ds M R => ∃ (ps : List Int) (kn : Nat) (r : Int) (e : Nat), ds = [ftV X0 ps kn r, .int (e : Int)] ∧ 2 ≤ kn ∧ kn ≤ 9 ∧ e ≤ 11 ∧ R (knF kn (bndL ps r) e) M
theorem b_knf (B : Bt mg) (F : FtX K X0) (GP : GPwr P w K mg base) : BodyOk P w K mg base 1 f n_PlaceFit_known_frequency "PlaceFit.known_frequency" (defScope c_PlaceFit_known_frequency) (defBody c_PlaceFit_known_frequency) (aKnf X0) := by
  rintro cdv A outer s0 H E hr ds M R ⟨ps, kn, r, e, rfl, k2, k9, he, hp⟩
  refine as_cons (as_set 2 q_PlaceFit_known_frequency.nd (ae_g GP hr (by decide) (aa_cons ((av_ftA F (v_ 0)).val (aa_cons ((v_ 1).val (aa_nil (ak_nil ⟨rfl, kn, e, rfl, k2, k9, by omega, ?_⟩))))))))
  have hp0 : 0 < kn ^ e := Nat.pow_pos (by omega)
  refine as_one (as_ret (ae_ifp (tp_cmp (v_ 2) (av_lenSv B.len (av_ftB F (v_ 0)) .l) cp_lt) (fun c => ?_) (fun c => ?_)))
  · have c : kn ^ e < (bndL ps r).length := by
      have : ((kn ^ e : Nat) : Int) < ((bndL ps r).length : Int) := c
      omega
    unfold knF at hp
    rw [if_pos c] at hp
    exact (av_ixSv (i := ((kn ^ e - 1 : Nat) : Int)) (av_ftB F (v_ 0)) ((av_sub (v_ 2) i_).val ⟨by rw [Int.natCast_sub hp0]; rfl, rfl⟩) .l (by omega) (by omega)).val (.ok hp)
  · have c : ¬ kn ^ e < (bndL ps r).length := fun z => c (by show ((kn ^ e : Nat) : Int) < ((bndL ps r).length : Int); omega)
    unfold knF at hp
    rw [if_neg c] at hp
    exact n_.val (.ok hp)
def spI (kn : Nat) (bs : List Int) (r : Int) (W : Nat → Int) (e : Nat) : Int := if kn ^ e < bs.length then bs.getD (kn ^ e - 1) 0 - W e else if kn ^ e = bs.length then max 0 (r - W e) else 0
def aSpi6 (X0 : Addr) : ASp := fun ds M R => ∃ (ps : List Int) (kn : Nat) (r : Int) (e i : Nat) (p : Addr) (W : Nat → Int), ds = [ftV X0 ps kn r, .ptr p, .int (e : Int)] ∧ M[i]? = some (p, .lst (l12 W)) ∧ 2 ≤ kn ∧ kn ≤ 9 ∧ e ≤ 11 ∧ R (.int (spI kn (bndL ps r) r W e)) M
theorem b_spine_item (B : Bt mg) (F : FtX K X0) (GP : GPwr P w K mg base) (XK : MtF P w K mg base X0 "known_frequency" 2 (aKnf X0)) : BodyOk P w K mg base 2 f n_PlaceFit_spine_item "PlaceFit.spine_item" (defScope c_PlaceFit_spine_item) (defBody c_PlaceFit_spine_item) (aSpi6 X0) := by
  rintro cdv A outer s0 H E hr ds M R ⟨ps, kn, r, e, i, p, W, rfl, hi, k2, k9, he, hp⟩
  have hp0 : 0 < kn ^ e := Nat.pow_pos (by omega)
  have sW : ∀ {X : Cx} {Γ : Gam} {a b : Expr} {pos : Pos}, aV X a Γ M (.ptr p) → aV X b Γ M (.int (e : Int)) → PlainIx b → aV X (.Subscript a b pos) Γ M (.int (W e)) := fun {X Γ a b pos} ha hb hx => by
    have := av_ixSv (pos := pos) ha hb (.c (ns := (List.range 12).map W) i hi) (by omega) (by rw [List.length_map, List.length_range]; omega) hx
    rw [at12 (by omega)] at this
    exact this
  refine as_cons (as_set 3 q_PlaceFit_spine_item.nd (ae_mt1 F.cl XK.ex hr (by decide) (v_ 0) (.im _) ((v_ 2).val ⟨ps, kn, r, e, rfl, k2, k9, he, ?_⟩)))
  unfold spI at hp
  unfold knF
  by_cases z : kn ^ e < (bndL ps r).length
  · rw [if_pos z] at hp ⊢
    refine as_cons (as_ifp (tp_cmp (v_ 3) n_ cp_notN) (fun _ => ?_) (fun c => absurd rfl c))
    exact as_one (as_retv (av_sub (v_ 3) (sW (v_ 1) (v_ 2) fun _ _ => rfl)) (.ok hp))
  · rw [if_neg z] at hp ⊢
    refine as_cons (as_ifp (tp_cmp (v_ 3) n_ cp_notN) (fun c => absurd c (by decide)) (fun _ => as_nil ?_))
    refine as_cons (as_set 4 q_PlaceFit_spine_item.nd (ae_cmpM (ae_g GP hr (by decide) (aa_cons ((av_ftA F (v_ 0)).val (aa_cons ((v_ 2).val (aa_nil (ak_nil ⟨rfl, kn, e, rfl, k2, k9, by omega, (av_lenSv B.len (av_ftB F (v_ 0)) .l).val ⟨_, cmp_eqI, ?_⟩⟩)))))))))
    by_cases y : kn ^ e = (bndL ps r).length
    · rw [if_pos y] at hp
      rw [decide_eq_true (show ((kn ^ e : Nat) : Int) = ((bndL ps r).length : Int) by omega)]
      exact as_one (as_ret (ae_ifp (tp_val (k := true) ((v_ 4).val ⟨rfl, rfl⟩)) (fun _ => (av_max2 B.max rfl i_ (av_sub (av_ftR F (v_ 0)) (sW (v_ 1) (v_ 2) fun _ _ => rfl))).val (.ok hp)) (fun c => absurd rfl c)))
    · rw [if_neg y] at hp
      rw [decide_eq_false (show ¬ ((kn ^ e : Nat) : Int) = ((bndL ps r).length : Int) by omega)]
      exact as_one (as_ret (ae_ifp (tp_val (k := false) ((v_ 4).val ⟨rfl, rfl⟩)) (fun c => absurd c (by decide)) (fun _ => i_.val (.ok hp))))
/-! ### is_item_name -/
def ixS : List Str := (List.range 12).map fun (n : Nat) => iS n
/-- the tuple of the indexes -/
structure IxK (K : PySem.W.Frag) (mg : Str → Option Value) (T : Addr) : Prop where
  g : mg "INDEXES" = some (.ref T)
  k : ∃ o, K.lookup T = some o ∧ o.cls = .type "tuple" ∧ o.dict = none
  t : ∀ H, SqT K H T (ixS.map V.str)
theorem repA_strs {K : PySem.W.Frag} {H : Hp} : ∀ ys : List Str, RepA K H (ys.map Val.str) (ys.map V.str)
  | [] => .nil
  | y :: ys => .cons (.str y) (repA_strs ys)
theorem ixS_dg : ixS.map Val.str = dgV := by
  unfold ixS dgV
  rw [List.map_map]
  rfl
theorem av_ixs {X : Cx} {Γ : Gam} {M : Mem} {pos : Pos} {T : Addr} (IX : IxK X.K X.mg T) (hg : Gl X "INDEXES" := by rfl) : aV X (.Name "INDEXES" pos) Γ M (.tup dgV) :=
  fun Hi H σ ok _ Q q => ⟨_, pe_glob (v := .ref T) hg IX.g rfl (by decide), q _ M (.ref T) Hi H ⟨rfl, rfl⟩ (Same.refl _) ok (by rw [← ixS_dg]; exact .tup (IX.t _) (repA_strs _))⟩
def aIin : ASp := fun ds M R => ∃ (x : Str) (b : Bool) (n : Nat), ds = [.str x] ∧ KwI x b n ∧ R (.bl true) M
theorem b_is_item_name {T : Addr} (B : Bt mg) (hs : mg "str" = none) (IX : IxK K mg T) : BodyOk P w K mg base k f n_is_item_name "is_item_name" (defScope s_is_item_name) (defBody s_is_item_name) aIin := by
  rintro cdv A outer s0 H E hr ds M R ⟨x, b, n, rfl, h, hp⟩
  have hu := hr.u65
  have hlen := h.len
  have o1 : PyData.strOk (cutS x none (some 1)) = true := by
    rw [h.f]
    cases b <;> decide +kernel
  have o2 : PyData.strOk (cutS x (some 1) none) = true := by
    rw [h.r]
    exact (ok12 n h.n12).1
  refine as_one (as_ret (ae_and (ae_isi B.isinstance (v_ 0) (av_ty (T := "str") hs (by decide +kernel)) (.ty "str") (.str x) (kit_ty (by decide +kernel)) ⟨true, rfl, fun _ => ?_, ntf⟩)))
  have in1 : ∀ {X : Cx} {M : Mem}, X.A.units + 65 < cLine → Cmp X .In M (.str (cutS x none (some 1))) (.tup [.str "d", .str "w"]) true := fun {X M} hu => by
    obtain ⟨k, hc, hi⟩ := cp_inT (X := X) (M := M) (.self _) (.self _) (show nbV (.str _) from o1) dw_nb (Nat.le_of_ble_eq_true rfl) (Nat.le_of_ble_eq_true rfl) hu
    rw [hi.mpr (dw_mem.mpr (by rw [h.f]; cases b <;> simp))] at hc
    exact hc
  have in2 : ∀ {X : Cx} {M : Mem}, X.A.units + 65 < cLine → Cmp X .In M (.str (cutS x (some 1) none)) (.tup dgV) true := fun {X M} hu => by
    obtain ⟨k, hc, hi⟩ := cp_inT (X := X) (M := M) (.self _) (.self _) (show nbV (.str _) from o2) dgV_nb (Nat.le_of_ble_eq_true rfl) (Nat.le_of_ble_eq_true rfl) hu
    rw [hi.mpr (dgV_mem.mpr ⟨n, h.n12, h.r⟩)] at hc
    exact hc
  refine ae_and (ae_cmp (av_sliceS (v_ 0) ao_none (ao_some i_) (sz (by omega))) (av_tup (avs_cons s_ (avs_cons s_ avs_nil)) szb) (in1 hu) ⟨true, rfl, fun _ => ?_, ntf⟩)
  refine ae_one (ae_cmp (av_sliceS (v_ 0) (ao_some i_) ao_none (sz (by omega))) (av_ixs IX) (in2 hu) (.ok hp))
abbrev GIin (P : Program) (w : World) (K : PySem.W.Frag) (mg : Str → Option Value) (base : Heap) : Prop := Gd P w K mg base 1 "is_item_name" [] fun ds _ => aIin ds
/-! ### range_of -/
theorem perm3 {α : Type} {a b c : α} {l : List α} : (a :: b :: c :: l).Perm (c :: b :: a :: l) :=
  (List.Perm.swap b a (c :: l)).trans (((List.Perm.swap c a l).cons b).trans (List.Perm.swap c b (a :: l)))
/-- the range of an item of the spine -/
def rgD (ps : List Int) (kn : Nat) (r : Int) (n : Nat) : Val :=
  if n = 0 then (if ps = [] then .tup [.int r, .int 1000000] else .tup [.int (ps.getD 0 0), .int (ps.getD 0 0)])
  else if kn ^ (n - 1) < (bndL ps r).length then .tup [.int ((bndL ps r).getD (kn ^ (n - 1) - 1) 0 - sfm (hgB kn (bndL ps r) (bndL ps r).length) 12 (n - 1)), .int ((bndL ps r).getD (kn ^ (n - 1) - 1) 0 - pmx (lwB kn (bndL ps r) (bndL ps r).length) (n - 1))]
  else .tup [.int 0, .int 1000000]
def aRng (X0 : Addr) : ASp := fun ds M R => ∃ (ps : List Int) (kn : Nat) (r : Int) (x : Str) (n : Nat), ds = [ftV X0 ps kn r, .str x] ∧ KwI x true n ∧ 2 ≤ kn ∧ kn ≤ 9 ∧ ps.length ≤ 2000 ∧ R (rgD ps kn r n) M
theorem ixS_at {n : Nat} (h : n < 12) : ixS[n]? = some (iS (n : Nat)) := by
  unfold ixS
  rw [List.getElem?_map, List.getElem?_range h]
  rfl
theorem iS_ne : ∀ n < 12, ∀ m < n, iS (m : Nat) ≠ iS (n : Nat) := by decide +kernel
theorem b_range_of {T : Addr} (B : Bt mg) (L : Lm6 mg) (IX : IxK K mg T) (F : FtX K X0) (GI : GIin P w K mg base) (GR : GRlx P w K mg base) (XL : MtF P w K mg base X0 "limits" 3 (aLmt X0)) (XK : MtF P w K mg base X0 "known_frequency" 2 (aKnf X0)) : BodyOk P w K mg base 3 f n_PlaceFit_range_of "PlaceFit.range_of" (defScope c_PlaceFit_range_of) (defBody c_PlaceFit_range_of) (aRng X0) := by
  rintro cdv A outer s0 H E hr ds M R ⟨ps, kn, r, x, n, rfl, h, k2, k9, hl, hp⟩
  have hu := hr.u64
  have hlen := h.len
  have n12 := h.n12
  obtain ⟨o, k1, k3, k4⟩ := IX.k
  refine as_cons (as_if (at_not (at_val (ae_g GI hr (by decide) (aa_cons ((v_ 1).val (aa_nil (ak_nil ⟨rfl, x, true, n, rfl, h, true, rfl, nft, fun _ => as_nil ?_⟩))))))))
  refine as_cons (as_setv (d := .int (n : Nat)) 2 q_PlaceFit_range_of.nd (av_tupIdx (ae_glob IX.g ⟨rfl, rfl⟩) k1 k3 k4 IX.t (av_sliceS (v_ 1) (ao_some i_) ao_none (sz (by omega))) (by rw [h.r]; exact ixS_at n12) ?_) ?_)
  · intro m hm
    rw [ixS_at (by omega)]
    intro e
    rw [h.r] at e
    exact iS_ne n n12 m hm (Option.some.inj e)
  refine as_cons (as_asg (ae_mt1 F.cl XL.ex hr (by decide) (v_ 0) (.im _) (ae_dict0 fun g => ⟨ps, kn, r, g, 0, rfl, rfl, k2, k9, hl, fun p q => ag_tup rfl (ags_cons (ag_name 3 q_PlaceFit_range_of.nd (ags_cons (ag_name 4 q_PlaceFit_range_of.nd (ags_nil ?_)))))⟩)))
  refine as_cons (as_expr (ae_g GR hr (by decide) (aa_cons ((v_ 3).val (aa_cons ((v_ 4).val (aa_cons (ae_perm (ae_dict0 fun g2 => ⟨_, perm3, aa_nil (ak_nil ⟨rfl, p, q, g2, _, _, _, rfl, rfl, ?_⟩)⟩)))))))))
  generalize hbs : bndL ps r = bs at *
  have fin : ∀ {d : Val} {M0 : Mem} {c1 c2 c3 c4 : Addr × Cell}, R d M0 → Ret R d (c1 :: c2 :: c3 :: c4 :: M0) := fun h => .drop (.drop (.drop (.drop (.ok h))))
  have l12l : ∀ {f : Nat → Int}, ((List.range 12).map f).length = 12 := fun {f} => by rw [List.length_map, List.length_range]
  obtain ⟨cc, hat, hcc⟩ := h.c0
  refine as_cons (as_ifp (tp_cmp (av_ixS (v_ 1) i_ (sz (by omega)) hat) s_ cp_eqS) (fun c => ?_) (fun _ => as_nil ?_))
  · exfalso
    have c : (⟨#[cc]⟩ : Str) = "w" := c
    rw [hcc] at c
    exact absurd c (by decide +kernel)
  by_cases z : n = 0
  · subst z
    refine as_cons (as_ifp (tp_cmp (v_ 2) i_ cp_eq) (fun _ => ?_) (fun c => absurd rfl c))
    unfold rgD at hp
    rw [if_pos rfl] at hp
    by_cases y : ps = []
    · rw [if_pos y] at hp
      subst y
      exact as_one (as_ret (ae_ifp (tp_cmp (av_ftP F (v_ 0)) (av_tup avs_nil szb) (cp_neT (ns := []) (ms := []) hu)) (fun c => absurd rfl c) (fun _ => (av_tup (avs_cons (av_ftR F (v_ 0)) (avs_cons (av_gi L.MOST_LABELS) avs_nil)) szb).val (fin hp))))
    · rw [if_neg y] at hp
      have hpos := List.length_pos_iff.mpr y
      exact as_one (as_ret (ae_ifp (tp_cmp (av_ftP F (v_ 0)) (av_tup avs_nil szb) (cp_neT (ns := ps) (ms := []) hu)) (fun _ => (av_tup (avs_cons (av_ixSv (av_ftP F (v_ 0)) i_ .t (by decide) (by omega)) (avs_cons (av_ixSv (av_ftP F (v_ 0)) i_ .t (by decide) (by omega)) avs_nil)) szb).val (fin hp)) (fun c => absurd (fun e => y e) c)))
  · refine as_cons (as_ifp (tp_cmp (v_ 2) i_ cp_eq) (fun c => absurd (show ((n : Nat) : Int) = 0 from c) (by omega)) (fun _ => as_nil ?_))
    refine as_cons (as_set 6 q_PlaceFit_range_of.nd (ae_mt1 F.cl XK.ex hr (by decide) (v_ 0) (.im _) ((av_sub (v_ 2) i_).val ⟨ps, kn, r, n - 1, by rw [show ((n : Nat) : Int) - 1 = ((n - 1 : Nat) : Int) by omega]; rfl, k2, k9, by omega, ?_⟩)))
    rw [hbs]
    unfold rgD at hp
    rw [if_neg z, hbs] at hp
    unfold knF
    have ixn : ∀ {X : Cx} {Γ : Gam} {M : Mem} {a b : Expr} {pos : Pos} {p : Addr} {f : Nat → Int} (i : Nat), aV X a Γ M (.ptr p) → aV X b Γ M (.int (((n - 1 : Nat)) : Int)) → PlainIx b → M[i]? = some (p, .lst (l12 f)) → aV X (.Subscript a b pos) Γ M (.int (f (n - 1))) := fun {X Γ M a b pos p f} i ha hb hx hi => by
      have := av_ixSv (pos := pos) ha hb (.c (ns := (List.range 12).map f) i hi) (by omega) (by rw [l12l]; omega) hx
      rw [at12 (by omega)] at this
      exact this
    by_cases y : kn ^ (n - 1) < bs.length
    · rw [if_pos y] at hp ⊢
      exact as_one (as_ret (ae_ifp (tp_cmp (v_ 6) n_ cp_isN) (fun c => by cases c) (fun _ => (av_tup (avs_cons (av_sub (v_ 6) (ixn 1 (v_ 4) ((av_sub (v_ 2) i_).val ⟨by rw [show ((n : Nat) : Int) - 1 = ((n - 1 : Nat) : Int) by omega], rfl⟩) (fun _ _ => rfl) rfl)) (avs_cons (av_sub (v_ 6) (ixn 0 (v_ 3) ((av_sub (v_ 2) i_).val ⟨by rw [show ((n : Nat) : Int) - 1 = ((n - 1 : Nat) : Int) by omega], rfl⟩) (fun _ _ => rfl) rfl)) avs_nil)) szb).val (fin hp))))
    · rw [if_neg y] at hp ⊢
      exact as_one (as_ret (ae_ifp (tp_cmp (v_ 6) n_ cp_isN) (fun _ => (av_tup (avs_cons i_ (avs_cons (av_gi L.MOST_LABELS) avs_nil)) szb).val (fin hp)) (fun c => absurd rfl c)))
/-! ### completed, no items given -/
theorem at_tp {X : Cx} {c : Expr} {Γ : Gam} {M : Mem} {p : Prop} {R : Bool → Mem → Prop} (h : TP X c Γ M p) (h1 : p → R true M) (h2 : ¬ p → R false M) : aT X c Γ M R := by
  obtain ⟨b, hb, i⟩ := h
  refine hb.val ?_
  cases b with
  | true => exact h1 (i.mp rfl)
  | false => exact h2 fun z => by cases i.mpr z
def cm0 (ps : List Int) (r : Int) : Int := if ps = [] then r else ps.getD 0 0
def cmSc (ps : List Int) (kn : Nat) (r : Int) : Sc := ⟨(kn : Int), nf (cmS kn (bndL ps r) r (cm0 ps r), [0]), nf (cmL kn (bndL ps r), [0])⟩
def aCmp (C X0 : Addr) : ASp := fun ds M R => ∃ (ps : List Int) (kn : Nat) (r : Int) (p : Addr) (M0 : Mem), ds = [ftV X0 ps kn r, .ptr p] ∧ M = (p, .dk []) :: M0 ∧ 2 ≤ kn ∧ kn ≤ 9 ∧ ps.length ≤ 2000 ∧ NoCf kn (bndL ps r) ∧
  (∀ j, j < (bndL ps r).length → 1 ≤ (bndL ps r).getD j 0 ∧ (bndL ps r).getD j 0 ≤ 1000000) ∧ 0 ≤ cm0 ps r ∧ cm0 ps r ≤ 1000000 ∧ r ≤ 1000000 ∧ R (scV C (cmSc ps kn r)) M0
theorem kwI_d0 : KwI "d0" true 0 := ⟨by decide +kernel, by decide +kernel, by decide, ⟨("d0" : Str).cps.toList.getD 0 0, by decide +kernel, by decide +kernel⟩, by decide +kernel, fun h => nomatch h⟩
theorem b_completed (B : Bt mg) (L : Lm6 mg) (mz : mg "zip" = none) (F : FtX K X0) (T : Rs K mg C) (I : Mks P w K mg base C) (GR : GRlx P w K mg base) (XR : MtF P w K mg base X0 "range_of" 4 (aRng X0)) (XL : MtF P w K mg base X0 "limits" 3 (aLmt X0)) (XS : MtF P w K mg base X0 "spine_item" 3 (aSpi6 X0)) : BodyOk P w K mg base 5 f n_PlaceFit_completed "PlaceFit.completed" (defScope c_PlaceFit_completed) (defBody c_PlaceFit_completed) (aCmp C X0) := by
  rintro cdv A outer s0 H E hr ds M R ⟨ps, kn, r, p, M0, rfl, rfl, k2, k9, hl, hc, hb, hs0, hs1, hr1, hp⟩
  have hu := hr.u64
  have h1 := hr.u1
  refine as_cons (as_par 2 3 q_PlaceFit_completed.nd rfl (by decide) (aa_cons (ae_dict0 fun q1 => aa_cons (ae_dict0 fun q2 => aa_nil ⟨_, _, rfl, ?_⟩))))
  refine as_cons (as_lock (n := 2) rfl fun od kvs => as_for (G := Lk p od kvs []) (fun i Γ M' => M' = (q2, .dk []) :: (q1, .dk []) :: (p, .b (.fz od kvs [])) :: M0 ∧ Γ = [some (ftV X0 ps kn r), some (.ptr p), some (.ptr q1), some (.ptr q2), none, none, none, none, none, none, none, none, none, none, none]) PassesOwn.never rfl (ai_keysZ ((v_ 1).val ⟨rfl, ⟨2, rfl⟩, rfl, rfl⟩)) (fun i Γ M' _ h => by obtain ⟨rfl, _⟩ := h; exact ⟨2, rfl⟩) (fun i Γ M' hi => absurd hi (Nat.not_lt_zero _)) ?_)
  rintro Γ M' ⟨rfl, rfl⟩
  refine ⟨2, rfl, ?_⟩
  refine as_cons (as_lock (n := 2) rfl fun od kvs => as_for (G := Lk p od kvs []) (fun i Γ M' => M' = (q2, .dk []) :: (q1, .dk []) :: (p, .b (.fz od kvs [])) :: M0 ∧ Γ = [some (ftV X0 ps kn r), some (.ptr p), some (.ptr q1), some (.ptr q2), none, none, none, none, none, none, none, none, none, none, none]) PassesOwn.never rfl (ai_itemsZ ((v_ 1).val ⟨rfl, ⟨2, rfl⟩, rfl, rfl⟩)) (fun i Γ M' _ h => by obtain ⟨rfl, _⟩ := h; exact ⟨2, rfl⟩) (fun i Γ M' hi => absurd hi (Nat.not_lt_zero _)) ?_)
  rintro Γ M' ⟨rfl, rfl⟩
  refine ⟨2, rfl, ?_⟩
  show aSs _ _ _ ((q2, .dk []) :: (q1, .dk []) :: (p, .dk []) :: M0) _
  obtain ⟨mx, emx, hmx⟩ : ∃ mx : Int, rgD ps kn r 0 = .tup [.int (cm0 ps r), .int mx] ∧ cm0 ps r ≤ mx := by
    unfold rgD cm0 at *
    by_cases z : ps = []
    · rw [if_pos rfl, if_pos z, if_pos z]
      rw [if_pos z] at hs1
      exact ⟨_, rfl, hs1⟩
    · rw [if_pos rfl, if_neg z, if_neg z]
      exact ⟨_, rfl, Int.le_refl _⟩
  refine as_cons (as_asg (ae_mt1 F.cl XR.ex hr (by decide) (v_ 0) (.im _) (s_.val ⟨ps, kn, r, "d0", 0, rfl, kwI_d0, k2, k9, hl, ?_⟩)))
  rw [emx]
  refine ag_tup rfl (ags_cons (ag_name 6 q_PlaceFit_completed.nd (ags_cons (ag_name 7 q_PlaceFit_completed.nd (ags_nil ?_)))))
  refine as_cons (as_asg (ae_mt1 F.cl XL.ex hr (by decide) (v_ 0) (.im _) ((v_ 2).val ⟨ps, kn, r, q1, 1, rfl, rfl, k2, k9, hl, fun pl ph => ag_tup rfl (ags_cons (ag_name 8 q_PlaceFit_completed.nd (ags_cons (ag_name 9 q_PlaceFit_completed.nd (ags_nil ?_)))))⟩)))
  refine as_perm (List.Perm.swap _ _ _) ?_
  have hb8 : BdOk (bndL ps r) := fun j hj => ⟨(hb j hj).1, by have := (hb j hj).2; omega⟩
  have hall : (((List.range 12).map fun i => decide (pmx (lwB kn (bndL ps r) (bndL ps r).length) i ≤ sfm (hgB kn (bndL ps r) (bndL ps r).length) 12 i)).all id) = true := by
    rw [List.all_eq_true]
    intro x hx
    obtain ⟨i, hi, rfl⟩ := List.mem_map.mp hx
    exact decide_eq_true (pm_le_sf hc hb8 (by have := List.mem_range.mp hi; omega))
  refine as_cons (as_if (at_w (aw_or (at_tp (tp_not (tp_chain (v_ 6) (av_dgetE (kk := .inl 0) (d := .int (cm0 ps r)) h1 (v_ 2) i_ (v_ 6) (.dk 3 rfl) rfl) (v_ 7) cp_le cp_le)) (fun c => absurd ⟨Int.le_refl _, hmx⟩ c) (fun _ => ⟨nft, fun _ => ?_⟩)))))
  refine aw_or1 (at_not (at_val (ae_g GR hr (by decide) (aa_cons ((v_ 8).val (aa_cons ((v_ 9).val (aa_cons ((v_ 3).val (aa_nil (ak_nil ⟨rfl, pl, ph, q2, _, _, _, rfl, rfl, ?_⟩)))))))))))
  rw [hall]
  refine ⟨true, rfl, nft, fun _ => as_nil ?_⟩
  refine as_cons (as_set 10 q_PlaceFit_completed.nd (ae_lstC (aa_cons ((av_dgetE (kk := .inl 0) (d := .int (cm0 ps r)) h1 (v_ 2) i_ (v_ 6) (.dk 3 rfl) rfl).val (aa_nil ⟨szb, fun qf => ?_⟩)))))
  have eI : ∀ e, spI kn (bndL ps r) r (pmx (lwB kn (bndL ps r) (bndL ps r).length)) e = cmI kn (bndL ps r) r e := fun _ => rfl
  refine as_cons (as_forL PassesOwn.never rfl (aj_range1 B.range ((av_sub (av_gi L.ITEM_COUNT) i_).val ⟨_, rfl, by decide, by decide, ?_⟩)))
  rw [show ((12 : Int) - 1).toNat = 11 by decide]
  refine ⟨fun t Γ M' => M' = (qf, .lst ((cm0 ps r :: (List.range t).map (cmI kn (bndL ps r) r)).map .int)) :: (pl, .lst (l12 (pmx (lwB kn (bndL ps r) (bndL ps r).length)))) :: (ph, .lst (l12 (sfm (hgB kn (bndL ps r) (bndL ps r).length) 12))) :: (q2, .dk []) :: (q1, .dk []) :: (p, .dk []) :: M0 ∧ Γ = [some (ftV X0 ps kn r), none, some (.ptr q1), none, none, none, none, none, some (.ptr pl), none, some (.ptr qf), none, none, none, none], ⟨_, ⟨rfl, rfl⟩, (by repeat' first | exact le_nil | refine le_skip ?_ | refine le_keep rfl ?_)⟩, ?_, ?_⟩
  · rintro t Γ M' ht ⟨rfl, rfl⟩
    dsimp only
    rw [Int.zero_add]
    refine ag_name 11 q_PlaceFit_completed.nd ?_
    refine as_cons (as_setv (d := .non) 5 q_PlaceFit_completed.nd (av_dget1E (kk := .inl ((t : Int) + 1)) h1 (v_ 2) (av_add (v_ 11) i_) (.dk 4 rfl) rfl) ?_)
    refine as_one (as_expr (ae_append (n0 := 0) (v_ 10) rfl (ae_ifp (tp_cmp (v_ 5) n_ cp_notN) (fun c => absurd c (by decide)) (fun _ => ?_))))
    obtain ⟨fs, ms, FS⟩ := XS.ex
    refine ae_methG F.cl ms (FS.mono (show 3 ≤ 5 by decide)) (hr.mono (by decide)) ((v_ 0).val ⟨(Ob.im _).obM rfl, aa_cons ((v_ 8).val (aa_cons ((v_ 11).val (aa_nil (ak_nil ⟨rfl, ps, kn, r, t, 1, pl, _, rfl, rfl, k2, k9, by omega, 0, _, rfl, szl ?_, ?_⟩)))))⟩)
    · rw [List.length_map, List.length_cons, List.length_map, List.length_range]
      omega
    · rw [eI]
      refine ⟨_, ⟨?_, rfl⟩, (by repeat' first | exact le_nil | refine le_skip ?_ | refine le_keep rfl ?_)⟩
      rw [List.range_succ, List.map_append, List.map_cons, List.map_cons, List.map_append]
      rfl
  rintro Γ M' ⟨rfl, rfl⟩
  refine as_perm (List.Perm.swap _ _ _) ?_
  refine as_frz 8 rfl ?_
  have eW : ∀ e, pmx (lwB kn (bndL ps r) (bndL ps r).length) e = cmW kn (bndL ps r) e := fun _ => rfl
  refine as_cons (as_setv (d := .lst ((cmL kn (bndL ps r)).map .int)) 12 q_PlaceFit_completed.nd (av_catL (xs := [.int (cmW kn (bndL ps r) 0)]) (ys := (List.range 11).map fun (e : Nat) => .int (cmW kn (bndL ps r) (e + 1) - cmW kn (bndL ps r) e)) (av_lst (avs_cons (av_ixSv (ns := (List.range 12).map (cmW kn (bndL ps r))) (v_ 8) i_ .l (by decide) (by rw [List.length_map, List.length_range]; decide)) avs_nil) szb) ?_ (.self _) (.self _) szb) ?_)
  · refine ae_lcP [("earlier", 13), ("later", 14)] (fun (e : Nat) => .int (cmW kn (bndL ps r) (e + 1) - cmW kn (bndL ps r) e)) rfl q_PlaceFit_completed.nd (blkOk_by (N := n_PlaceFit_completed) (sc := defScope c_PlaceFit_completed) (by decide +kernel)) (ai_zipL mz (xs := l12 (cmW kn (bndL ps r))) (ys := (l12 (cmW kn (bndL ps r))).drop 1) (aA.val (avs_cons (v_ 8) (avs_cons (by rw [← cut_1]; exact av_sliceL (v_ 8) (ao_some i_) ao_none (.self _)) avs_nil)) ⟨rfl, rfl⟩)) ?_ (Nat.le_of_ble_eq_true rfl) ⟨rfl, rfl⟩
    intro i acc D hi s1 H1 C1 cl fp
    have hi : i < 11 := hi
    have e1 : (l12 (cmW kn (bndL ps r))).getD i .non = .int (cmW kn (bndL ps r) i) := by rw [List.getD_eq_getElem?_getD, List.getElem?_map, List.getElem?_map, List.getElem?_range (by omega)]; rfl
    have e2 : ((l12 (cmW kn (bndL ps r))).drop 1).getD i .non = .int (cmW kn (bndL ps r) (i + 1)) := by rw [List.getD_eq_getElem?_getD, List.getElem?_drop, Nat.add_comm 1 i, List.getElem?_map, List.getElem?_map, List.getElem?_range (by omega)]; rfl
    rw [e1, e2]
    refine agw_tup rfl (agws_cons (agw_name 13 q_PlaceFit_completed.nd (agws_cons (agw_name 14 q_PlaceFit_completed.nd (agws_nil fun s1 H1 C1 cl fp => ?_)))))
    exact (av_sub (v_ 14) (v_ 13)).val ⟨rfl, rfl⟩
  have hr0 : r ≤ 1000000 := hr1
  have w1 : ∀ e, 1 ≤ cmW kn (bndL ps r) e := fun _ => cmW_one
  have wt : ∀ e, cmW kn (bndL ps r) e ≤ 1000000 := fun _ => cmW_top (by decide) fun j hj => (hb j hj).2
  have limS : Lim (cmS kn (bndL ps r) r (cm0 ps r), [0]) := by
    refine ⟨?_, Nat.le_of_ble_eq_true rfl, List.cons_ne_nil _ _, fun v hv => ?_, fun v hv => by rw [List.mem_singleton.mp hv]; exact ⟨by decide, by decide⟩⟩
    · show (cmS kn (bndL ps r) r (cm0 ps r)).length ≤ 12
      unfold cmS
      rw [List.length_cons, List.length_map, List.length_range]
      decide
    · rcases List.mem_cons.mp hv with rfl | hv
      · exact ⟨hs0, hs1⟩
      · obtain ⟨e, he, rfl⟩ := List.mem_map.mp hv
        exact ⟨cmI_nn k2 hc hb8 (by have := List.mem_range.mp he; omega), cmI_top (by decide) hr1 fun j hj => (hb j hj).2⟩
  have limL : Lim (cmL kn (bndL ps r), [0]) := by
    refine ⟨?_, Nat.le_of_ble_eq_true rfl, List.cons_ne_nil _ _, fun v hv => ?_, fun v hv => by rw [List.mem_singleton.mp hv]; exact ⟨by decide, by decide⟩⟩
    · show (cmL kn (bndL ps r)).length ≤ 12
      unfold cmL
      rw [List.length_cons, List.length_map, List.length_range]
      decide
    · rcases List.mem_cons.mp hv with rfl | hv
      · exact ⟨by have := w1 0; omega, wt 0⟩
      · obtain ⟨e, he, rfl⟩ := List.mem_map.mp hv
        have a1 := w1 e
        have a2 := wt (e + 1)
        have a3 : cmW kn (bndL ps r) e ≤ cmW kn (bndL ps r) (e + 1) := pmx_step e
        exact ⟨by omega, by omega⟩
  have h0 : item (cmL kn (bndL ps r), [0]) 0 ≠ 0 := by
    rw [cmL_0]
    have := w1 0
    omega
  refine as_one (as_ret (ae_sch T I hr (by decide) ((av_ftA F (v_ 0)).val ((av_tup (avs_cons (av_tupSv B.tuple (v_ 10) (.c (ns := cmS kn (bndL ps r) r (cm0 ps r)) 0 rfl)) (avs_cons (av_tup (avs_cons i_ avs_nil) szb) avs_nil)) szb).val ((av_tup (avs_cons (av_tupSv (ns := cmL kn (bndL ps r)) B.tuple (v_ 12) .l) (avs_cons (av_tup (avs_cons i_ avs_nil) szb) avs_nil)) szb).val ⟨(kn : Int), (cmS kn (bndL ps r) r (cm0 ps r), [0]), (cmL kn (bndL ps r), [0]), rfl, rfl, rfl, by omega, by omega, limS, limL, h0, ?_⟩)))))
  exact .drop (.drop (.drop (.drop (.drop (.ok hp)))))
end
end K43
/-! S14: periodic streams in normal form; sequences spread over another arity -/
namespace Sm
section
variable {e : Nat} {s l s2 l2 s3 l3 t m : Nat → Int}
theorem Spr.at1 (he : 0 < e) (h : Spr e s l s2 l2) (i : Nat) : s2 (1 + i) = if i % e = 0 then s (i / e + 1) else 0 := by
  split
  · rename_i z
    obtain ⟨j, rfl⟩ := Nat.dvd_of_mod_eq_zero z
    rw [h.s1, Nat.mul_div_cancel_left j he]
  · rename_i z
    exact h.s3 i z
theorem Spr.at2 (he : 0 < e) (h : Spr e s l s2 l2) (i : Nat) : l2 i = if i % e = 0 then l (i / e) else 0 := by
  split
  · rename_i z
    obtain ⟨j, rfl⟩ := Nat.dvd_of_mod_eq_zero z
    rw [h.l1, Nat.mul_div_cancel_left j he]
  · rename_i z
    exact h.l3 i z
theorem Spr.one (h : Spr 1 s l s2 l2) : (∀ i, s2 i = s i) ∧ ∀ i, l2 i = l i := by
  refine ⟨fun i => ?_, fun i => by rw [h.at2 (by decide), if_pos (Nat.mod_one i), Nat.div_one]⟩
  cases i with
  | zero => exact h.s0
  | succ i => rw [Nat.add_comm i 1, h.at1 (by decide), if_pos (Nat.mod_one i), Nat.div_one, Nat.add_comm]
end
/-- the same items again and again -/
def Per (n q : Nat) (s : Stm) : Prop := ∀ i, n ≤ i → item s (i + q) = item s i
theorem Per.mono {n n' q : Nat} {s : Stm} (h : Per n q s) (hn : n ≤ n') : Per n' q s := fun i hi => h i (by omega)
end Sm
/-! S23: the normal form found by comparing items -/
namespace Sm
end Sm
namespace K43
open PySem L2 Ab Sm Tx
/-! ### the law's own items and normal forms -/
section
variable {P : Program} {w : World} {K : PySem.W.Frag} {mg : Str → Option Value} {base : Heap} {k : Nat} {f C : Addr}
def aLit : ASp := fun ds M R => ∃ (s : Stm) (i : Nat), ds = [stV s, .int (i : Int)] ∧ s.2 ≠ [] ∧ R (.int (item s i)) M
theorem b__law_itemS (B : Bt mg) : BodyOk P w K mg base k f n__law_item "_law_item" (defScope s__law_item) (defBody s__law_item) aLit := by
  rintro cdv A outer s0 H E hr ds M R ⟨s, i, rfl, hn, hp⟩
  have hl : 0 < s.2.length := List.length_pos_iff.mpr hn
  refine as_cons (as_asg ((v_ 0).val (ag_tup rfl (ags_cons (ag_name 2 q__law_item.nd (ags_cons (ag_name 3 q__law_item.nd (ags_nil ?_))))))))
  have len1 : ∀ {g : List Int} {X : Cx} {Γ : Gam} {M : Mem} {e : Expr}, aV X e Γ M (.int ((g.map Val.int).length : Nat)) → aV X e Γ M (.int (g.length : Nat)) := fun h => by rw [List.length_map] at h; exact h
  refine as_one (as_ret (ae_ifd (p := (i : Int) < (s.1.length : Int)) (at_cmp (v_ 1) (len1 (av_len B.len (v_ 2) .t)) cmp_lt ⟨rfl, rfl⟩) (fun h => ?_) (fun h => ?_)))
  · refine aE.val (av_ixT (v_ 2) (v_ 1) (atI_int (by omega) h)) (.ok ?_)
    have e : item s i = at0 s.1 (i : Int) := item_lt (by omega)
    rw [e] at hp
    exact hp
  · refine aE.val (av_ixT (v_ 3) (av_mod (av_sub (v_ 1) (len1 (av_len B.len (v_ 2) .t))) (len1 (av_len B.len (v_ 3) .t)) (by omega)) (atI_int (Int.emod_nonneg _ (by omega)) (Int.emod_lt_of_pos _ (by omega)))) (.ok ?_)
    have := item_lp (i := (i : Int)) hn (by omega) h
    rw [Int.toNat_natCast] at this
    rw [this] at hp
    exact hp
abbrev GLit (P : Program) (w : World) (K : PySem.W.Frag) (mg : Str → Option Value) (base : Heap) : Prop := Gd P w K mg base 1 "_law_item" [] fun ds _ => aLit ds
end
end K43
namespace K43
open PySem L2 Ab Sm
section
variable {P : Program} {w : World} {K : PySem.W.Frag} {mg : Str → Option Value} {base : Heap} {k : Nat} {f C C2 : Addr}
/-! ### the draws of stage 2 -/
/-! ### _law_row -/
/-! ### _law_streams -/
/-! ### _law_plan -/
theorem Sq3.lim {lo : Int} {s : Stm} (h : Sq3 lo s) : Lim s := ⟨by have := h.l3; omega, Nat.le_of_dvd (by decide) h.sq.l2, h.sq.ne, fun v hv => ⟨(h.sq.a1 v hv).1, by have := h.a1 v hv; omega⟩, fun v hv => ⟨(h.sq.a2 v hv).1, by have := h.a2 v hv; omega⟩⟩
end
end K43
namespace K43
open PySem L2 Ab Sm
section
variable {P : Program} {w : World} {K : PySem.W.Frag} {mg : Str → Option Value} {base : Heap} {k : Nat} {f C : Addr}
/-- the place of a leaf by two streams -/
abbrev PlT (kn : Nat) (s l : Stm) : Nat → Int := pl kn (item s) (item l) 0
/-- a stream that a schedule can have -/
structure Sl6 (lo : Int) (s : Stm) : Prop where
  lim : Lim s
  lo : lo ≤ item s 0
theorem Sr6.sl {lo : Int} {s : Stm} (h : Sr6 lo s) : Sl6 lo s := ⟨h.lim, h.lo⟩
theorem Sl6.it {lo : Int} {s : Stm} (h : Sl6 lo s) (i : Nat) : 0 ≤ item s i ∧ item s i ≤ 1000000 := by
  rcases item_mem h.lim.ne i with z | z
  · exact h.lim.a1 _ z
  · exact h.lim.a2 _ z
theorem Sr6.it12 {lo : Int} {s : Stm} (h : Sr6 lo s) (i : Nat) : 0 ≤ item s i ∧ item s i ≤ 12 := by
  rcases item_mem h.lim.ne i with z | z
  · exact ⟨(h.lim.a1 _ z).1, h.b1 _ z⟩
  · exact ⟨(h.lim.a2 _ z).1, h.b2 _ z⟩
theorem PlT_inc {kn : Nat} {s l : Stm} {lo : Int} (k2 : 2 ≤ kn) (hs : Sl6 lo s) (hl : Sl6 1 l) : Inc (PlT kn s l) := pl_inc k2 (fun j => (hs.it j).1) (fun j => (hl.it j).1) (by have := hl.lo; omega)
end
/-! ### places of drawn schedules -/
def mkS (kn : Nat) (s l : Stm) : Sc := ⟨(kn : Int), nf s, nf l⟩
theorem mk_good {kn : Nat} {s l : Stm} (k2 : 2 ≤ kn) (k9 : kn ≤ 9) (hs : Sl6 0 s) (hl : Sl6 1 l) : GoodS (mkS kn s l) := by
  have l1 := hs.lim
  have l2 := hl.lim
  have := hl.lo
  exact good_nf (by omega) (by omega) l1.ne l2.ne (lim_nf l1.ne l1.l1 l1.l2 l1.a1 l1.a2) (lim_nf l2.ne l2.l1 l2.l2 l2.a1 l2.a2) (by omega)
theorem PlS_mk {kn : Nat} {s l : Stm} (hs : Sl6 0 s) (hl : Sl6 1 l) : PlS (mkS kn s l) = PlT kn s l := by
  show pl (kn : Int).toNat (item (nf s)) (item (nf l)) 0 = pl kn (item s) (item l) 0
  rw [Int.toNat_natCast, funext (nf_spec hs.lim.ne).it, funext (nf_spec hl.lim.ne).it]
theorem mk_a {kn : Nat} {s l : Stm} : (mkS kn s l).a.toNat = kn := Int.toNat_natCast kn
theorem smN_b {g : Nat → Int} {B : Int} (h : ∀ j, 0 ≤ g j ∧ g j ≤ B) : ∀ n : Nat, 0 ≤ smN g n ∧ smN g n ≤ B * (n : Int)
  | 0 => ⟨Int.le_refl _, by show (0 : Int) ≤ B * 0; omega⟩
  | n + 1 => by
    have i := smN_b h n
    have j := h n
    have e : smN g (n + 1) = smN g n + g n := rfl
    rw [e, Int.natCast_add, Int.mul_add]
    omega
theorem PlT_step {kn : Nat} {s l : Stm} (k2 : 2 ≤ kn) (hs : Sr6 0 s) (hl : Sr6 1 l) {b : Nat} (hb : b ≤ 5000) : PlT kn s l (b + 1) ≤ PlT kn s l b + 200 := by
  have f := freq_eq (s := item s) (l := item l) k2 b
  have he : vE kn (b + 1) < 13 := vE_lt k2 (by omega) (by omega)
  have h1 := (smN_b hl.it12 (vE kn (b + 1) + 1)).2
  have h2 := hs.it12 (vE kn (b + 1) + 1)
  have h3 : (if vR kn (b + 1) = 1 then item s (vE kn (b + 1) + 1) else 0) ≤ 12 := by split <;> omega
  have h4 : PlT kn s l (b + 1) = PlT kn s l b + smN (item l) (vE kn (b + 1) + 1) + if vR kn (b + 1) = 1 then item s (vE kn (b + 1) + 1) else 0 := f
  omega
theorem PlT_top {kn : Nat} {s l : Stm} (k2 : 2 ≤ kn) (hs : Sr6 0 s) (hl : Sr6 1 l) : ∀ {b : Nat}, b ≤ 5000 → 0 ≤ PlT kn s l b ∧ PlT kn s l b ≤ 12 + 200 * (b : Int)
  | 0, _ => by
    have h := hs.it12 0
    have e : PlT kn s l 0 = item s 0 := by
      show pl kn (item s) (item l) 0 0 = _
      rw [pl_zero]
      unfold fp
      rw [if_pos rfl, Int.zero_add]
    rw [e]
    omega
  | b + 1, hb => by
    have i := PlT_top k2 hs hl (show b ≤ 5000 by omega)
    have j := PlT_step k2 hs hl (show b ≤ 5000 by omega)
    have m := (PlT_inc k2 hs.sl hl.sl).lt (Nat.lt_succ_self b)
    have m : PlT kn s l b < PlT kn s l (b + 1) := m
    omega
theorem plL_at {P : Nat → Int} {c j : Nat} (h : j < c) : (plL P c).getD j 0 = P j := by
  unfold plL
  rw [List.getD_eq_getElem?_getD, List.getElem?_map, List.getElem?_range h]
  rfl
theorem ok_pl {kn : Nat} {s l : Stm} (k2 : 2 ≤ kn) (hs : Sr6 0 s) (hl : Sr6 1 l) {c : Nat} (hc : c ≤ 500) : okPs (plL (PlT kn s l) c) := by
  refine ⟨by rw [plL_len]; exact hc, fun i hi => ?_⟩
  rw [plL_len] at hi
  rw [plL_at hi]
  have t := PlT_top k2 hs hl (show i ≤ 5000 by omega)
  cases i with
  | zero => exact ⟨t.1, by show PlT kn s l 0 ≤ 0 + 1000000; omega⟩
  | succ i =>
    rw [if_neg (Nat.succ_ne_zero i), if_neg (Nat.succ_ne_zero i), Nat.add_sub_cancel, plL_at (by omega)]
    have j := PlT_step k2 hs hl (show i ≤ 5000 by omega)
    have m : PlT kn s l i < PlT kn s l (i + 1) := (PlT_inc k2 hs.sl hl.sl).lt (Nat.lt_succ_self i)
    omega
/-! ### texts of lists of ints -/
section
variable {P : Program} {w : World} {K : PySem.W.Frag} {mg : Str → Option Value} {base : Heap} {k : Nat} {f C CP CV : Addr}
structure OfX (P : Program) (w : World) (K : PySem.W.Frag) (mg : Str → Option Value) (base : Heap) (X0 : Addr) (sp : ASp) : Prop where
  ex : ∃ (p g : Addr), ClX.CMet K X0 (.type "type") "of" p g ∧ FX P w K mg base 10 g fun ds _ => sp ds
section
variable {X : Cx} {Γ : Gam} {M : Mem} {R : Val → Mem → Prop} {o e e1 e2 : Expr} {apos pos p1 : Pos} {q : Nat} {ps : List Int} {kn : Nat} {r : Int} {X0 : Addr} {fl g : Str} {n : Nat} {sp : ASp}
theorem ae_ofF {pl : Sem Bool} (Z : FtC X.K X.mg X0 g) (I : OfX X.prog X.w X.K X.mg X.base X0 sp) (hr : Rm q X.A) (hq : 10 ≤ q) (h : aE X e1 Γ M fun x M1 => aE X e2 Γ M1 fun y M2 => sp [.ptr X0, x, y] M2 R) (hg : Gl X g := by rfl)
    (he : starEach [e1, e2] X.env = (false, eval e1 X.env) :: starEach [e2] X.env := by rfl) (he2 : starEach [e2] X.env = (false, eval e2 X.env) :: starEach [] X.env := by rfl)
    (ht : eval (.Call (.Attribute (.Name g p1) "of" apos) [e1, e2] [] pos) X.env = (do
      let ov ← eval (.Name g p1) X.env
      standAt apos.atName
      let (f, first) ← holding [ov] (getMethod ov "of" pl)
      callWith pos f first (backTo pos (starEach [e1, e2] X.env)) (backToKw pos (keywordEach [] X.env))) := by rfl) (hdb : (g == ("__debug__" : Str)) = false := by decide) : aE X (.Call (.Attribute (.Name g p1) "of" apos) [e1, e2] [] pos) Γ M R := by
  obtain ⟨p, f, cm, F⟩ := I.ex
  exact ae_cmeth Z.rd cm F hr hq (ae_glob Z.gC ⟨rfl, rfl⟩ hg (hd := hdb)) (aa_cons (h.mono fun x M1 h1 => aa_cons (h1.mono fun y M2 h2 => aa_nil (ak_nil ⟨rfl, h2⟩)) he2) he) rfl rfl he (by rw [he, he2]; rfl) ht
theorem ae_fitsV {pl : Sem Bool} (F : FtX X.K X0) (XM : MtF X.prog X.w X.K X.mg X.base X0 "fits" n (aFiv X.K C X0)) (hr : Rm q X.A) (hq : n ≤ q) (hl : ps.length ≤ 1000) (ho : aV X o Γ M (ftV X0 ps kn r))
    (h : aE X e Γ M fun d M1 => (∃ (S : Sc) (b : Bool), d = scV C S ∧ GoodS S ∧ (b = true ↔ (S.a = kn ∧ plL (PlS S) ps.length = ps) ∧ laP ps + r ≤ PlS S ps.length) ∧ R (.bl b) M1) ∨ (∃ t, TyV X.K M1 d t ∧ PySem.W.kitOne X.K t (.ref C) = some false ∧ R (.bl false) M1))
    (hst : starEach [e] X.env = (false, eval e X.env) :: starEach [] X.env := by rfl)
    (ht : eval (.Call (.Attribute o "fits" apos) [e] [] pos) X.env = (do
      let ov ← eval o X.env
      standAt apos.atName
      let (f, first) ← holding [ov] (getMethod ov "fits" pl)
      callWith pos f first (backTo pos (starEach [e] X.env)) (backToKw pos (keywordEach [] X.env))) := by rfl) : aE X (.Call (.Attribute o "fits" apos) [e] [] pos) Γ M R := by
  refine ae_mt1 F.cl XM.ex hr hq ho (.im _) ?_ rfl hst ht
  refine h.mono fun d M1 hh => ?_
  rcases hh with ⟨S, b, rfl, hS, hb, hR⟩ | hh
  · refine ⟨ps, kn, r, _, rfl, hl, .inl ⟨S, rfl, hS, ?_⟩⟩
    rw [show decide ((S.a = kn ∧ plL (PlS S) ps.length = ps) ∧ laP ps + r ≤ PlS S ps.length) = b by rw [Bool.eq_iff_iff, hb]; exact decide_eq_true_iff]
    exact hR
  · exact ⟨ps, kn, r, _, rfl, hl, .inr hh⟩
end
end
end K43
namespace K43
open PySem L2 Ab Sm
section
variable {P : Program} {w : World} {K : PySem.W.Frag} {mg : Str → Option Value} {base : Heap} {k : Nat} {f C : Addr}
def aKw6 : ASp := fun ds M R => ∃ vs : List Int, ds = [.lst (vs.map .int)] ∧ vs.length ≤ 2000 ∧ R (.lst ((pIn vs).map .int)) M
theorem b__law_known (B : Bt mg) : BodyOk P w K mg base k f n__law_known "_law_known" (defScope s__law_known) (defBody s__law_known) aKw6 := by
  rintro cdv A outer s0 H E hr ds M R ⟨vs, rfl, hl, hp⟩
  refine as_one (as_ret (ae_lcF [("_law_label", 1)] (fun (i : Nat) => .int (i : Int)) (fun i => decide ((0 :: vs).getD i 0 < vs.getD i 0)) rfl q__law_known.nd (blkOk_by (N := n__law_known) (sc := defScope s__law_known) (by decide +kernel)) (ai_range1 (n := vs.length) B.range ((av_lenSv B.len (v_ 0) .l).val ⟨_, rfl, by omega, by omega, by omega, rfl⟩)) ?_ (by omega) (.ok ?_)))
  · intro j acc D hj s1 H1 C1 cl fp
    rw [Int.zero_add]
    refine agw_name 1 q__law_known.nd fun s1 H1 C1 cl fp => ?_
    refine ⟨at_cmp (av_ixSv (v_ 0) (v_ 1) .l (by omega) (by omega)) (av_ixSv (ns := 0 :: vs) (av_catL (av_lst (avs_cons i_ avs_nil) szb) (v_ 0) (.self _) (.self _) (sz (by rw [List.length_map]; show 1 + vs.length ≤ _; omega))) (v_ 1) (Sv.l (ns := 0 :: vs)) (by omega) (by rw [List.length_cons]; omega)) cmp_gt ⟨?_, rfl⟩, fun _ => (v_ 1).val ⟨rfl, rfl⟩⟩
    rfl
  · have ek : ((List.range vs.length).filter fun i => decide ((0 :: vs).getD i 0 < vs.getD i 0)).map (fun (i : Nat) => Val.int (i : Int)) = (pIn vs).map .int := by
      unfold pIn
      rw [List.map_map]
      rfl
    rw [ek]
    exact hp
abbrev GKw6 (P : Program) (w : World) (K : PySem.W.Frag) (mg : Str → Option Value) (base : Heap) : Prop := Gd P w K mg base 1 "_law_known" [] fun ds _ => aKw6 ds
def aSp6 : ASp := fun ds M R => ∃ (n kn : Nat), ds = [.int (n : Int), .int (kn : Int)] ∧ 0 < n ∧ 2 ≤ kn ∧ kn ≤ 9 ∧ R (.tup [.int (vE kn n : Nat), .int (vR kn n : Nat)]) M
theorem b__law_split : BodyOk P w K mg base k f n__law_split "_law_split" (defScope s__law_split) (defBody s__law_split) aSp6 := by
  rintro cdv A outer s0 H E hr ds M R ⟨n, kn, rfl, n0, k2, k9, hp⟩
  refine as_cons (as_setv (d := .int ((0 : Nat) : Int)) 2 q__law_split.nd i_ ?_)
  refine as_cons (as_whileW (fun t Γ M' => ∃ e : Nat, 0 < t ∧ vE kn n = e + vE kn t ∧ vR kn n = vR kn t ∧ M' = M ∧ Γ = [some (.int (t : Int)), some (.int (kn : Int)), some (.int (e : Int))]) n PassesOwn.never ⟨_, _, ⟨0, n0, (Nat.zero_add _).symm, rfl, rfl, rfl⟩, (by repeat' first | exact le_nil | refine le_skip ?_ | refine le_keep rfl ?_), (by repeat' first | exact List.Sublist.refl _ | exact List.sublist_append_right _ _ | apply List.Sublist.cons₂ | apply List.Sublist.cons)⟩ ?_)
  rintro t Γ M' ⟨e, t0, h1, h2, rfl, rfl⟩
  refine ⟨_, (tp_cmp (av_mod (v_ 0) (v_ 1) (by first | omega | assumption)) i_ cp_eq), fun hc => ?_, fun hc => ?_⟩
  · have hc : t % kn = 0 := by
      have : (t : Int) % (kn : Int) = 0 := hc
      omega
    obtain ⟨g1, g2, g3⟩ := vE_step k2 t0 hc
    refine as_one (as_par 2 0 q__law_split.nd rfl (by decide) (aA.val (avs_cons (av_add (v_ 2) i_) (avs_cons (av_fdiv (v_ 0) (v_ 1) ⟨by omega, by omega⟩) avs_nil)) ⟨_, _, rfl, ?_⟩))
    rw [← Int.natCast_ediv, show (e : Int) + 1 = ((e + 1 : Nat) : Int) by omega]
    exact ⟨_, _, ⟨t / kn, Nat.div_lt_self t0 (by omega), e + 1, g3, by omega, by rw [h2, g2], rfl, rfl⟩, (by repeat' first | exact le_nil | refine le_skip ?_ | refine le_keep rfl ?_), (by repeat' first | exact List.Sublist.refl _ | exact List.sublist_append_right _ _ | apply List.Sublist.cons₂ | apply List.Sublist.cons)⟩
  · have hc : ¬ t % kn = 0 := fun z => by
      have : ¬ (t : Int) % (kn : Int) = 0 := hc
      omega
    obtain ⟨g1, g2⟩ := vE_stop k2 t0 hc
    rw [h1, h2, g1, g2, Nat.add_zero] at hp
    exact as_one (as_retv (ae_tup (aA.val (avs_cons (v_ 2) (avs_cons (v_ 0) avs_nil)) ⟨szb, rfl, rfl⟩)) (.ok hp))
abbrev GSp6 (P : Program) (w : World) (K : PySem.W.Frag) (mg : Str → Option Value) (base : Heap) : Prop := Gd P w K mg base 1 "_law_split" [] fun ds _ => aSp6 ds
end
end K43
/-! Ab99: try with clauses `except (C, D, ..) as n` and `except C as n` -/
namespace Ab
open PySem PySem.Spec PyProof.Rows L2
/-- a clause: its classes, the slot of its name, its suite -/
structure Cls4 where
  c : List Value
  i : Nat
  suite : List Stmt
/-- the expression behind except, its classes -/
inductive Tst (X : Cx) : Expr → List Value → Prop
  | one {x : Str} {c : Value} {p : Pos} : Names X x c → Tst X (.Name x p) [c]
  | two {x1 x2 : Str} {c1 c2 : Value} {p1 p2 tp : Pos} {kk : Nat} : Names X x1 c1 → Names X x2 c2 → Tst X (.Tuple [.Name x1 p1, .Name x2 p2] kk tp) [c1, c2]
  | three {x1 x2 x3 : Str} {c1 c2 c3 : Value} {p1 p2 p3 tp : Pos} {kk : Nat} : Names X x1 c1 → Names X x2 c2 → Names X x3 c3 → Tst X (.Tuple [.Name x1 p1, .Name x2 p2, .Name x3 p3] kk tp) [c1, c2, c3]
inductive HdsVt (X : Cx) : List ExceptHandler → List (Cls4 × TSx) → Prop
  | nil : HdsVt X [] []
  | cons {te : Expr} {n : Str} {c : Cls4} {ts : TSx} {b0 : Stmt} {suite : List Stmt} {pos' : Pos} {hds : List ExceptHandler} {l : List (Cls4 × TSx)} (hc : Tst X te c.c) (hi : X.N[c.i]? = some n) (hln : X.env.kindOf n = some .local)
      (hsu : ∀ (a C : Addr) (d : Option Addr) (pn : List (Addr × Obj)), PSs (X.suite a pn) (b0 :: suite) (ts a C d)) (r : HdsVt X hds l) :
      HdsVt X (.ExceptHandler (some te) (some n) (b0 :: suite) pos' :: hds) ((c, ts) :: l)
/-! ### the same over values -/
inductive HdsWt (X : Cx) : List ExceptHandler → List Cls4 → Prop
  | nil : HdsWt X [] []
  | cons {te : Expr} {n : Str} {c : List Value} {i : Nat} {b0 : Stmt} {suite : List Stmt} {pos' : Pos} {hds : List ExceptHandler} {l : List Cls4} (hc : Tst X te c) (hi : X.N[i]? = some n) (hln : X.env.kindOf n = some .local) (r : HdsWt X hds l) :
      HdsWt X (.ExceptHandler (some te) (some n) (b0 :: suite) pos' :: hds) (⟨c, i, b0 :: suite⟩ :: l)
abbrev tsVt (X : Cx) (c : Cls4) : TSx := fun a C d D1 σ1 H1 => ∀ pn, WB (X.suite a pn) c.suite D1 σ1 H1
theorem HdsWt.v {X : Cx} {hds : List ExceptHandler} {l : List Cls4} (h : HdsWt X hds l) : HdsVt X hds (l.map fun c => (c, tsVt X c)) := by
  induction h with
  | nil => exact .nil
  | cons hc hi hln r ih => exact .cons hc hi hln (fun a C d pn => ⟨fun pins s σ1 H1 D1 I1 h1 => pss_wb.run pins s σ1 H1 D1 I1 (h1 pn)⟩) ih
end Ab
/-! Ab112: try: .. except C: .. (one clause, no name) -/
namespace Ab
open PySem PySem.Spec PyProof.Rows L2
def exN (X : Cx) (c : Value) (suite : List Stmt) (k : AK) (ex : XG) : XG := fun Γ C fs M => ∃ b, PySem.W.exmOne X.K (.ref C) c = some b ∧
  (b = true → ∀ a pn, aSs (X.suite a pn) suite Γ M k) ∧ (b = false → ex Γ C fs M)
section
variable {X : Cx} {Γ : Gam} {M : Mem} {k : AK} {ex : XG} {x : Str} {c : Value} {body suite : List Stmt} {b0 : Stmt} {np pos pos' : Pos}
theorem tryN_core (hc : Names X x c) {W : WX} (tk : Takes X W)
    (hb : ∀ pn xe, Po (X.tr pn xe) → ySs (X.tr pn xe) body Γ M k (exN X c (b0 :: suite) k ex)) {Hi H : Hp} {σ : L2.St} (ok : Ok X.K Hi M H) (en : EnvR X.K Hi Γ σ) {D : Ends} (q : Real X.K Hi k D) (y : XReal X.K Hi ex W)
    (hs : X.stack = X.env :: X.outer) (hf : X.env.frame = some X.env.locals) :
    WS X (.Try body [.ExceptHandler (some (.Name x np)) none (b0 :: suite) pos'] [] [] pos) D σ H := by
  refine ⟨_, ps_try_many (tb := fun W1 D1 σ1 H1 => ∀ pn xe, Takes (X.tr pn xe) W1 → PassesOwn (model X.prog X.w) X.A X.env xe → WB (X.tr pn xe) body D1 σ1 H1) (l := [(c, fun a cls d D1 σ1 H1 => ∀ pn, WB (X.suite a pn) (b0 :: suite) D1 σ1 H1)]) hs hf tk (fun W1 pn xe t1 p1 => ⟨fun pins s σ1 H1 D1 I1 h1 => pss_wb.run pins s σ1 H1 D1 I1 (h1 pn xe t1 p1)⟩)
    (.cons hc (fun a oe cls d pn _ _ => ⟨fun pins s σ1 H1 D1 I1 h1 => pss_wb.run pins s σ1 H1 D1 I1 (h1 _)⟩) .nil), fun pn xe t1 p1 => ?_⟩
  refine hb pn xe p1 _ t1 p1 Hi H σ ok en D q fun Γ1 C fs M1 σ1 Hi1 H1 cls d h1 s1 ok1 en1 r1 => ?_
  obtain ⟨b, hb1, hyes, hno⟩ := h1
  have ec := r1.1
  subst ec
  exact ⟨b, hb1, fun hbt a na pn2 => hyes hbt a pn2 Hi1 H1 σ1 ok1 en1 D (q.up s1), fun hbf => y Γ1 C fs M1 σ1 Hi1 H1 _ d (hno hbf) s1 ok1 en1 r1⟩
/-- try: body except x: suite; nothing else leaves -/
theorem as_tryN (hc : Names X x c) (hb : ∀ pn xe, Po (X.tr pn xe) → ySs (X.tr pn xe) body Γ M k (exN X c (b0 :: suite) k fun _ _ _ _ => False))
    (hs : X.stack = X.env :: X.outer := by rfl) (hf : X.env.frame = some X.env.locals := by rfl) :
    aS X (.Try body [.ExceptHandler (some (.Name x np)) none (b0 :: suite) pos'] [] [] pos) Γ M k := fun Hi H σ ok en D q =>
  tryN_core hc takes_none5 hb ok en q (fun _ _ _ _ _ _ _ _ _ z => z.elim) hs hf
end
section
variable {X : Cx} {Γ : Gam} {M : Mem} {P : Val → Mem → Prop} {a : Expr} {pos p1 : Pos}
/-- int(e), e a truth value with effects -/
theorem ae_intM (hm : X.mg "int" = none) (h : aE X a Γ M fun d M1 => ∃ bb, d = .bl bb ∧ P (.int (if bb then 1 else 0)) M1) (hg : Gl X "int" := by rfl) (hst : starEach [a] X.env = [(false, eval a X.env)] := by rfl) : aE X (.Call (.Name "int" p1) [a] [] pos) Γ M P :=
  ae_callTy call_int1 hm (by decide +kernel) (aa_cons (h.mono fun d M1 ⟨bb, e, hP⟩ => by
    subst e
    exact aa_nil fun Hi H vs ok r Q q => by
      cases r with
      | cons r1 r2 =>
        cases r2
        cases r1
        exact .inr ⟨bb, rfl, q _ _ _ Hi H hP (Same.refl _) ok (.int _)⟩) hst) hg (he := hst) (hpl := rfl)
end
end Ab
namespace K43
open PySem L2 Ab Sm
theorem cfF_snoc {k : Nat} {bs : List Int} {pl : List Pln} : ∀ (n i : Nat), cfF k bs pl (n + 1) i = cfF k bs pl n i ++ cfI k bs (i + n + 1) pl
  | 0, i => by
    show cfI k bs (i + 1) pl ++ [] = [] ++ cfI k bs (i + 0 + 1) pl
    rw [List.append_nil, List.nil_append, Nat.add_zero]
  | n + 1, i => by
    show cfI k bs (i + 1) pl ++ cfF k bs pl (n + 1) (i + 1) = (cfI k bs (i + 1) pl ++ cfF k bs pl n (i + 1)) ++ cfI k bs (i + (n + 1) + 1) pl
    rw [cfF_snoc n (i + 1), List.append_assoc, show i + 1 + n + 1 = i + (n + 1) + 1 by omega]
theorem cfI_app {k number : Nat} {bs : List Int} {p1 p2 : List Pln} : cfI k bs number (p1 ++ p2) = cfI k bs number p1 ++ cfI k bs number p2 := List.filterMap_append ..
theorem cfI_len {k number : Nat} {bs : List Int} {p : List Pln} : (cfI k bs number p).length ≤ p.length := List.length_filterMap_le _ _
theorem cfF_len {k : Nat} {bs : List Int} {pl : List Pln} : ∀ (n i : Nat), (cfF k bs pl n i).length ≤ n * pl.length
  | 0, i => Nat.zero_le _
  | n + 1, i => by
    have h1 := cfF_len (k := k) (bs := bs) (pl := pl) n (i + 1)
    have h2 := cfI_len (k := k) (number := i + 1) (bs := bs) (p := pl)
    show (cfI k bs (i + 1) pl ++ cfF k bs pl n (i + 1)).length ≤ _
    rw [List.length_append, Nat.succ_mul]
    omega
def cfV (l : List (Nat × Nat)) : List Val := l.map fun a => .tup [.int (a.1 : Nat), .int (a.2 : Nat)]
theorem cfV_len (l : List (Nat × Nat)) : (cfV l).length = l.length := List.length_map ..
section
variable {P : Program} {w : World} {K : PySem.W.Frag} {mg : Str → Option Value} {base : Heap} {k : Nat} {f C CE : Addr}
/-! ### _law_bounds -/
theorem av_intNe {X : Cx} {Γ : Gam} {M : Mem} {a : Expr} {pos p1 p2 lp : Pos} {d : Val} {ns : List Int} {z : Int} (hm : X.mg "int" = none) (hu : X.A.units + 64 < cLine) (ha : aV X a Γ M d) (v : Vw M d (.lst (ns.map .int))) (hz : z = if ns = [] then 0 else 1) (hg : Gl X "int" := by rfl)
    (hst : starEach [.Compare a [.NotEq] [.List [] lp] p2] X.env = [(false, eval (.Compare a [.NotEq] [.List [] lp] p2) X.env)] := by rfl) : aV X (.Call (.Name "int" p1) [.Compare a [.NotEq] [.List [] lp] p2] [] pos) Γ M (.int z) := by
  have h := av_intB (pos := pos) (p1 := p1) hm (ae_cmp (pos := p2) ha (av_lst (pos := lp) avs_nil szb) (cmp_neLI (ns := ns) (ms := []) v (.self _) hu) ⟨rfl, rfl⟩) hg hst
  subst hz
  by_cases y : ns = []
  · rw [decide_eq_true y] at h
    rw [if_pos y]
    exact h
  · rw [decide_eq_false y] at h
    rw [if_neg y]
    exact h
def aBn6 : ASp := fun ds M R => ∃ (ps : List Int) (r : Int), ds = [.lst (ps.map .int), .int r] ∧ ps.length ≤ 2000 ∧ R (.lst ((bndL ps r).map .int)) M
theorem b__law_bounds (B : Bt mg) : BodyOk P w K mg base k f n__law_bounds "_law_bounds" (defScope s__law_bounds) (defBody s__law_bounds) aBn6 := by
  rintro cdv A outer s0 H E hr ds M R ⟨ps, r, rfl, hl, hp⟩
  have hu := hr.u64
  refine as_lcP 2 [("_law_index", 3)] (fun (i : Nat) => .int (ps.getD (i + 1) 0 - ps.getD i 0)) rfl q__law_bounds.nd (blkOk_by (N := n__law_bounds) (sc := defScope s__law_bounds) (by decide +kernel)) (ai_range1 (n := ps.length - 1) B.range ((av_sub (av_lenSv B.len (v_ 0) .l) i_).val ⟨_, rfl, by omega, by omega, by omega, rfl⟩)) ?_ (by omega) ?_
  · intro i acc D hi s1 H1 C1 cl fp
    rw [Int.zero_add]
    refine agw_name 3 q__law_bounds.nd fun s1 H1 C1 cl fp => ?_
    exact (av_sub (av_ixSv (i := ((i + 1 : Nat) : Int)) (v_ 0) ((av_add (v_ 3) i_).val ⟨by rw [show (i : Int) + 1 = ((i + 1 : Nat) : Int) by omega], rfl⟩) .l (by omega) (by omega)) (av_ixSv (v_ 0) (v_ 3) .l (by omega) (by omega))).val ⟨rfl, rfl⟩
  by_cases z : ps = []
  · subst z
    exact as_one (as_retv (av_catL (v_ 2) (av_repL (j := 0) (avs_cons (v_ 1) avs_nil) szb (fun _ => av_intNe B.int hu (v_ 0) (.self _) rfl) (by decide) (by decide) (Nat.le_of_ble_eq_true rfl)) (.self _) (.self _) (sz (Nat.le_of_ble_eq_true rfl))) (.ok hp))
  · have hpos := List.length_pos_iff.mpr z
    have e : (bndL ps r).map Val.int = ((List.range (ps.length - 1)).map fun (i : Nat) => Val.int (ps.getD (i + 1) 0 - ps.getD i 0)) ++ (List.replicate (1 : Int).toNat [Val.int r]).flatten := by
      unfold bndL
      rw [if_neg z, List.map_append]
      congr 1
      apply List.ext_getElem
      · rw [List.length_map, List.length_zipWith, List.length_drop, List.length_map, List.length_range]
        omega
      · intro n h1 h2
        rw [List.length_map, List.length_range] at h2
        rw [List.getElem_map, List.getElem_zipWith, List.getElem_map, List.getElem_range, List.getElem_drop, List.getD_eq_getElem?_getD, List.getD_eq_getElem?_getD, List.getElem?_eq_getElem (by omega), List.getElem?_eq_getElem (by omega)]
        simp only [Nat.add_comm 1 n, Option.getD_some]
    rw [e] at hp
    exact as_one (as_retv (av_catL (v_ 2) (av_repL (j := 1) (avs_cons (v_ 1) avs_nil) szb (fun _ => av_intNe B.int hu (v_ 0) (.self _) (if_neg z).symm) (by decide) (by decide) (Nat.le_of_ble_eq_true rfl)) (.self _) (.self _) (sz (by rw [List.length_map, List.length_range]; show _ + 1 ≤ _; omega))) (.ok hp))
abbrev GBn6 (P : Program) (w : World) (K : PySem.W.Frag) (mg : Str → Option Value) (base : Heap) : Prop := Gd P w K mg base 1 "_law_bounds" [] fun ds _ => aBn6 ds
/-! ### _law_conflicts -/
def aCf6 : ASp := fun ds M R => ∃ (bs : List Int) (kn : Nat), ds = [.lst (bs.map .int), .int (kn : Int)] ∧ 2 ≤ kn ∧ kn ≤ 9 ∧ bs.length ≤ 100 ∧ R (.lst (cfV (cfL kn bs))) M
theorem b__law_conflicts (B : Bt mg) (GS : GSp6 P w K mg base) : BodyOk P w K mg base 2 f n__law_conflicts "_law_conflicts" (defScope s__law_conflicts) (defBody s__law_conflicts) aCf6 := by
  rintro cdv A outer s0 H E hr ds M R ⟨bs, kn, rfl, k2, k9, hl, hp⟩
  have hpl := plnL_le (k := kn) (bs := bs) bs.length
  refine as_cons (as_set 2 q__law_conflicts.nd (ae_lstC (aa_nil ⟨szb, fun q => ?_⟩)))
  refine as_cons (as_forL PassesOwn.never rfl (aj_range2 B.range (aA.val (avs_cons i_ (avs_cons (av_lenSv B.len (v_ 0) .l) avs_nil)) ⟨_, _, rfl, ⟨by decide, by decide, by omega, by omega⟩, ?_⟩)))
  rw [show ((bs.length : Int) - 1).toNat = bs.length - 1 by omega]
  refine ⟨fun t Γ M' => M' = (q, .lst (cfV (cfF kn bs (plnL kn bs bs.length) t 0))) :: M ∧ Γ = [some (.lst (bs.map .int)), some (.int (kn : Int)), some (.ptr q), none, none, none, none], ⟨_, ⟨rfl, rfl⟩, (by repeat' first | exact le_nil | refine le_skip ?_ | refine le_keep rfl ?_)⟩, ?_, ?_⟩
  · rintro t Γ M' ht ⟨rfl, rfl⟩
    dsimp only
    rw [show (1 : Int) + (t : Int) = ((t + 1 : Nat) : Int) by omega]
    refine ag_name 3 q__law_conflicts.nd ?_
    refine as_one (as_forL (hk := fun _ _ _ l ⟨Γ0, h, l0⟩ => ⟨Γ0, h, l0.trans l⟩) PassesOwn.never rfl (aj_range2 B.range (aA.val (avs_cons i_ (avs_cons (av_add (av_lenSv B.len (v_ 0) .l) i_) avs_nil)) ⟨_, _, rfl, ⟨by decide, by decide, by omega, by omega⟩, ?_⟩)))
    rw [show ((bs.length : Int) + 1 - 1).toNat = bs.length by omega]
    refine ⟨fun i Γ M' => M' = (q, .lst (cfV (cfF kn bs (plnL kn bs bs.length) t 0 ++ cfI kn bs (t + 1) (plnL kn bs i)))) :: M ∧ Γ = [some (.lst (bs.map .int)), some (.int (kn : Int)), some (.ptr q), some (.int ((t + 1 : Nat) : Int)), none, none, none], ⟨_, ⟨?_, rfl⟩, (by repeat' first | exact le_nil | refine le_skip ?_ | refine le_keep rfl ?_)⟩, ?_, ?_⟩
    · show _ = (q, Cell.lst (cfV (cfF kn bs (plnL kn bs bs.length) t 0 ++ []))) :: M
      rw [List.append_nil]
    · rintro i Γ M' hi ⟨rfl, rfl⟩
      dsimp only
      rw [show (1 : Int) + (i : Int) = ((i + 1 : Nat) : Int) by omega]
      refine ag_name 4 q__law_conflicts.nd ?_
      refine as_cons (as_asg (ae_g GS hr (by decide) (aa_cons ((v_ 4).val (aa_cons ((v_ 1).val (aa_nil (ak_nil ⟨rfl, i + 1, kn, rfl, by omega, k2, k9, ag_tup rfl (ags_cons (ag_name 5 q__law_conflicts.nd (ags_cons (ag_name 6 q__law_conflicts.nd (ags_nil ?_)))))⟩))))))))
      have vp := vR_pos k2 (show 0 < i + 1 by omega)
      have e1 : plnL kn bs (i + 1) = plnL kn bs i ++ (if vR kn (i + 1) ≠ 1 then [(vE kn (i + 1), i + 1, bs.getD i 0)] else []) := rfl
      have hle : (cfF kn bs (plnL kn bs bs.length) t 0 ++ cfI kn bs (t + 1) (plnL kn bs i)).length ≤ 20000 := by
        rw [List.length_append]
        have h1 := cfF_len (k := kn) (bs := bs) (pl := plnL kn bs bs.length) t 0
        have h2 := cfI_len (k := kn) (number := t + 1) (bs := bs) (p := plnL kn bs i)
        have h3 := plnL_le (k := kn) (bs := bs) i
        have h4 := Nat.mul_le_mul (show t ≤ 100 by omega) (Nat.le_trans hpl hl)
        omega
      refine as_one (as_ifp (tp_w (wp_and (tp_cmp (v_ 6) i_ cp_gt) fun _ => wp_and (tp_cmp (v_ 5) (av_ixT (ae_g GS hr (by decide) (aa_cons ((v_ 3).val (aa_cons ((v_ 1).val (aa_nil (ak_nil ⟨rfl, t + 1, kn, rfl, by omega, k2, k9, rfl, rfl⟩))))))) i_ rfl) cp_le) fun _ => wp_and1 (tp_cmp (av_ixSv (i := (t : Int)) (v_ 0) ((av_sub (v_ 3) i_).val ⟨by rw [show ((t + 1 : Nat) : Int) - 1 = (t : Int) by omega], rfl⟩) .l (by omega) (by omega)) (av_ixSv (i := (i : Int)) (v_ 0) ((av_sub (v_ 4) i_).val ⟨by rw [show ((i + 1 : Nat) : Int) - 1 = (i : Int) by omega], rfl⟩) .l (by omega) (by omega)) cp_lt))) (fun cnd => ?_) (fun cnd => as_nil ?_))
      · obtain ⟨c1, c2, c3⟩ := cnd
        have c1' : vR kn (i + 1) ≠ 1 := fun z => by
          have : (1 : Int) < ((vR kn (i + 1) : Nat) : Int) := c1
          omega
        have c2' : vE kn (i + 1) ≤ vE kn (t + 1) := by
          have : ((vE kn (i + 1) : Nat) : Int) ≤ ((vE kn (t + 1) : Nat) : Int) := c2
          omega
        have c3' : bs.getD t 0 < bs.getD i 0 := c3
        refine as_one (as_expr (ae_append (n0 := 0) (v_ 2) rfl ((av_tup (avs_cons (v_ 3) (avs_cons (v_ 4) avs_nil)) szb).val ⟨0, _, rfl, szl (by rw [cfV_len]; omega), ?_⟩)))
        refine ⟨_, ⟨?_, rfl⟩, (by repeat' first | exact le_nil | refine le_skip ?_ | refine le_keep rfl ?_)⟩
        rw [e1, if_pos c1', cfI_app, ← List.append_assoc]
        have e2 : cfI kn bs (t + 1) [(vE kn (i + 1), i + 1, bs.getD i 0)] = [(t + 1, i + 1)] := by
          unfold cfI
          rw [List.filterMap_cons, if_pos ⟨c2', by rw [Nat.add_sub_cancel]; exact c3'⟩]
          rfl
        rw [e2]
        simp only [cfV, List.map_append]
        rfl
      · refine ⟨_, ⟨?_, rfl⟩, (by repeat' first | exact le_nil | refine le_skip ?_ | refine le_keep rfl ?_)⟩
        have e2 : cfI kn bs (t + 1) (if vR kn (i + 1) ≠ 1 then [(vE kn (i + 1), i + 1, bs.getD i 0)] else []) = [] := by
          by_cases z : vR kn (i + 1) ≠ 1
          · rw [if_pos z]
            unfold cfI
            rw [List.filterMap_cons, if_neg]
            · rfl
            rintro ⟨g1, g2⟩
            rw [Nat.add_sub_cancel] at g2
            exact cnd ⟨show (1 : Int) < ((vR kn (i + 1) : Nat) : Int) by omega, show ((vE kn (i + 1) : Nat) : Int) ≤ ((vE kn (t + 1) : Nat) : Int) by omega, g2⟩
          · rw [if_neg z]
            rfl
        rw [e1, cfI_app, e2, List.append_nil]
    · rintro Γ M' ⟨rfl, rfl⟩
      refine ⟨_, ⟨?_, rfl⟩, (by repeat' first | exact le_nil | refine le_skip ?_ | refine le_keep rfl ?_)⟩
      rw [cfF_snoc, Nat.zero_add]
  · rintro Γ M' ⟨rfl, rfl⟩
    exact as_one (as_retv (v_ 2) (.frz (.ok hp)))
abbrev GCf6 (P : Program) (w : World) (K : PySem.W.Frag) (mg : Str → Option Value) (base : Heap) : Prop := Gd P w K mg base 3 "_law_conflicts" [] fun ds _ => aCf6 ds
/-! ### _law_made -/
def aMd6 (CE : Addr) : LSp := fun bsp M R => bsp M R fun C _ M1 => C = CE ∧ R .non M1
theorem b__law_made (gC : mg "Conflict" = some (.ref CE)) (xm : PySem.W.exmOne K (.ref CE) (.ref CE) = some true) : BodyL P w K mg base 1 f n__law_made "_law_made" (defScope s__law_made) (defBody s__law_made) "_law_call" (aMd6 CE) := by
  rintro cdv A outer s0 H E hr fl Hf bsp act M R hp
  refine as_cons (as_setv (d := .non) 1 q__law_made.nd n_ ?_)
  refine as_cons (as_tryN (c := .ref CE) ⟨rfl, by decide, .inl gC⟩ fun pn xe po => ?_)
  refine ys_one (ys_set 1 q__law_made.nd ((act pn xe 0 _ _ _ _ _ _ rfl rfl hp).mono (fun d M1 h => ?_) fun C fs M1 h => ?_))
  · exact as_one (as_retv (v_ 1) (.ok h))
  · obtain ⟨rfl, h⟩ := h
    refine ⟨true, xm, fun _ a pn => as_one (as_setv 1 q__law_made.nd n_ ?_), ntf⟩
    exact as_one (as_retv (v_ 1) (.ok h))
abbrev LMd6 (P : Program) (w : World) (K : PySem.W.Frag) (mg : Str → Option Value) (base : Heap) (CE : Addr) : Prop := LGd P w K mg base 10 "_law_made" (aMd6 CE)
/-! ### _law_items, _law_ends -/
def it14 (s : Stm) : Stm := ((List.range 14).map (item s), [0])
theorem it14_item {s : Stm} (h : ∀ i, 14 ≤ i → item s i = 0) : item (it14 s) = item s := funext fun i => by
  have hl : (it14 s).1.length = 14 := by
    show ((List.range 14).map (item s)).length = 14
    rw [List.length_map, List.length_range]
  by_cases z : i < 14
  · rw [item_lt (by rw [hl]; exact z)]
    show ((List.range 14).map (item s)).getD i 0 = _
    rw [List.getD_eq_getElem?_getD, List.getElem?_map, List.getElem?_range z]
    rfl
  · rw [item_ge (by rw [hl]; omega), h i (by omega)]
    exact lp0 _
def aIt6 (C : Addr) : ASp := fun ds M R => ∃ S : Sc, ds = [scV C S] ∧ GoodS S ∧ R (.tup [stV (it14 S.sp), stV (it14 S.lv)]) M
theorem b__law_items (B : Bt mg) (T : Rs K mg C) (SM : Sm2 P w K mg base C) : BodyOk P w K mg base 3 f n__law_items "_law_items" (defScope s__law_items) (defBody s__law_items) (aIt6 C) := by
  rintro cdv A outer s0 H E hr ds M R ⟨S, rfl, hS, hp⟩
  have eS : ∀ s : Stm, (List.range 14).map (fun (i : Nat) => Val.int (item s i)) = ((List.range 14).map (item s)).map .int := fun s => (List.map_map).symm
  refine as_cons (as_set 1 q__law_items.nd (ae_tuple B.tuple (ae_lcP [("_law_index", 2)] (fun (i : Nat) => .int (item S.sp i)) rfl q__law_items.nd (blkOk_by (N := n__law_items) (sc := defScope s__law_items) (by decide +kernel)) (ai_range1 (n := 14) B.range (i_.val ⟨_, rfl, by decide, by decide, by decide, rfl⟩)) ?_ (by decide) ⟨_, .l (.self _), ?_⟩)))
  · intro i acc D hi s1 H1 C1 cl fp
    rw [Int.zero_add]
    refine agw_name 2 q__law_items.nd fun s1 H1 C1 cl fp => ?_
    exact (av_sa T SM hr (by decide) (v_ 0) (v_ 2) hS (by omega)).val ⟨rfl, rfl⟩
  rw [eS]
  refine as_one (as_ret (ae_tup (aa_cons ((av_tup (avs_cons (v_ 1) (avs_cons (av_tup (avs_cons i_ avs_nil) szb) avs_nil)) szb).val (aa_cons (ae_tup (aa_cons (ae_tuple B.tuple (ae_lcP [("_law_index", 2)] (fun (i : Nat) => .int (item S.lv i)) rfl q__law_items.nd (blkOk_by (N := n__law_items) (sc := defScope s__law_items) (by decide +kernel)) (ai_range1 (n := 14) B.range (i_.val ⟨_, rfl, by decide, by decide, by decide, rfl⟩)) ?_ (by decide) ⟨_, .l (.self _), ?_⟩)))))))))
  · intro i acc D hi s1 H1 C1 cl fp
    rw [Int.zero_add]
    refine agw_name 2 q__law_items.nd fun s1 H1 C1 cl fp => ?_
    exact (av_la T SM hr (by decide) (v_ 0) (v_ 2) hS (by omega)).val ⟨rfl, rfl⟩
  rw [eS]
  exact aa_cons ((av_tup (avs_cons i_ avs_nil) szb).val (aa_nil ⟨szb, aa_nil ⟨szb, .ok hp⟩⟩))
abbrev GIt6 (P : Program) (w : World) (K : PySem.W.Frag) (mg : Str → Option Value) (base : Heap) (C : Addr) : Prop := Gd P w K mg base 4 "_law_items" [] fun ds _ => aIt6 C ds
def aEn6 (C : Addr) : ASp := fun ds M R => ∃ S : Sc, ds = [scV C S] ∧ GoodS S ∧ (∀ i, 12 ≤ i → i < 20 → item S.sp i = 0 ∧ item S.lv i = 0) ∧ R (.bl true) M
theorem b__law_ends (B : Bt mg) (T : Rs K mg C) (SM : Sm2 P w K mg base C) : BodyOk P w K mg base 3 f n__law_ends "_law_ends" (defScope s__law_ends) (defBody s__law_ends) (aEn6 C) := by
  rintro cdv A outer s0 H E hr ds M R ⟨S, rfl, hS, hz, hp⟩
  have hu := hr.u64
  refine as_one (as_ret (ae_cmpM (ae_lcP [("_law_index", 1)] (fun (i : Nat) => .int (item S.sp (12 + i) + item S.lv (12 + i))) rfl q__law_ends.nd (blkOk_by (N := n__law_ends) (sc := defScope s__law_ends) (by decide +kernel)) (ai_range2 (n := 8) (lo := 12) B.range (aA.val (avs_cons i_ (avs_cons i_ avs_nil)) ⟨_, rfl, by decide, ⟨by decide, by decide, by decide, by decide⟩, rfl⟩)) ?_ (by decide) ?_)))
  · intro i acc D hi s1 H1 C1 cl fp
    rw [show (12 : Int) + (i : Int) = ((12 + i : Nat) : Int) by omega]
    refine agw_name 1 q__law_ends.nd fun s1 H1 C1 cl fp => ?_
    exact (av_add (av_sa T SM hr (by decide) (v_ 0) (v_ 1) hS (by omega)) (av_la T SM hr (by decide) (v_ 0) (v_ 1) hS (by omega))).val ⟨by rw [Int.toNat_natCast], rfl⟩
  have e : (List.range 8).map (fun (i : Nat) => Val.int (item S.sp (12 + i) + item S.lv (12 + i))) = (List.replicate 8 (0 : Int)).map .int := by
    have e2 : (List.replicate 8 (0 : Int)).map Val.int = (List.range 8).map fun _ => Val.int 0 := rfl
    rw [e2]
    refine List.map_congr_left fun i hi => ?_
    have hi := List.mem_range.mp hi
    obtain ⟨h1, h2⟩ := hz (12 + i) (by omega) (by omega)
    rw [h1, h2]
    rfl
  rw [e]
  exact (av_repL (j := 8) (avs_cons i_ avs_nil) szb (fun _ => i_) (by decide) (by decide) (Nat.le_of_ble_eq_true rfl)).val ⟨true, cmp_eqLI (ns := List.replicate 8 (0 : Int)) (ms := List.replicate 8 (0 : Int)) (.self _) (.self _) hu |>.eq (by rw [decide_eq_true rfl]), .ok hp⟩
abbrev GEn6 (P : Program) (w : World) (K : PySem.W.Frag) (mg : Str → Option Value) (base : Heap) (C : Addr) : Prop := Gd P w K mg base 4 "_law_ends" [] fun ds _ => aEn6 C ds
end
end K43
namespace K43
open PySem L2 Ab Sm
/-- a stream, its items known only -/
structure Sw6 (lo : Int) (s : Stm) : Prop where
  ne : s.2 ≠ []
  it : ∀ i, 0 ≤ item s i ∧ item s i ≤ 1000000
  lo : lo ≤ item s 0
theorem Sl6.sw {lo : Int} {s : Stm} (h : Sl6 lo s) : Sw6 lo s := ⟨h.lim.ne, h.it, h.lo⟩
theorem PlW_inc {kn : Nat} {s l : Stm} {lo : Int} (k2 : 2 ≤ kn) (hs : Sw6 lo s) (hl : Sw6 1 l) : Inc (PlT kn s l) := pl_inc k2 (fun j => (hs.it j).1) (fun j => (hl.it j).1) (by have := hl.lo; omega)
section
variable {P : Program} {w : World} {K : PySem.W.Frag} {mg : Str → Option Value} {base : Heap} {k : Nat} {f C : Addr}
def aLpW : ASp := fun ds M R => ∃ (kn : Nat) (s l : Stm) (b : Nat), ds = [.int (kn : Int), stV s, stV l, .int ((b + 1 : Nat) : Int)] ∧ 2 ≤ kn ∧ kn ≤ 9 ∧ Sw6 0 s ∧ Sw6 1 l ∧ b ≤ 5000 ∧ R (.int (PlT kn s l b)) M
theorem b__law_placeW (GI : GLit P w K mg base) : BodyOk P w K mg base 1 f n__law_place "_law_place" (defScope s__law_place) (defBody s__law_place) aLpW := by
  rintro cdv A outer s0 H E hr ds M R ⟨kn, s, l, b, rfl, k2, k9, hs, hl, hb, hp⟩
  refine as_cons (as_set 4 q__law_place.nd (ae_bin (ae_g GI hr (by decide) (aa_cons ((v_ 1).val (aa_cons (i_.val (aa_nil (ak_nil ⟨rfl, s, 0, rfl, hs.ne, ae_bin ((av_sub (v_ 3) i_).val (ae_g GI hr (by decide) (aa_cons ((v_ 2).val (aa_cons (i_.val (aa_nil (ak_nil ⟨rfl, l, 0, rfl, hl.ne, bv_mulI (.inl ⟨by omega, by omega⟩) (bv_add ?_)⟩))))))))⟩)))))))))
  refine as_cons (as_asg ((av_tup (avs_cons i_ (avs_cons i_ avs_nil)) szb).val (ag_tup rfl (ags_cons (ag_name 5 q__law_place.nd (ags_cons (ag_name 6 q__law_place.nd (ags_nil ?_))))))))
  have z0 : item s 0 + (((b + 1 : Nat) : Int) - 1) * item l 0 = item s 0 + (b : Int) * item l 0 + smN (plT kn (item s) (item l) b) 0 := by
    rw [show ((b + 1 : Nat) : Int) - 1 = b by omega]
    exact (Int.add_zero _).symm
  rw [z0]
  refine as_cons (as_whileW (fun z Γ M' => ∃ h : Nat, z = b + 1 - h ∧ kn ^ h ≤ 50000 ∧ M' = M ∧ Γ = [some (.int (kn : Int)), some (stV s), some (stV l), some (.int ((b + 1 : Nat) : Int)), some (.int (item s 0 + (b : Int) * item l 0 + smN (plT kn (item s) (item l) b) h)), some (.int ((kn ^ h : Nat) : Int)), some (.int (h : Int))]) (b + 1) PassesOwn.never ⟨_, _, ⟨0, rfl, by rw [Nat.pow_zero]; decide, rfl, rfl⟩, (by repeat' first | exact le_nil | refine le_skip ?_ | refine le_keep rfl ?_), (by repeat' first | exact List.Sublist.refl _ | exact List.sublist_append_right _ _ | apply List.Sublist.cons₂ | apply List.Sublist.cons)⟩ ?_)
  rintro z Γ M' ⟨h, rfl, hk5, rfl, rfl⟩
  refine ⟨_, tp_cmp (v_ 5) (v_ 3) cp_lt, fun hc => ?_, fun hc => ?_⟩
  · have hc' : kn ^ h ≤ b := by
      have : ((kn ^ h : Nat) : Int) < ((b + 1 : Nat) : Int) := hc
      omega
    have hlt := lt_pow k2 h
    have hP : kn ^ (h + 1) = kn ^ h * kn := Nat.pow_succ ..
    have hp1 : 0 < kn ^ (h + 1) := Nat.pow_pos (by omega)
    have hp2 : kn ^ (h + 1) ≤ 9 * b := by
      rw [hP]
      exact Nat.le_trans (Nat.mul_le_mul hc' (show kn ≤ 9 by omega)) (by omega)
    have eP : ((kn ^ h : Nat) : Int) * (kn : Int) = ((kn ^ (h + 1) : Nat) : Int) := by rw [hP, Int.natCast_mul]
    refine as_cons (as_par 5 6 q__law_place.nd rfl (by decide) (aA.val (avs_cons (av_mul (v_ 5) (v_ 0) (.inr ⟨by omega, by omega⟩)) (avs_cons (av_add (v_ 6) i_) avs_nil)) ⟨_, _, rfl, ?_⟩))
    rw [eP, show (h : Int) + 1 = ((h + 1 : Nat) : Int) by omega]
    have il := hl.it (h + 1)
    refine as_one (as_set 4 q__law_place.nd (ae_bin (ae_bin ((v_ 4).val (ae_g GI hr (by decide) (aa_cons ((v_ 1).val (aa_cons ((v_ 6).val (aa_nil (ak_nil ⟨rfl, s, h + 1, rfl, hs.ne, bv_add (ae_bin (ae_g GI hr (by decide) (aa_cons ((v_ 2).val (aa_cons ((v_ 6).val (aa_nil (ak_nil ⟨rfl, l, h + 1, rfl, hl.ne, (av_fdiv (av_sub (v_ 3) i_) (v_ 5) ⟨by omega, by omega⟩).val (bv_mulI (.inl ⟨by omega, by omega⟩) (bv_add ?_))⟩))))))))⟩)))))))))))
    refine ⟨_, _, ⟨_, by omega, h + 1, rfl, by omega, rfl, rfl⟩, ?_, (by repeat' first | exact List.Sublist.refl _ | exact List.sublist_append_right _ _ | apply List.Sublist.cons₂ | apply List.Sublist.cons)⟩
    repeat' first | exact le_nil | refine le_skip ?_ | refine le_keep rfl ?_ | refine le_keep ?_ ?_
    refine congrArg Val.int ?_
    show _ = _ + (smN (plT kn (item s) (item l) b) h + plT kn (item s) (item l) b h)
    unfold plT
    rw [if_pos hc', show ((b + 1 : Nat) : Int) - 1 = b by omega, Int.natCast_ediv]
    omega
  · have hc' : b < kn ^ h := by
      have : ¬ ((kn ^ h : Nat) : Int) < ((b + 1 : Nat) : Int) := hc
      omega
    refine as_one (as_retv (v_ 4) ?_)
    rw [← place_N k2 hc', ← pl0_place k2]
    exact .ok hp
abbrev GLpW (P : Program) (w : World) (K : PySem.W.Frag) (mg : Str → Option Value) (base : Heap) : Prop := Gd P w K mg base 2 "_law_place" [] fun ds _ => aLpW ds
def aSeW : ASp := fun ds M R => ∃ (kn : Nat) (s l : Stm) (c : Nat), ds = [.int (kn : Int), stV s, stV l, .int (c : Int)] ∧ 2 ≤ kn ∧ kn ≤ 9 ∧ Sw6 0 s ∧ Sw6 1 l ∧ c ≤ 2000 ∧ ∀ q, R (.ptr q) ((q, .lst ((vlL (PlT kn s l) c).map .int)) :: M)
theorem b__law_seenW (B : Bt mg) (GL : GLpW P w K mg base) : BodyOk P w K mg base 2 f n__law_seen "_law_seen" (defScope s__law_seen) (defBody s__law_seen) aSeW := by
  rintro cdv A outer s0 H E hr ds M R ⟨kn, s, l, c, rfl, k2, k9, hs, hl, hc, hp⟩
  have hI := PlW_inc k2 hs hl
  refine as_cons (as_par 4 5 q__law_seen.nd rfl (by decide) (aa_cons (ae_lstC (aa_nil ⟨szb, fun q => aa_cons (i_.val (aa_nil ⟨_, _, rfl, ?_⟩))⟩))))
  refine as_cons (as_forL PassesOwn.never rfl (aj_range1 B.range ((v_ 3).val ⟨_, rfl, by omega, by omega, ?_⟩)))
  rw [Int.toNat_natCast]
  refine ⟨fun t Γ M' => ∃ x : Int, x = ((Vv (PlT kn s l) ((t : Int) - 1) : Nat) : Int) ∧ M' = (q, .lst ((vlL (PlT kn s l) t).map .int)) :: M ∧ Γ = [some (.int (kn : Int)), some (stV s), some (stV l), some (.int (c : Int)), some (.ptr q), some (.int x), none], ⟨_, ⟨0, ?_, rfl, rfl⟩, (by repeat' first | exact le_nil | refine le_skip ?_ | refine le_keep rfl ?_)⟩, ?_, ?_⟩
  · rw [show ((0 : Nat) : Int) - 1 = -1 by decide, Vv_neg hI]
    rfl
  · rintro t Γ M' ht ⟨x, rfl, rfl, rfl⟩
    dsimp only
    rw [Int.zero_add]
    obtain ⟨v1, v2⟩ := Vv_spec hI (show -1 ≤ (t : Int) - 1 by omega)
    refine ag_name 6 q__law_seen.nd ?_
    have hv0 : Vv (PlT kn s l) ((t : Int) - 1) ≤ c := by
      rcases Nat.lt_or_ge c (Vv (PlT kn s l) ((t : Int) - 1)) with z | z
      · have := v1 c z
        have := hI.ge c
        omega
      · exact z
    refine as_cons (as_whileL (fun m Γ M' => ∃ r : Nat, m = c - r ∧ r ≤ c ∧ (∀ b, b < r → PlT kn s l b ≤ (t : Int)) ∧ M' = (q, .lst ((vlL (PlT kn s l) t).map .int)) :: M ∧ Γ = [some (.int (kn : Int)), some (stV s), some (stV l), some (.int (c : Int)), some (.ptr q), some (.int (r : Int)), some (.int (t : Int))]) (c - Vv (PlT kn s l) ((t : Int) - 1)) PassesOwn.never ⟨_, ⟨_, rfl, hv0, fun b hb => by have := v1 b hb; omega, rfl, rfl⟩, (by repeat' first | exact le_nil | refine le_skip ?_ | refine le_keep rfl ?_)⟩ ?_)
    rintro m Γ M' ⟨r, rfl, hrc, hb, rfl, rfl⟩
    refine ⟨PlT kn s l r ≤ (t : Int), ?_, fun hc2 => ?_, fun hc2 => ?_⟩
    · refine tp_cmp (d1 := .int (PlT kn s l r)) (d2 := .int (t : Int)) ?_ (v_ 6) cp_le
      exact ae_g GL hr (by decide) (aa_cons ((v_ 0).val (aa_cons ((v_ 1).val (aa_cons ((v_ 2).val (aa_cons ((av_add (v_ 5) i_).val (aa_nil (ak_nil ⟨rfl, kn, s, l, r, rfl, k2, k9, hs, hl, by omega, rfl, rfl⟩))))))))))
    · have := hI.ge r
      refine as_one (as_setv 5 q__law_seen.nd (av_add (v_ 5) i_) ?_)
      rw [show (r : Int) + 1 = ((r + 1 : Nat) : Int) by omega]
      refine ⟨_, ⟨c - (r + 1), by omega, r + 1, rfl, by omega, fun b hb' => ?_, rfl, rfl⟩, (by repeat' first | exact le_nil | refine le_skip ?_ | refine le_keep rfl ?_)⟩
      rcases Nat.lt_or_ge b r with z | z
      · exact hb b z
      · rw [show b = r by omega]
        exact hc2
    · have ev := Vv_of hI (show -1 ≤ (t : Int) by omega) hb (by omega)
      refine as_one (as_expr (ae_append (n0 := 0) (v_ 4) rfl ((v_ 5).val ⟨0, _, rfl, szl (by rw [List.length_map, vlL_len]; omega), ?_⟩)))
      refine ⟨_, ⟨(r : Int), ?_, ?_, rfl⟩, (by repeat' first | exact le_nil | refine le_skip ?_ | refine le_keep rfl ?_)⟩
      · rw [show ((t + 1 : Nat) : Int) - 1 = (t : Int) by omega, ev]
      · rw [vlL_succ, List.map_append, ev]
        rfl
  · rintro Γ M' ⟨x, rfl, rfl, rfl⟩
    exact as_one (as_retv (v_ 4) (.ok (hp q)))
abbrev GSeW (P : Program) (w : World) (K : PySem.W.Frag) (mg : Str → Option Value) (base : Heap) : Prop := Gd P w K mg base 3 "_law_seen" [] fun ds _ => aSeW ds
/-! ### _law_random -/
/-- steps of 0 or 1 -/
def stepV (vs : List Int) : Prop := ∀ i, i < vs.length → (0 :: vs).getD i 0 ≤ vs.getD i 0 ∧ vs.getD i 0 ≤ (0 :: vs).getD i 0 + 1
theorem bxs {M : Mem} {i : Nat} {c x y : Addr × Cell} : (c :: M.set i x).set (i + 1) y = c :: M.set i y := by rw [List.set_cons_succ, List.set_set]
theorem bxs0 {M : Mem} {i : Nat} {c y : Addr × Cell} : (c :: M).set (i + 1) y = c :: M.set i y := List.set_cons_succ
theorem gdA {a b : List Int} {i : Nat} : (a ++ b).getD i 0 = if i < a.length then a.getD i 0 else b.getD (i - a.length) 0 := by
  rw [List.getD_eq_getElem?_getD, List.getElem?_append]
  split
  · rw [List.getD_eq_getElem?_getD]
  · rw [List.getD_eq_getElem?_getD]
theorem stepV_snoc {vs : List Int} (h : stepV vs) {x : Int} (h0 : (if vs = [] then 0 else vs.getD (vs.length - 1) 0) ≤ x) (h1 : x ≤ (if vs = [] then 0 else vs.getD (vs.length - 1) 0) + 1) : stepV (vs ++ [x]) := fun i hi => by
  rw [List.length_append, List.length_singleton] at hi
  rw [← List.cons_append, gdA, gdA, List.length_cons, if_pos (show i < vs.length + 1 by omega)]
  by_cases z : i < vs.length
  · rw [if_pos z]
    exact h i z
  · obtain rfl : i = vs.length := by omega
    rw [if_neg z, Nat.sub_self]
    show _ ≤ x ∧ x ≤ _
    cases vs with
    | nil => exact ⟨h0, h1⟩
    | cons v vs =>
      rw [if_neg (List.cons_ne_nil _ _)] at h0 h1
      rw [List.length_cons] at h0 h1 ⊢
      rw [List.getD_cons_succ]
      exact ⟨h0, h1⟩
def aRd6 : ASp := fun ds M R => ∃ (p : Addr) (i N kn : Nat), ds = [.ptr p, .int (kn : Int), .int 55] ∧ M[i]? = some (p, st6 p N) ∧ N ≤ 800000 ∧ 2 ≤ kn ∧ kn ≤ 9 ∧ ∀ vs N', okVs vs → vs.length ≤ 60 → N' ≤ N + 200 → R (.lst (vs.map .int)) (M.set i (p, st6 p N'))
theorem b__law_random (B : Bt mg) (GD : GDr6 P w K mg base) (GT : GSr6 P w K mg base) (GE : GSeW P w K mg base) : BodyOk P w K mg base 4 f n__law_random "_law_random" (defScope s__law_random) (defBody s__law_random) aRd6 := by
  rintro cdv A outer s0 H E hr ds M R ⟨p, i, N, kn, rfl, hi, hN, k2, k9, hp⟩
  have hu := hr.u64
  refine as_cons (as_set 3 q__law_random.nd (ae_lstC (aa_nil ⟨szb, fun q0 => ?_⟩)))
  have rest : ∀ (q : Addr) (vs : List Int) (N1 : Nat), stepV vs → vs.length ≤ 55 → N1 ≤ N + 20 → aSs (bcx P w K mg base n__law_random "_law_random" (defScope s__law_random) f cdv A outer s0 H E) ((defBody s__law_random).drop 2) [some (.ptr p), some (.int (kn : Int)), some (.int 55), some (.ptr q), none, none, none] ((q, .lst (vs.map .int)) :: M.set i (p, st6 p N1)) (kOf R) := fun q vs N1 hst hvl hN1 => by
    have hj : ((q, Cell.lst (vs.map .int)) :: M.set i (p, st6 p N1))[i + 1]? = some (p, st6 p N1) := bx_get hi
    have sne : ∀ {X : Cx} {Γ : Gam} {M' : Mem} {ws : List Int} {a : Expr} {pos lp : Pos}, X.A.units + 64 < cLine → aV X a Γ ((q, Cell.lst (ws.map .int)) :: M') (.ptr q) → TP X (.Compare a [.NotEq] [.List [] lp] pos) Γ ((q, Cell.lst (ws.map .int)) :: M') (ws ≠ []) := fun hu h => tp_cmp h (av_lst avs_nil szb) (cp_neL (ms := []) (.lst 0 rfl) (.self _) hu)
    have loop : ∀ (c : Int) (N2 : Nat), 0 ≤ c → c ≤ 55 → (vs = [] → 1 ≤ c) → (vs ≠ [] → c ≤ 4) → N2 ≤ N + 30 → aSs (bcx P w K mg base n__law_random "_law_random" (defScope s__law_random) f cdv A outer s0 H E) ((defBody s__law_random).drop 3) [some (.ptr p), some (.int (kn : Int)), some (.int 55), some (.ptr q), some (.int c), none, none] ((q, .lst (vs.map .int)) :: M.set i (p, st6 p N2)) (kOf R) := fun c N2 c0 c1 ce cn hN2 => by
      refine as_cons (as_forL PassesOwn.never rfl (aj_range1 B.range ((v_ 4).val ⟨_, rfl, by omega, by omega, ?_⟩)))
      refine ⟨fun t Γ M' => ∃ ws : List Int, stepV ws ∧ ws.length = vs.length + t ∧ M' = (q, .lst (ws.map .int)) :: M.set i (p, st6 p (N2 + t)) ∧ Γ = [some (.ptr p), some (.int (kn : Int)), some (.int 55), some (.ptr q), some (.int c), none, none], ⟨_, ⟨vs, hst, rfl, rfl, rfl⟩, (by repeat' first | exact le_nil | refine le_skip ?_ | refine le_keep rfl ?_)⟩, ?_, ?_⟩
      · rintro t Γ M' ht ⟨ws, hws, hwl, rfl, rfl⟩
        refine ag_name 5 q__law_random.nd ?_
        have hj2 : ((q, Cell.lst (ws.map .int)) :: M.set i (p, st6 p (N2 + t)))[i + 1]? = some (p, st6 p (N2 + t)) := bx_get hi
        refine as_cons (as_setv (d := .int (if ws = [] then 0 else ws.getD (ws.length - 1) 0)) 6 q__law_random.nd ?_ ?_)
        · by_cases z : ws = []
          · rw [if_pos z]
            exact ae_ifp (sne hu (v_ 3)) (fun h => absurd z h) (fun _ => i_.val ⟨rfl, rfl⟩)
          · rw [if_neg z]
            exact ae_ifp (sne hu (v_ 3)) (fun _ => (av_ixL (v_ 3) (av_neg i_) (.lst 0 rfl) (atI_last z)).val ⟨rfl, rfl⟩) (fun h => absurd z h)
        refine as_one (as_expr (ae_append (n0 := 0) (v_ 3) rfl (ae_bin ((v_ 6).val (ae_intM B.int (ae_cmpM (ae_g GD hr (by decide) (aa_cons ((v_ 0).val (aa_cons (i_.val (aa_nil (ak_nil ⟨rfl, p, i + 1, N2 + t, 3, rfl, hj2, by omega, by decide, by decide, fun v v0 v1 => i_.val ⟨_, cmp_gt, _, rfl, bv_add ⟨0, _, rfl, szl (by rw [List.length_map]; omega), ?_⟩⟩⟩)))))))))))))
        rw [bxs, List.set_cons_zero]
        refine ⟨_, ⟨ws ++ [(if ws = [] then 0 else ws.getD (ws.length - 1) 0) + (if decide (0 < v) then 1 else 0)], stepV_snoc hws (by split <;> omega) (by split <;> omega), by rw [List.length_append, List.length_singleton]; omega, ?_, rfl⟩, (by repeat' first | exact le_nil | refine le_skip ?_ | refine le_keep rfl ?_)⟩
        rw [List.map_append]
        rfl
      · rintro Γ M' ⟨ws, hws, hwl, rfl, rfl⟩
        have hw1 : 1 ≤ ws.length := by
          by_cases z : vs = []
          · have := ce z
            omega
          · have := List.length_pos_iff.mpr z
            omega
        have hw6 : ws.length ≤ 60 := by
          by_cases z : vs = []
          · subst z
            have : ([] : List Int).length = 0 := rfl
            omega
          · have := cn z
            omega
        exact as_one (as_retv (v_ 3) (.frz (.ok (hp ws (N2 + c.toNat) ⟨hw1, by omega, hws⟩ hw6 (by omega)))))
    by_cases z : vs = []
    · refine as_cons (as_set 4 q__law_random.nd (ae_ifp (sne hu (v_ 3)) (fun h => absurd z h) (fun _ => ae_bin (i_.val (ae_g GD hr (by decide) (aa_cons ((v_ 0).val (aa_cons ((v_ 2).val (aa_nil (ak_nil ⟨rfl, p, i + 1, N1, 55, rfl, hj, by omega, by decide, by decide, fun v v0 v1 => bv_add ?_⟩)))))))))))
      rw [bxs]
      exact loop (1 + v) (N1 + 1) (by omega) (by omega) (fun _ => by omega) (fun h => absurd z h) (by omega)
    · refine as_cons (as_set 4 q__law_random.nd (ae_ifp (sne hu (v_ 3)) (fun _ => ae_g GD hr (by decide) (aa_cons ((v_ 0).val (aa_cons (i_.val (aa_nil (ak_nil ⟨rfl, p, i + 1, N1, 5, rfl, hj, by omega, by decide, by decide, fun v v0 v1 => ?_⟩))))))) (fun h => absurd z h)))
      rw [bxs]
      exact loop v (N1 + 1) (by omega) (by omega) (fun h => absurd h z) (fun _ => by omega) (by omega)
  refine as_cons (as_if (at_cmpM (ae_g GD hr (by decide) (aa_cons ((v_ 0).val (aa_cons (i_.val (aa_nil (ak_nil ⟨rfl, p, i + 1, N, 3, rfl, hi, by omega, by decide, by decide, fun v v0 v1 => i_.val ⟨_, cmp_gt, fun _ => ?_, fun _ => as_nil ?_⟩⟩)))))))))
  · rw [bxs0]
    refine as_one (as_set 3 q__law_random.nd (ae_g GE hr (by decide) (aa_cons ((v_ 1).val (aa_cons (ae_g GT hr (by decide) (aa_cons ((v_ 0).val (aa_cons (i_.val (aa_nil (ak_nil ⟨rfl, p, i + 1, N + 1, 0, rfl, bx_get hi, by omega, by decide, by decide, fun s N2 hs hN2 => ?_⟩))))))))))))
    rw [bxs]
    refine aa_cons (ae_g GT hr (by decide) (aa_cons ((v_ 0).val (aa_cons (i_.val (aa_nil (ak_nil ⟨rfl, p, i + 1, N2, 1, rfl, bx_get hi, by omega, by decide, by decide, fun l N3 hl hN3 => ?_⟩)))))))
    rw [bxs]
    refine aa_cons (ae_bin (i_.val (ae_g GD hr (by decide) (aa_cons ((v_ 0).val (aa_cons ((v_ 2).val (aa_nil (ak_nil ⟨rfl, p, i + 1, N3, 55, rfl, bx_get hi, by omega, by decide, by decide, fun v v0 v1 => bv_add ?_⟩)))))))))
    rw [bxs]
    obtain ⟨c, hc⟩ : ∃ c : Nat, 1 + v = (c : Int) := ⟨(1 + v).toNat, by omega⟩
    rw [hc]
    refine aa_nil (ak_nil ⟨rfl, kn, s, l, c, rfl, k2, k9, hs.sl.sw, hl.sl.sw, by omega, fun q => as_perm (List.Perm.swap _ _ _) (as_drop ?_)⟩)
    exact rest q (vlL (PlT kn s l) c) (N3 + 1) (ok_vl (PlT_inc k2 hs.sl hl.sl) (by omega) (by omega)).2.2 (by rw [vlL_len]; omega) (by omega)
  · rw [bxs0]
    exact rest q0 [] (N + 1) (fun _ h => absurd h (Nat.not_lt_zero _)) (Nat.zero_le _) (by omega)
abbrev GRd6 (P : Program) (w : World) (K : PySem.W.Frag) (mg : Str → Option Value) (base : Heap) : Prop := Gd P w K mg base 5 "_law_random" [] fun ds _ => aRd6 ds
end
end K43
/-! S35: values are told by their places -/
namespace Sm
/-- whether a value is greater than the one before -/
def stp (vs : List Int) (i : Nat) : Bool := decide ((0 :: vs).getD i 0 < vs.getD i 0)
theorem pIn_eq (vs : List Int) : pIn vs = ((List.range vs.length).filter (stp vs)).map fun (i : Nat) => (i : Int) := rfl
/-- steps up to an index -/
def stc (vs : List Int) (i : Nat) : Nat := ((List.range i).filter (stp vs)).length
theorem stc_succ {vs : List Int} {i : Nat} : stc vs (i + 1) = stc vs i + if stp vs i = true then 1 else 0 := by
  unfold stc
  rw [List.range_succ, List.filter_append, List.length_append]
  by_cases z : stp vs i = true
  · rw [if_pos z, List.filter_cons_of_pos z]
    rfl
  · rw [if_neg z, List.filter_cons_of_neg z]
    rfl
theorem vs_stc {vs : List Int} (h : ∀ i, i < vs.length → (0 :: vs).getD i 0 ≤ vs.getD i 0 ∧ vs.getD i 0 ≤ (0 :: vs).getD i 0 + 1) : ∀ {i : Nat}, i < vs.length → vs.getD i 0 = (stc vs (i + 1) : Int)
  | 0, hi => by
    have := h 0 hi
    rw [stc_succ]
    have e : (0 :: vs).getD 0 0 = 0 := rfl
    rw [e] at this
    unfold stp
    rw [e]
    show vs.getD 0 0 = ((0 + _ : Nat) : Int)
    by_cases z : (0 : Int) < vs.getD 0 0
    · rw [if_pos (decide_eq_true z)]
      omega
    · rw [if_neg fun y => z (of_decide_eq_true y)]
      omega
  | i + 1, hi => by
    have ih := vs_stc h (show i < vs.length by omega)
    have := h (i + 1) hi
    rw [stc_succ]
    have e : (0 :: vs).getD (i + 1) 0 = vs.getD i 0 := List.getD_cons_succ ..
    rw [e] at this
    unfold stp
    rw [e]
    by_cases z : vs.getD i 0 < vs.getD (i + 1) 0
    · rw [if_pos (decide_eq_true z)]
      omega
    · rw [if_neg fun y => z (of_decide_eq_true y)]
      omega
/-- steps lie where they are counted -/
theorem stp_split {vs : List Int} {i : Nat} (hi : i + 1 ≤ vs.length) : (List.range vs.length).filter (stp vs) = (List.range (i + 1)).filter (stp vs) ++ ((List.range (vs.length - (i + 1))).map fun j => i + 1 + j).filter (stp vs) := by
  rw [← List.filter_append]
  congr 1
  conv => lhs; rw [show vs.length = (i + 1) + (vs.length - (i + 1)) by omega, List.range_add]
theorem pIn_le {vs : List Int} {i b : Nat} (hi : i + 1 ≤ vs.length) (hb : b < stc vs (i + 1)) : (pIn vs).getD b 0 ≤ (i : Int) := by
  rw [pIn_eq, stp_split hi, List.map_append, List.getD_eq_getElem?_getD, List.getElem?_append_left (by rw [List.length_map]; exact hb), List.getElem?_map, List.getElem?_eq_getElem hb]
  have hm := List.getElem_mem hb
  have := List.mem_range.mp (List.mem_filter.mp hm).1
  show ((_ : Nat) : Int) ≤ (i : Int)
  omega
theorem pIn_gt {vs : List Int} {i b : Nat} (hi : i + 1 ≤ vs.length) (hb : stc vs (i + 1) ≤ b) (hb2 : b < (pIn vs).length) : (i : Int) < (pIn vs).getD b 0 := by
  rw [pIn_eq, stp_split hi, List.map_append] at *
  have h1 : (((List.range (i + 1)).filter (stp vs)).map fun (i : Nat) => (i : Int)).length = stc vs (i + 1) := List.length_map ..
  rw [List.length_append, h1] at hb2
  rw [List.getD_eq_getElem?_getD, List.getElem?_append_right (by rw [h1]; exact hb), h1, List.getElem?_eq_getElem (by omega)]
  have hm := List.getElem_mem (l := (((List.range (vs.length - (i + 1))).map fun j => i + 1 + j).filter (stp vs)).map fun (i : Nat) => (i : Int)) (n := b - stc vs (i + 1)) (by omega)
  obtain ⟨x, hx, e⟩ := List.mem_map.mp hm
  obtain ⟨j, _, rfl⟩ := List.mem_map.mp (List.mem_filter.mp hx).1
  show (i : Int) < _
  rw [Option.getD_some, ← e]
  omega
/-- values are those of a sequence that has their places, and no other place below their number -/
theorem vlL_of {P : Nat → Int} (hP : Inc P) {vs : List Int} (h : ∀ i, i < vs.length → (0 :: vs).getD i 0 ≤ vs.getD i 0 ∧ vs.getD i 0 ≤ (0 :: vs).getD i 0 + 1) (h1 : ∀ b, b < (pIn vs).length → P b = (pIn vs).getD b 0) (h2 : (vs.length : Int) ≤ P (pIn vs).length) : vlL P vs.length = vs := by
  apply List.ext_getElem (by rw [vlL_len])
  intro i hi1 hi
  have e1 := vlL_at (P := P) (c := vs.length) hi
  have e2 : (vlL P vs.length).getD i 0 = (vlL P vs.length)[i] := by rw [List.getD_eq_getElem?_getD, List.getElem?_eq_getElem hi1]; rfl
  have e3 : vs.getD i 0 = vs[i] := by rw [List.getD_eq_getElem?_getD, List.getElem?_eq_getElem hi]; rfl
  rw [← e2, ← e3, e1, vs_stc h hi]
  have hle : stc vs (i + 1) ≤ (pIn vs).length := by
    rw [pIn_eq, List.length_map, stp_split (show i + 1 ≤ vs.length by omega), List.length_append]
    exact Nat.le_add_right _ _
  have := Vv_of hP (n := (i : Int)) (v := stc vs (i + 1)) (by omega) (fun b hb => by rw [h1 b (by omega)]; exact pIn_le (by omega) hb) (by
    by_cases z : stc vs (i + 1) < (pIn vs).length
    · rw [h1 _ z]
      exact pIn_gt (by omega) (Nat.le_refl _) z
    · rw [show stc vs (i + 1) = (pIn vs).length by omega]
      omega)
  rw [this]
end Sm
/-! S36: lists of places with bounded steps; places in values; the smallest completion has the given values -/
namespace Sm
structure PsR (ps : List Int) (G : Int) : Prop where
  st : ∀ j, j + 1 < ps.length → 1 ≤ ps.getD (j + 1) 0 - ps.getD j 0 ∧ ps.getD (j + 1) 0 - ps.getD j 0 ≤ G
  z : 0 < ps.length → 0 ≤ ps.getD 0 0 ∧ ps.getD 0 0 ≤ G
theorem plL_self (ps : List Int) : plL (fun b => ps.getD b 0) ps.length = ps := by
  unfold plL
  apply List.ext_getElem (by rw [List.length_map, List.length_range])
  intro i h1 h2
  rw [List.getElem_map, List.getElem_range, List.getD_eq_getElem?_getD, List.getElem?_eq_getElem h2]
  rfl
theorem bnd_at {ps : List Int} {r : Int} {j : Nat} (h : j + 1 < ps.length) : (bndL ps r).getD j 0 = ps.getD (j + 1) 0 - ps.getD j 0 := by
  have := bndL_in (P := fun b => ps.getD b 0) (n := ps.length) (r := r) h
  rw [plL_self] at this
  exact this
theorem bnd_end {ps : List Int} {r : Int} {j : Nat} (h : j + 1 = ps.length) : (bndL ps r).getD j 0 = r := by
  have := bndL_last (P := fun b => ps.getD b 0) (n := j) (r := r)
  rw [h, plL_self] at this
  exact this
theorem bnd_rng {ps : List Int} {G r : Int} (h : PsR ps G) (r1 : ps ≠ [] → 1 ≤ r ∧ r ≤ G) : ∀ j, j < (bndL ps r).length → 1 ≤ (bndL ps r).getD j 0 ∧ (bndL ps r).getD j 0 ≤ G := fun j hj => by
  rw [bndL_len] at hj
  by_cases z : j + 1 < ps.length
  · rw [bnd_at z]
    exact h.st j z
  · rw [bnd_end (show j + 1 = ps.length by omega)]
    exact r1 (List.length_pos_iff.mp (by omega))
theorem getD_scale {ps : List Int} {sc : Int} (j : Nat) : (ps.map (· * sc)).getD j 0 = ps.getD j 0 * sc := by
  rw [List.getD_eq_getElem?_getD, List.getD_eq_getElem?_getD, List.getElem?_map]
  cases ps[j]? with
  | none => exact (Int.zero_mul sc).symm
  | some v => rfl
theorem NoCf_scale {k : Nat} {ps : List Int} {r sc r' : Int} (R : ∀ j, j + 1 < ps.length → 1 ≤ ps.getD (j + 1) 0 - ps.getD j 0) (h : NoCf k (bndL ps r)) (s1 : 1 ≤ sc) (hr : r' ≤ 1) : NoCf k (bndL (ps.map (· * sc)) r') := fun m j hm hj hv he => by
  rw [bndL_len, List.length_map] at hm hj
  have hl : (ps.map (· * sc)).length = ps.length := List.length_map ..
  rw [bnd_at (j := m) (by rw [hl]; exact hm), getD_scale, getD_scale, ← Int.sub_mul]
  have hm1 := R m hm
  by_cases z : j + 1 < ps.length
  · rw [bnd_at (j := j) (by rw [hl]; exact z), getD_scale, getD_scale, ← Int.sub_mul]
    have := h m j (by rw [bndL_len]; exact hm) (by rw [bndL_len]; exact hj) hv he
    rw [bnd_at hm, bnd_at z] at this
    exact Int.mul_le_mul_of_nonneg_right this (by omega)
  · rw [bnd_end (j := j) (by rw [hl]; omega)]
    have : 1 * 1 ≤ (ps.getD (m + 1) 0 - ps.getD m 0) * sc := Int.mul_le_mul hm1 s1 (by decide) (by omega)
    omega
/-! ### places in values -/
theorem pIn_pw (vs : List Int) : (pIn vs).Pairwise (· < ·) := by
  rw [pIn_eq]
  refine List.Pairwise.map _ (fun a b h => ?_) (List.Pairwise.filter _ List.pairwise_lt_range)
  exact Int.ofNat_lt.mpr h
theorem pIn_up {vs : List Int} {b : Nat} (h : b + 1 < (pIn vs).length) : (pIn vs).getD b 0 < (pIn vs).getD (b + 1) 0 := by
  have := List.pairwise_iff_getElem.mp (pIn_pw vs) b (b + 1) (by omega) h (by omega)
  rw [List.getD_eq_getElem?_getD, List.getD_eq_getElem?_getD, List.getElem?_eq_getElem h, List.getElem?_eq_getElem (show b < (pIn vs).length by omega)]
  exact this
theorem pIn_rng {vs : List Int} {b : Nat} (h : b < (pIn vs).length) : 0 ≤ (pIn vs).getD b 0 ∧ (pIn vs).getD b 0 < (vs.length : Int) := by
  rw [List.getD_eq_getElem?_getD, List.getElem?_eq_getElem h]
  have hm := List.getElem_mem h
  rw [Option.getD_some]
  generalize (pIn vs)[b] = v at *
  rw [pIn_eq] at hm
  obtain ⟨i, hi, rfl⟩ := List.mem_map.mp hm
  have := List.mem_range.mp (List.mem_filter.mp hi).1
  omega
theorem pIn_len {vs : List Int} : (pIn vs).length ≤ vs.length := by
  rw [pIn_eq, List.length_map]
  exact Nat.le_trans (List.length_filter_le _ _) (by rw [List.length_range]; exact Nat.le_refl _)
theorem pIn_R {vs : List Int} {G : Int} (h : (vs.length : Int) ≤ G) : PsR (pIn vs) G := by
  refine ⟨fun j hj => ?_, fun h0 => ?_⟩
  · have h1 := pIn_up hj
    have h2 := pIn_rng (vs := vs) (b := j) (by omega)
    have h3 := pIn_rng hj
    omega
  · have h2 := pIn_rng h0
    omega
/-- the rest of values -/
def rsV (vs : List Int) : Int := (vs.length : Int) - (if pIn vs = [] then 0 else (pIn vs).getD ((pIn vs).length - 1) 0)
theorem rsV_rng {vs : List Int} (h : 1 ≤ vs.length) : 1 ≤ rsV vs ∧ rsV vs ≤ vs.length := by
  unfold rsV
  by_cases z : pIn vs = []
  · rw [if_pos z]
    omega
  · rw [if_neg z]
    have := List.length_pos_iff.mpr z
    have := pIn_rng (vs := vs) (b := (pIn vs).length - 1) (by omega)
    omega
end Sm
/-! defs that make lambdas: their code object is known; the end of a law whose defs make lambdas -/
namespace Ab
open PySem PySem.Spec PyProof.Rows L2 LamX
section
variable {P : Program} {w : World} {K : PySem.W.Frag} {mg : Str → Option Value} {base : Heap}
/-- a body whose code object is at c -/
abbrev BodyT (P : Program) (w : World) (K : PySem.W.Frag) (mg : Str → Option Value) (base : Heap) (k : Nat) (f c : Addr) (N : List Str) (qual : Str) (sc : Scope) (body : List Stmt) (s0 : ASp) : Prop :=
  ∀ A outer s H E, Rm k (A.deeper (envOfC qual sc s.heap.objs.size f (.ref c))) → ∀ ds M R, s0 ds M R → aSs (bcx P w K mg base N qual sc f (.ref c) A outer s H E) body (gam N ds) M (kOf R)
theorem fnx_posT {x qual : Str} {params : Arguments} {body : List Stmt} {sc : Scope} {f c : Addr} {oc : Value} {od an : Option Addr} {osl : Array (Option Value)} {kV doc pm ct : Value} {N ps : List Str} {k : Nat} {s0 : ASp}
    (lk : K.lookup f = some ⟨oc, od, .func (PySem.W.fnOf x qual params body sc .none kV doc pm an (.ref c) ct), osl⟩) (hcd : PySem.W.codeIn K (.ref c) qual = true) (S : FnScope N ps sc)
    (h : ∀ (us : List Value), us.length = ps.length → bindArgs (PySem.W.fnOf x qual params body sc .none kV doc pm an (.ref c) ct) ⟨us, []⟩ = pure (ps.zip us))
    (len : ∀ ds M R, s0 ds M R → ds.length = ps.length) (hb : BodyT P w K mg base k f c N qual sc body s0) : FnX P w K mg base (k + 1) f [] (spX K fun ds _ => s0 ds) := by
  refine ⟨fun A outer s H us ws vs zs Q hr e0 r rz hz ⟨Hi, M, ds, es, R, ra, re, ok, hs, q⟩ => ?_⟩
  have hl := len _ _ _ hs
  have ez : zs = [] := List.length_eq_zero_iff.mp hz
  subst ez
  cases rz
  have hlv : vs.length = ps.length := ra.length.symm.trans hl
  have hlu : us.length = ps.length := r.length.symm.trans hlv
  refine StX.run_bnd (CX := CX0) (E := E0) (G := fun vs' H2 => vs' = vs ∧ H2 = H) lk hcd S hr.room e0 (fun A' Ex Q' hh => ?_) fun s2 H2 vs' hG hr' => ?_
  · show wpAny (model P w) A' (bindArgs _ ⟨us, []⟩) Q' Ex s
    rw [h us hlu]
    exact wpAny_pure (hh s H vs us e0 Un.refl rfl (fun _ _ z => z) r hlv ⟨rfl, rfl⟩)
  · obtain ⟨rfl, rfl⟩ := hG
    obtain ⟨t, p, z⟩ := body_of (hb A outer s2 H2 E0 (hr.deeper _)) (Q := Q) (vs := vs') ⟨Hi, M, ds, R, ra, ok, hs, q⟩
    exact ⟨t, p.nox, z⟩
end
/-! ### the end -/
abbrev tbM (ts : List (Addr × Str)) : Mem := ts.map fun p => (p.1, Cell.b (.tb p.2))
/-- a law's promise where tables stand -/
def aLawT (ts : List (Addr × Str)) : ASx := fun ds _ M R => ∃ ns : List Int, ds = [.lst (ns.map .int)] ∧ ns.length ≤ 63 ∧ M = tbM ts ∧ ∀ M', R (.bl true) M'
section
variable {P : Program} {w : World} {K : PySem.W.Frag} {mg mb : Str → Option Value} {k : Nat} {fa a : Addr} {sp : List V → List V → Hp → VK → Prop} {s : Shared} {vs : List Value} {ns : List Int} {cs : List (Addr × Addr)}
theorem run_lawT (KX : K.In s.heap) (hns : s.heap.Ns mainGlobals mg) (hbl : s.heap.Ns builtinsNs mb) (hbb : ∀ x : Str, x ≠ "__name__" → mb x = bootBuiltins x) (hlim : s.heap.NoLimit) (hg : s.gens = #[])
    (hT : ∀ p ∈ cs, s.heap.get? p.2 = some { cls := .none, data := .fields #[] }) (nT : ∀ p ∈ cs, K.lookup p.2 = none) (C : ∀ p ∈ cs, PySem.W.codeHdIn K p.1 p.2 = true)
    (hbm : ∃ (bm : Addr) (ob : Obj), mg "__builtins__" = some (.ref bm) ∧ bm ≠ builtinsNs ∧ s.heap.get? bm = some ob ∧ ob.cls = .type "module" ∧ ob.dict = some builtinsNs ∧ ob.data = .plain)
    (ha : s.heap.get? a = some { cls := .type "list", data := .seq vs.toArray }) (hi : IntsAre vs ns) (hl : ns.length ≤ sizeLine) (hr : Rm k callerA)
    (F : ∀ bs : Heap, K.In bs → bs.Ns mainGlobals mg → (∀ p ∈ cs, TabB bs mg p.1 p.2) → FnX P w K mg bs k fa [] sp)
    (hsp : ∀ H : Hp, (∀ p ∈ cs, H p.2 = some (.tbl #[])) → SqL K (fun b => if b ∈ cs.map (·.2) then none else H b) a (ns.map V.int) → (∀ b, b ∈ cs.map (·.2) → a ≠ b) → sp [.ref a] [] H (fun v _ => v = .bl true)) :
    codeAny (model P w) callerA (.call (.ref fa) ⟨[.ref a], []⟩) (fun r s' => r = .ok (.ret (.bool true)) ∧ OldK s.heap s'.heap ∧ s'.os = s.os ∧ AllBare s'.gens) s := by
  have isT : ∀ b : Addr, b ∈ cs.map (·.2) → s.heap.get? b = some { cls := .none, data := .fields #[] } := fun b hb => by
    obtain ⟨p, hp, rfl⟩ := List.mem_map.mp hb
    exact hT p hp
  have aT : ∀ b, b ∈ cs.map (·.2) → a ≠ b := fun b z e => by
    have q := isT b z
    rw [← e, ha] at q
    exact nomatch (show Data.seq vs.toArray _ = Data.fields #[] from congrArg Obj.data (Option.some.inj q))
  -- what may be tracked: the script, the tables
  have go : ∀ H : Hp, (∀ p ∈ cs, H p.2 = some (.tbl #[])) → (∀ b o, H b = some o → (b ∈ cs.map (·.2) ∧ o = .tbl #[]) ∨ (b = a ∧ K.lookup a = none ∧ ∃ ob xs, o = .frz ob (.lst xs))) → HOk P w H s.heap → SqL K (fun b => if b ∈ cs.map (·.2) then none else H b) a (ns.map V.int) →
      codeAny (model P w) callerA (.call (.ref fa) ⟨[.ref a], []⟩) (fun r s' => r = .ok (.ret (.bool true)) ∧ OldK s.heap s'.heap ∧ s'.os = s.os ∧ AllBare s'.gens) s := by
    intro H hH only hok hS
    have shown : ∀ {b : Addr} {o : Obj}, s.heap.get? b = some o → (∀ us n, o.data ≠ .seq us n) → o.data ≠ .fields #[] → (hidT s.heap H).get? b = some o := fun {b o} e n1 n2 => hidT_get e (by
      cases q : H b with
      | none => rfl
      | some u =>
        rcases only b u q with ⟨hb, _⟩ | ⟨rfl, _⟩
        · rw [isT b hb] at e
          cases e
          exact absurd rfl n2
        · rw [ha] at e
          cases e
          exact absurd rfl (n1 _ _))
    have nsOf : ∀ {b : Addr} {m : Str → Option Value}, s.heap.Ns b m → (hidT s.heap H).Ns b m := fun {b m} ⟨o, es, ep, e, dd, r⟩ => ⟨o, es, ep, shown e (fun _ _ z => by rw [dd] at z; cases z) (fun z => by rw [dd] at z; cases z), dd, r⟩
    have kin : K.In (hidT s.heap H) := fun b o e => hidT_get (KX b o e) (by
      cases q : H b with
      | none => rfl
      | some u =>
        rcases only b u q with ⟨hb, _⟩ | ⟨rfl, hk, _⟩
        · obtain ⟨p, hp, ep⟩ := List.mem_map.mp hb
          have := nT p hp
          rw [ep, e] at this
          cases this
        · rw [hk] at e
          cases e)
    have tabs : ∀ p ∈ cs, TabB (hidT s.heap H) mg p.1 p.2 := fun p hp => by
      obtain ⟨bm, ob, b1, b2, b3, b4, b5, b6⟩ := hbm
      obtain ⟨og, eg, pg, g1, g2, _⟩ := hns
      have noG : bm ≠ mainGlobals := fun q => by
        rw [q, g1] at b3
        cases b3
        rw [g2] at b6
        cases b6
      have noP : bm ≠ p.2 := fun q => by
        rw [q, hT p hp] at b3
        cases b3
        cases b6
      refine ⟨PySem.W.codeHd_of_K kin (C p hp), ⟨bm, ob, b1, b2, noG, noP, shown b3 (fun _ _ z => by rw [b6] at z; cases z) (fun z => by rw [b6] at z; cases z), b4, b5, b6⟩, fun z => ?_⟩
      rw [z, hT p hp] at g1
      cases g1
      cases g2
    obtain ⟨mc, l1, l2⟩ := hlim
    have e0 : Env0 P w K mg (hidT s.heap H) callerA [] s H := ⟨rfl, ⟨kin, nsOf hns, ⟨mb, nsOf hbl, hbb⟩, mc, nsOf l1, l2⟩, fun b o e => of_hidT e, Nat.le_of_eq (hidT_size _ _), trivial, (fun b hb => nomatch hb), hok, .of_eq hg⟩
    refine codeAny_mono ((F _ kin (nsOf hns) tabs).run callerA [] s H [.ref a] [] [.ref a] [] _ hr e0 (.cons rfl .nil) .nil rfl (hsp H hH hS aT)) fun r s' h => ?_
    cases r with
    | error e => exact False.elim h
    | ok fl =>
      cases fl with
      | next => exact False.elim h
      | brk => exact False.elim h
      | cont => exact False.elim h
      | ret u =>
        obtain ⟨v, H', os, bare, un, hok', rv, rfl⟩ := h
        obtain rfl : u = Value.bool true := rv
        have more : ∀ p ∈ cs, ∃ m : Array Value, s'.heap.get? p.2 = some { cls := .none, data := .fields m } := fun p hp => by
          obtain ⟨m, z⟩ := un.tbls p.2 #[] (hH p hp)
          exact ⟨_, hok' p.2 _ z⟩
        have kept : ∀ b o, b ∉ cs.map (·.2) → s.heap.get? b = some o → s'.heap.get? b = some o := fun b o nb e => by
          cases q : H b with
          | none => exact un.keep b o e q (fun z => nomatch z) (fun z => nomatch z)
          | some u =>
            rcases only b u q with ⟨hb, _⟩ | ⟨rfl, _, ob, xs, rfl⟩
            · exact absurd hb nb
            · have e1 := (hok _ _ q).1
              rw [e] at e1
              cases e1
              exact (hok' _ _ (un.frzs _ _ _ q)).1
        refine ⟨rfl, ⟨fun b o e => ?_, fun b o e => ?_⟩, os, bare⟩
        · by_cases hb : b ∈ cs.map (·.2)
          · obtain ⟨p, hp, rfl⟩ := List.mem_map.mp hb
            obtain ⟨m, hm⟩ := more p hp
            rw [hT p hp] at e
            cases e
            exact .inr (.inl ⟨((PySem.W.codeHd_of_K KX (C p hp)).tab (hT p hp)).isCodeTable, rfl, #[], m, rfl, by rw [Array.empty_append]; exact hm⟩)
          · exact .inl (kept b o hb e)
        · by_cases hb : b ∈ cs.map (·.2)
          · obtain ⟨p, hp, rfl⟩ := List.mem_map.mp hb
            obtain ⟨m, hm⟩ := more p hp
            exact ⟨_, hm⟩
          · exact ⟨o, kept b o hb e⟩
  have rv := vals_ints hi
  cases hk : K.lookup a with
  | some o =>
    have e := KX a o hk
    rw [ha] at e
    cases e
    refine go (fun b => if b ∈ cs.map (·.2) then some (.tbl #[]) else none) (fun p hp => if_pos (List.mem_map.mpr ⟨p, hp, rfl⟩)) (fun b o z => ?_) (fun b o z => ?_) (.inr ⟨_, vs.toArray, _, hk, rfl, rfl, rfl, ?_, by simpa using rv⟩)
    · by_cases hb : b ∈ cs.map (·.2)
      · simp only [if_pos hb] at z
        cases z
        exact .inl ⟨hb, rfl⟩
      · simp only [if_neg hb] at z
        cases z
    · by_cases hb : b ∈ cs.map (·.2)
      · simp only [if_pos hb] at z
        cases z
        exact isT b hb
      · simp only [if_neg hb] at z
        cases z
    · rw [List.size_toArray, hi.length]
      exact hl
  | none =>
    refine go (fun b => if b ∈ cs.map (·.2) then some (.tbl #[]) else hpS a { cls := .type "list", data := .seq vs.toArray } (ns.map V.int) b) (fun p hp => if_pos (List.mem_map.mpr ⟨p, hp, rfl⟩)) (fun b o z => ?_) (fun b o z => ?_) (.inl (.inr ⟨{ cls := .type "list", data := .seq vs.toArray }, ?_⟩))
    · by_cases hb : b ∈ cs.map (·.2)
      · simp only [if_pos hb] at z
        cases z
        exact .inl ⟨hb, rfl⟩
      · simp only [if_neg hb] at z
        unfold hpS at z
        by_cases hb2 : b = a
        · simp only [if_pos hb2] at z
          cases z
          exact .inr ⟨hb2, hk, _, _, rfl⟩
        · simp only [if_neg hb2] at z
          cases z
    · by_cases hb : b ∈ cs.map (·.2)
      · simp only [if_pos hb] at z
        cases z
        exact isT b hb
      · simp only [if_neg hb] at z
        unfold hpS at z
        by_cases hb2 : b = a
        · simp only [if_pos hb2] at z
          cases z
          subst hb2
          exact ⟨ha, by rw [List.length_map]; exact hl, vs, _, rv, ha⟩
        · simp only [if_neg hb2] at z
          cases z
    · have na : a ∉ cs.map (·.2) := fun z => aT a z rfl
      show (if a ∈ cs.map (·.2) then none else if a ∈ cs.map (·.2) then some (HO.tbl #[]) else hpS a _ _ a) = _
      rw [if_neg na, if_neg na]
      exact if_pos rfl
end
theorem flat_tb : ∀ ts : List (Addr × Str), Flat (tbM ts) (ts.map fun p => (p.1, Cell0.tb p.2))
  | [] => .nil
  | p :: ts => (flat_tb ts).one
/-- the end of a law whose defs make lambdas: cs: code objects, their tables, the lambdas' name -/
theorem walk_xT {l : PySem.W.OpenLaw} {k : Nat} {q : Program} {loose : List Str} {XP : (Str → Option Value) → Heap → Prop} {YP : World → Heap → Prop} {d : DefRec} {K : Params → PySem.W.Frag}
    (hn : l.most = some 63) (hdf : d.params.defaults = []) (hr : Room k callerA) (hY : ∀ (w : World) (h : Heap), YP w h → (K w.params).In h) (xs : List Str) (hrec : (xs.all fun x => (recsOf q).any fun e => e.name == x) = true)
    (F : ∀ (w : World) (mg : Str → Option Value) (fa : Addr) (h : Heap), (K w.params).In h → h.Ns mainGlobals mg → mg d.name = some (.ref fa) → (∀ x ∈ xs, ∀ f, mg x = some (.ref f) → OwnTab (K w.params) f h) →
        ∃ cs : List (Addr × Addr × Str), (∀ p ∈ cs, h.get? p.2.1 = some { cls := .none, data := .fields #[] }) ∧ (∀ p ∈ cs, (K w.params).lookup p.2.1 = none) ∧ (∀ p ∈ cs, PySem.W.codeHdIn (K w.params) p.1 p.2.1 = true) ∧ (cs.map (·.2.1)).Nodup ∧
          ∀ bs : Heap, (K w.params).In bs → bs.Ns mainGlobals mg → (∀ p ∈ cs, TabB bs mg p.1 p.2.1) → FnX l.prog w (K w.params) mg bs k fa [] (spX (K w.params) (aLawT (cs.map (·.2))))) :
    PySem.W.WalkO q loose XP YP l.row.toRowW d [] (fun f vs => PySem.call f vs) := by
  refine Att.attach_call hn hdf fun w s₀ s₁ mg mb fa o pm cd doc a vs ns G Y ho hd hcd hmg hobj hints hlen hg => ?_
  have KX := hY w _ Y
  have own : ∀ x ∈ xs, ∀ f, mg x = some (.ref f) → OwnTab (K w.params) f s₁.heap := fun x hx f hf c P o1 fd1 e dd vs1 sl k1 k2 k3 k4 k5 => by
    obtain ⟨dL, hm, hn1⟩ := List.any_eq_true.mp (List.all_eq_true.mp hrec x hx)
    have hn2 := beq_iff_eq.mp hn1
    obtain ⟨a', o', fd', c', P', h1, h2, h3, h4, h5, h6⟩ := G.T.tab dL hm
    rw [hn2, hf] at h1
    cases h1
    have g1 := KX _ _ k1
    rw [g1] at h2
    cases h2
    rw [k2] at h3
    cases h3
    rw [k3] at h4
    cases h4
    obtain ⟨⟨oc, vc, e1, _, e3, e4⟩, hP⟩ := h6
    have g2 := KX _ _ k4
    rw [g2] at e1
    cases e1
    cases e3
    rw [k5] at e4
    cases e4
    exact hP
  obtain ⟨cs, hT, nT, hC, hnd, hF⟩ := F w mg fa _ KX G.T.g hmg own
  have mem : ∀ p ∈ cs.map (fun p => (p.1, p.2.1)), ∃ x ∈ cs, p = (x.1, x.2.1) := fun p hp => let ⟨x, h1, h2⟩ := List.mem_map.mp hp; ⟨x, h1, h2.symm⟩
  refine run_lawT (cs := cs.map fun p => (p.1, p.2.1)) KX G.T.g G.T.b G.T.builtins G.T.nolimit hg (fun p hp => by obtain ⟨x, h1, rfl⟩ := mem p hp; exact hT x h1) (fun p hp => by obtain ⟨x, h1, rfl⟩ := mem p hp; exact nT x h1) (fun p hp => by obtain ⟨x, h1, rfl⟩ := mem p hp; exact hC x h1) G.T.bmain hobj hints (Nat.le_trans hlen (by decide)) ⟨hr, rfl⟩
    (fun bs kin hns tb => hF bs kin hns fun p hp => tb (p.1, p.2.1) (List.mem_map.mpr ⟨p, hp, rfl⟩)) fun H hH hS hna => ?_
  have em : (cs.map fun p => (p.1, p.2.1)).map (·.2) = cs.map (·.2.1) := by rw [List.map_map]; rfl
  rw [em] at hS hna
  refine ⟨fun b => if b ∈ cs.map (·.2.1) then none else H b, tbM (cs.map (·.2)), [.lst (ns.map .int)], [], fun d _ => d = .bl true, .cons (.lst hS (.ofInts ns)) .nil, .nil, ⟨_, flat_tb _, ?_, ?_, ?_⟩, ⟨ns, rfl, hlen, rfl, fun _ => rfl⟩, ?_⟩
  · intro b x e
    by_cases hb : b ∈ cs.map (·.2.1)
    · simp only [if_pos hb] at e
      cases e
    · simp only [if_neg hb] at e
      exact e
  · intro b c hm
    obtain ⟨p, hp, e⟩ := List.mem_map.mp hm
    obtain ⟨p2, hp2, rfl⟩ := List.mem_map.mp hp
    cases e
    have hin : p2.2.1 ∈ cs.map (·.2.1) := List.mem_map.mpr ⟨p2, hp2, rfl⟩
    refine ⟨if_pos hin, _, hH (p2.1, p2.2.1) (List.mem_map.mpr ⟨p2, hp2, rfl⟩), #[], rfl, trivial, fun pos cv hc => ?_⟩
    have z : codeAmong pos [] = some cv := hc
    simp [codeAmong] at z
  · rw [List.map_map, List.map_map]
    exact hnd
  · rintro d M' v Hi' H' rfl _ _ r
    cases r
    rfl
end Ab
namespace K43
open PySem L2 Ab LamX Sm
/-! ### the completion -/
structure CmOk (ps : List Int) (kn : Nat) (r : Int) : Prop where
  k2 : 2 ≤ kn
  k9 : kn ≤ 9
  hl : ps.length ≤ 1000
  hc : NoCf kn (bndL ps r)
  hb : ∀ j, j < (bndL ps r).length → 1 ≤ (bndL ps r).getD j 0 ∧ (bndL ps r).getD j 0 ≤ 1000000
  h0 : 0 ≤ cm0 ps r
  h1 : cm0 ps r ≤ 1000000
  hr : r ≤ 1000000
section
variable {ps : List Int} {kn : Nat} {r : Int}
theorem CmOk.b8 (h : CmOk ps kn r) : BdOk (bndL ps r) := fun j hj => ⟨(h.hb j hj).1, by have := (h.hb j hj).2; omega⟩
theorem CmOk.good (h : CmOk ps kn r) : GoodS (cmSc ps kn r) := by
  have w1 : ∀ e, 1 ≤ cmW kn (bndL ps r) e := fun _ => cmW_one
  have wt : ∀ e, cmW kn (bndL ps r) e ≤ 1000000 := fun _ => cmW_top (by decide) fun j hj => (h.hb j hj).2
  have k2 := h.k2
  have k9 := h.k9
  have limS : Lim (cmS kn (bndL ps r) r (cm0 ps r), [0]) := by
    refine ⟨?_, Nat.le_of_ble_eq_true rfl, List.cons_ne_nil _ _, fun v hv => ?_, fun v hv => by rw [List.mem_singleton.mp hv]; exact ⟨by decide, by decide⟩⟩
    · show (cmS kn (bndL ps r) r (cm0 ps r)).length ≤ 12
      unfold cmS
      rw [List.length_cons, List.length_map, List.length_range]
      decide
    · rcases List.mem_cons.mp hv with rfl | hv
      · exact ⟨h.h0, h.h1⟩
      · obtain ⟨e, he, rfl⟩ := List.mem_map.mp hv
        exact ⟨cmI_nn k2 h.hc h.b8 (by have := List.mem_range.mp he; omega), cmI_top (by decide) h.hr fun j hj => (h.hb j hj).2⟩
  have limL : Lim (cmL kn (bndL ps r), [0]) := by
    refine ⟨?_, Nat.le_of_ble_eq_true rfl, List.cons_ne_nil _ _, fun v hv => ?_, fun v hv => by rw [List.mem_singleton.mp hv]; exact ⟨by decide, by decide⟩⟩
    · show (cmL kn (bndL ps r)).length ≤ 12
      unfold cmL
      rw [List.length_cons, List.length_map, List.length_range]
      decide
    · rcases List.mem_cons.mp hv with rfl | hv
      · exact ⟨by have := w1 0; omega, wt 0⟩
      · obtain ⟨e, he, rfl⟩ := List.mem_map.mp hv
        have a1 := w1 e
        have a2 := wt (e + 1)
        have a3 : cmW kn (bndL ps r) e ≤ cmW kn (bndL ps r) (e + 1) := pmx_step e
        exact ⟨by omega, by omega⟩
  have hz : item (cmL kn (bndL ps r), [0]) 0 ≠ 0 := by
    rw [cmL_0]
    have := w1 0
    omega
  exact good_nf (by omega) (by omega) limS.ne limL.ne (lim_nf limS.ne limS.l1 limS.l2 limS.a1 limS.a2) (lim_nf limL.ne limL.l1 limL.l2 limL.a1 limL.a2) hz
theorem cm_sp : item (cmSc ps kn r).sp = item (cmS kn (bndL ps r) r (cm0 ps r), [0]) := funext (nf_spec (List.cons_ne_nil _ _)).it
theorem cm_lv : item (cmSc ps kn r).lv = item (cmL kn (bndL ps r), [0]) := funext (nf_spec (List.cons_ne_nil _ _)).it
theorem cm_z {i : Nat} (hi : 12 ≤ i) : item (cmSc ps kn r).sp i = 0 ∧ item (cmSc ps kn r).lv i = 0 := by
  rw [cm_sp, cm_lv]
  exact ⟨cmS_h hi, cmL_h hi⟩
theorem cm_i1 : item (it14 (cmSc ps kn r).sp) = item (cmSc ps kn r).sp := it14_item fun i hi => (cm_z (by omega)).1
theorem cm_i2 : item (it14 (cmSc ps kn r).lv) = item (cmSc ps kn r).lv := it14_item fun i hi => (cm_z (by omega)).2
theorem cm_P : PlS (cmSc ps kn r) = PlT kn (it14 (cmSc ps kn r).sp) (it14 (cmSc ps kn r).lv) := by
  show pl (kn : Int).toNat _ _ 0 = pl kn _ _ 0
  rw [cm_i1, cm_i2, Int.toNat_natCast]
theorem GoodS.it {S : Sc} (h : GoodS S) (i : Nat) : (0 ≤ item S.sp i ∧ item S.sp i ≤ 1000000) ∧ (0 ≤ item S.lv i ∧ item S.lv i ≤ 1000000) := by
  constructor
  · rcases item_mem h.ls.ne i with z | z
    · exact h.ls.a1 _ z
    · exact h.ls.a2 _ z
  · rcases item_mem h.ll.ne i with z | z
    · exact h.ll.a1 _ z
    · exact h.ll.a2 _ z
theorem CmOk.sw1 (h : CmOk ps kn r) : Sw6 0 (it14 (cmSc ps kn r).sp) := ⟨List.cons_ne_nil _ _, fun i => by rw [cm_i1]; exact (h.good.it i).1, by rw [cm_i1]; exact (h.good.it 0).1.1⟩
theorem CmOk.sw2 (h : CmOk ps kn r) : Sw6 1 (it14 (cmSc ps kn r).lv) := ⟨List.cons_ne_nil _ _, fun i => by rw [cm_i2]; exact (h.good.it i).2, by
  rw [cm_i2]
  have := h.good.lf
  have := (h.good.it 0).2.1
  omega⟩
theorem cm_pl0 : PlS (cmSc ps kn r) = pl kn (item (cmS kn (bndL ps r) r (cm0 ps r), [0])) (item (cmL kn (bndL ps r), [0])) 0 := by
  show pl (kn : Int).toNat _ _ 0 = pl kn _ _ 0
  rw [cm_sp, cm_lv, Int.toNat_natCast]
theorem CmOk.at_ (h : CmOk ps kn r) {b : Nat} (hb : b < ps.length) : PlS (cmSc ps kn r) b = ps.getD b 0 := by
  have e := plL_self ps
  have hl := h.hl
  have := cm_places h.k2 (p := fun b => ps.getD b 0) (n := ps.length) (r := r) (by omega) (by rw [e]; exact h.hc) (by rw [e]; exact h.b8) (s0 := cm0 ps r) (fun h0 => by unfold cm0; rw [if_neg (List.length_pos_iff.mp h0)]) hb
  rw [e] at this
  rw [cm_pl0]
  exact this
theorem CmOk.pls (h : CmOk ps kn r) : plL (PlS (cmSc ps kn r)) ps.length = ps :=
  (plL_ext.mpr fun b hb => h.at_ hb).trans (plL_self ps)
theorem CmOk.next (h : CmOk ps kn r) : laP ps + r ≤ PlS (cmSc ps kn r) ps.length := by
  have e := plL_self ps
  have hl := h.hl
  have := cm_next h.k2 (p := fun b => ps.getD b 0) (n := ps.length) (r := r) (by omega) (by rw [e]; exact h.hc) (by rw [e]; exact h.b8) (s0 := cm0 ps r) (by
    unfold cm0
    by_cases z : ps = []
    · rw [if_pos z, if_pos (by rw [z]; rfl)]
    · rw [if_neg z, if_neg fun y => z (List.length_eq_zero_iff.mp y)])
  rw [e] at this
  rw [cm_pl0]
  refine Int.le_trans ?_ this
  unfold laP
  by_cases z : ps = []
  · rw [if_pos z, if_pos (by rw [z]; rfl)]
    exact Int.le_refl _
  · rw [if_neg z, if_neg fun y => z (List.length_eq_zero_iff.mp y)]
    exact Int.le_refl _
end
/-- the completion of values -/
theorem cmOk_v {vs : List Int} {kn : Nat} (k2 : 2 ≤ kn) (k9 : kn ≤ 9) (ok : okVs vs) (h60 : vs.length ≤ 60) (hc : cfL kn (bndL (pIn vs) (rOf vs (pIn vs))) = []) : CmOk (pIn vs) kn (rOf vs (pIn vs)) := by
  have hr : 1 ≤ rOf vs (pIn vs) ∧ rOf vs (pIn vs) ≤ vs.length := rsV_rng ok.1
  have hpl := pIn_len (vs := vs)
  have R := pIn_R (vs := vs) (G := 1000000) (by omega)
  refine ⟨k2, k9, by omega, cfL_nil.mp hc, bnd_rng R fun _ => ⟨hr.1, by omega⟩, ?_, ?_, by omega⟩
  · unfold cm0
    split
    · omega
    · rename_i z
      exact (R.z (List.length_pos_iff.mpr z)).1
  · unfold cm0
    split
    · omega
    · rename_i z
      exact (R.z (List.length_pos_iff.mpr z)).2
theorem cm_vlL {vs : List Int} {kn : Nat} (ok : okVs vs) (h : CmOk (pIn vs) kn (rOf vs (pIn vs))) : vlL (PlT kn (it14 (cmSc (pIn vs) kn (rOf vs (pIn vs))).sp) (it14 (cmSc (pIn vs) kn (rOf vs (pIn vs))).lv)) vs.length = vs := by
  refine vlL_of (PlW_inc h.k2 h.sw1 h.sw2) ok.2.2 (fun b hb => ?_) ?_
  · rw [← cm_P]
    exact h.at_ hb
  · rw [← cm_P]
    have := h.next
    have e : laP (pIn vs) + rOf vs (pIn vs) = (vs.length : Int) := by
      unfold laP rOf
      omega
    omega
/-- the completion of places at other distances -/
theorem cmOk_p {vs : List Int} {kn : Nat} {sc : Int} (ok : okVs vs) (h60 : vs.length ≤ 60) (s1 : 1 ≤ sc) (s2 : sc ≤ 1000) (h : CmOk (pIn vs) kn (rOf vs (pIn vs))) : CmOk ((pIn vs).map (· * sc)) kn (if (pIn vs).map (· * sc) = [] then 0 else 1) ∧ okPs ((pIn vs).map (· * sc)) := by
  have hpl := pIn_len (vs := vs)
  have R := pIn_R (vs := vs) (G := 60) (by omega)
  have hl : ((pIn vs).map (· * sc)).length = (pIn vs).length := List.length_map ..
  have mb : ∀ {x : Int}, 0 ≤ x → x ≤ 60 → 0 ≤ x * sc ∧ x * sc ≤ 60000 := fun {x} h0 h1 => ⟨Int.mul_nonneg h0 (by omega), Int.le_trans (Int.mul_le_mul h1 s2 (by omega) (by decide)) (by decide)⟩
  have R2 : PsR ((pIn vs).map (· * sc)) 1000000 := by
    refine ⟨fun j hj => ?_, fun h0 => ?_⟩
    · rw [hl] at hj
      have := R.st j hj
      rw [getD_scale, getD_scale, ← Int.sub_mul]
      have h2 := mb (show 0 ≤ (pIn vs).getD (j + 1) 0 - (pIn vs).getD j 0 by omega) this.2
      have h3 : 1 * 1 ≤ ((pIn vs).getD (j + 1) 0 - (pIn vs).getD j 0) * sc := Int.mul_le_mul this.1 s1 (by decide) (by omega)
      omega
    · rw [hl] at h0
      have := R.z h0
      rw [getD_scale]
      have h2 := mb this.1 this.2
      omega
  have hr : (if (pIn vs).map (· * sc) = [] then (0 : Int) else 1) ≤ 1 := by split <;> decide
  refine ⟨⟨h.k2, h.k9, by omega, NoCf_scale (fun j hj => (R.st j hj).1) h.hc s1 hr, bnd_rng R2 fun z => by rw [if_neg z]; decide, ?_, ?_, by omega⟩, by omega, fun i hi => ?_⟩
  · unfold cm0
    split
    · decide
    · rename_i z
      exact (R2.z (List.length_pos_iff.mpr z)).1
  · unfold cm0
    split
    · decide
    · rename_i z
      exact (R2.z (List.length_pos_iff.mpr z)).2
  · cases i with
    | zero =>
      have := R2.z (by omega)
      rw [if_pos rfl, if_pos rfl]
      omega
    | succ i =>
      have := R2.st i hi
      rw [if_neg (Nat.succ_ne_zero i), if_neg (Nat.succ_ne_zero i), Nat.add_sub_cancel]
      omega
theorem cfV_nb : ∀ l : List (Nat × Nat), nbVs (cfV l)
  | [] => trivial
  | _ :: l => ⟨⟨trivial, trivial, trivial⟩, cfV_nb l⟩
theorem cfV_dp : ∀ l : List (Nat × Nat), dpVs (cfV l) ≤ 2
  | [] => Nat.zero_le _
  | a :: l => by
    have := cfV_dp l
    show max (dpV (.tup [.int (a.1 : Nat), .int (a.2 : Nat)])) (dpVs (cfV l)) ≤ 2
    have e : dpV (.tup [.int (a.1 : Nat), .int (a.2 : Nat)]) = 1 := rfl
    omega
theorem cf_ne {X : Cx} {M : Mem} (hu : X.A.units + 64 < cLine) (l : List (Nat × Nat)) : Cmp X .NotEq M (.lst (cfV l)) (.lst []) (!l.isEmpty) := by
  obtain ⟨k, hk, ik⟩ := cp_neW (X := X) (M := M) (v := .lst (cfV l)) (w := .lst []) (.self _) (.self _) (cfV_nb l) trivial (by have := cfV_dp l; show dpVs (cfV l) + 1 ≤ 60; omega) (by decide) hu
  have : k = !l.isEmpty := by
    cases l with
    | nil =>
      cases k with
      | false => rfl
      | true => exact absurd rfl (ik.mp rfl)
    | cons a l =>
      cases k with
      | true => rfl
      | false => exact absurd (ik.mpr (fun e => by injection e with e; exact List.cons_ne_nil _ _ e)) (by decide)
  rw [← this]
  exact hk
theorem set_oth {M : Mem} {i j : Nat} {x y z : Addr × Cell} (hi : M[i]? = some x) (hj : M[j]? = some y) (hne : x.2 ≠ y.2) : (M.set i z)[j]? = some y := by
  rw [List.getElem?_set_ne (fun e => by subst e; rw [hi] at hj; exact hne (congrArg Prod.snd (Option.some.inj hj)))]
  exact hj
section
variable {P : Program} {w : World} {K : PySem.W.Frag} {mg : Str → Option Value} {base : Heap} {k : Nat} {f C CP CV CE X0 : Addr}
def aCm0 (C X0 : Addr) : ASp := fun ds M R => ∃ (ps : List Int) (kn : Nat) (r : Int), ds = [ftV X0 ps kn r] ∧ CmOk ps kn r ∧ R (scV C (cmSc ps kn r)) M
theorem aCm0.cmp {ds es : List Val} {M : Mem} {R : Val → Mem → Prop} (he : es.length = 0) (h : aCm0 C X0 ds M R) : ds.length = 1 ∧ ∀ p, p ∉ M.map (·.1) → aCmp C X0 (ds ++ es ++ [.ptr p]) ((p, .dk []) :: M) R := by
  obtain ⟨ps, kn, r, rfl, h, hp⟩ := h
  obtain rfl := List.length_eq_zero_iff.mp he
  have := h.hl
  exact ⟨rfl, fun p _ => ⟨ps, kn, r, p, M, rfl, rfl, h.k2, h.k9, by omega, h.hc, h.hb, h.h0, h.h1, h.hr, hp⟩⟩
theorem ae_comp {X : Cx} {Γ : Gam} {M : Mem} {R : Val → Mem → Prop} {o : Expr} {apos pos : Pos} {q n : Nat} {ps : List Int} {kn : Nat} {r : Int} {pl : Sem Bool} (F : FtX X.K X0) (XC : MtF X.prog X.w X.K X.mg X.base X0 "completed" n (aCm0 C X0)) (hr : Rm q X.A) (hq : n ≤ q) (ho : aV X o Γ M (ftV X0 ps kn r)) (h : CmOk ps kn r) (hR : R (scV C (cmSc ps kn r)) M)
    (ht : eval (.Call (.Attribute o "completed" apos) [] [] pos) X.env = (do
      let ov ← eval o X.env
      standAt apos.atName
      let (f, first) ← holding [ov] (getMethod ov "completed" pl)
      callWith pos f first (backTo pos (starEach [] X.env)) (backToKw pos (keywordEach [] X.env))) := by rfl) : aE X (.Call (.Attribute o "completed" apos) [] [] pos) Γ M R :=
  ae_mt0 F.cl XC.ex hr hq ho (.im _) ⟨ps, kn, r, rfl, h, hR⟩ rfl ht
/-! ### _law_right -/
abbrev riLam : Str := "_law_right.<locals>.<lambda>"
def aRt6 (Pt : Addr) : ASp := fun ds M R => ∃ (p : Addr) (i N kn j : Nat) (vs : List Int), ds = [.ptr p, .lst (vs.map .int), .int (kn : Int)] ∧ M[i]? = some (p, st6 p N) ∧ N ≤ 850000 ∧ okVs vs ∧ vs.length ≤ 60 ∧ 2 ≤ kn ∧ kn ≤ 9 ∧ M[j]? = some (Pt, .b (.tb riLam)) ∧ ∀ N', N' ≤ N + 30 → R (.bl true) (M.set i (p, st6 p N'))
theorem b__law_right {c Pt : Addr} (B : Bt mg) (T : Rs K mg C) (SM : Sm2 P w K mg base C) (GO : GOf6 P w K mg base) (GT : GSr6 P w K mg base) (GP : GLpW P w K mg base) (GE : GSeW P w K mg base) (GK : GKw6 P w K mg base) (GB : GBn6 P w K mg base) (GC : GCf6 P w K mg base) (LM : LMd6 P w K mg base CE) (GI : GIt6 P w K mg base C) (GN : GEn6 P w K mg base C)
    (FV : FtX K CV) (ZV : FtC K mg CV "ValueFit") (IV : MkFE P w K mg base CV (aVfiE CV CE)) (XCV : MtF P w K mg base CV "completed" 6 (aCm0 C CV)) (XFV : MtF P w K mg base CV "fits" 7 (aFiv K C CV)) (FP : FtX K CP) (ZP : FtC K mg CP "PlaceFit") (IP : MkFE P w K mg base CP (aPfiE CP CE)) (XCP : MtF P w K mg base CP "completed" 6 (aCm0 C CP)) (TB : TabB base mg c Pt) : BodyT P w K mg base 12 f c n__law_right "_law_right" (defScope s__law_right) (defBody s__law_right) (aRt6 Pt) := by
  rintro A outer s0 H E hr ds M R ⟨p, i, N, kn, j, vs, rfl, hi, hN, ok, h60, k2, k9, hj, hp⟩
  have hu := hr.u64
  have hpl := pIn_len (vs := vs)
  have hR0 := pIn_R (vs := vs) (G := 60) (by omega)
  have hrr : 1 ≤ rOf vs (pIn vs) ∧ rOf vs (pIn vs) ≤ vs.length := rsV_rng ok.1
  refine as_cons (as_set 3 q__law_right.nd (ae_g GK hr (by decide) (aa_cons ((v_ 1).val (aa_nil (ak_nil ⟨rfl, vs, rfl, by omega, ?_⟩))))))
  refine as_cons (as_setv (d := .int (rOf vs (pIn vs))) 4 q__law_right.nd ?_ ?_)
  · unfold rOf
    refine av_sub (av_lenSv B.len (v_ 1) .l) ?_
    have hix : at0 (pIn vs ++ [0]) (max 0 (((pIn vs).length : Int) - 1)) = if pIn vs = [] then 0 else (pIn vs).getD ((pIn vs).length - 1) 0 := by
      by_cases z : pIn vs = []
      · rw [if_pos z, z]
        rfl
      · have := List.length_pos_iff.mpr z
        rw [if_neg z, show max 0 (((pIn vs).length : Int) - 1) = (((pIn vs).length - 1 : Nat) : Int) by omega]
        show (pIn vs ++ [0]).getD ((pIn vs).length - 1) 0 = _
        rw [gdA, if_pos (by omega)]
    rw [← hix]
    have sv : Sv M (.lst ((pIn vs).map Val.int ++ [Val.int 0])) (pIn vs ++ [0]) := by
      have := Sv.l (M := M) (ns := pIn vs ++ [0])
      rw [List.map_append] at this
      exact this
    exact av_ixSv (av_catL (v_ 3) (av_lst (avs_cons i_ avs_nil) szb) (.self _) (.self _) (sz (by rw [List.length_map]; show _ + 1 ≤ _; omega))) (av_max2 B.max rfl i_ (av_sub (av_lenSv B.len (v_ 3) .l) i_)) sv (by omega) (by rw [List.length_append, List.length_singleton]; omega)
  cases hc : cfL kn (bndL (pIn vs) (rOf vs (pIn vs))) with
  | cons a l =>
    refine as_cons (as_set 5 q__law_right.nd (ae_lam LM hr (by decide) ⟨c, TB, rfl⟩ (i := j) hj 9 (fun M2 R' PE => M2 = M ∧ PE CE (cfE a) M) (fun A outer s H E f c' hr' po M2 R' PE ⟨eM, hb⟩ => ?lam) (by decide) ⟨rfl, rfl, ?_⟩ (L := by show lamSB (defScope s__law_right) _ = true; decide +kernel)))
    case lam =>
      subst eM
      exact ye_mkF ZV.gC IV hr' (by decide) ((v_ 1).val ((v_ 2).val fun p0 => ⟨p0, _, vs, kn, _, rfl, rfl, .l, ok, k2, k9, (fun h => by rw [hc] at h; cases h), (fun a' l' h => by rw [hc] at h; cases h; exact hb)⟩))
    refine as_cons (as_if (at_cmpM (ae_cmp (v_ 5) n_ cmp_isN (ae_cmpM (ae_g GC hr (by decide) (aa_cons (ae_g GB hr (by decide) (aa_cons ((v_ 3).val (aa_cons ((v_ 4).val (aa_nil (ak_nil ⟨rfl, pIn vs, _, rfl, by omega, aa_cons ((v_ 2).val (aa_nil (ak_nil ⟨rfl, _, kn, rfl, k2, k9, by rw [bndL_len]; omega, (av_lst avs_nil szb).val ⟨_, cf_ne hu _, ⟨false, cmp_neB.eq (by rw [hc]; rfl), nft, fun _ => as_nil ?_⟩⟩⟩)))⟩)))))))))))))
    refine as_cons (as_ifp (tp_cmp (v_ 5) n_ cp_isN) (fun _ => ?_) (fun c => absurd rfl c))
    refine as_cons (as_asg (ae_tup (aa_cons (ae_g GT hr (by decide) (aa_cons ((v_ 0).val (aa_cons (i_.val (aa_nil (ak_nil ⟨rfl, p, i, N, 0, rfl, hi, by omega, by decide, by decide, fun s N2 hs hN2 => aa_cons (ae_g GT hr (by decide) (aa_cons ((v_ 0).val (aa_cons (i_.val (aa_nil (ak_nil ⟨rfl, p, i, N2, 1, rfl, bx_get hi, by omega, by decide, by decide, fun l N3 hl hN3 => aa_nil ⟨szb, ag_tup rfl (ags_cons (ag_name 6 q__law_right.nd (ags_cons (ag_name 7 q__law_right.nd (ags_nil ?_)))))⟩⟩)))))))⟩))))))))))
    rw [List.set_set]
    have hne : vlL (PlT kn s l) vs.length ≠ vs := fun e => by
      have hI := PlT_inc k2 hs.sl hl.sl
      have h1 := cf_vl (mk_good k2 k9 hs.sl hl.sl) (c := vs.length)
      rw [PlS_mk hs.sl hl.sl, mk_a, ← rOf_vl hI, ← pIn_vlL hI, e, hc] at h1
      cases h1
    exact as_one (as_ret (ae_cmpM (ae_frz (ae_g GE hr (by decide) (aa_cons ((v_ 2).val (aa_cons ((v_ 6).val (aa_cons ((v_ 7).val (aa_cons ((av_lenSv B.len (v_ 1) .l).val (aa_nil (ak_nil ⟨rfl, kn, _, _, vs.length, rfl, k2, k9, hs.sl.sw, hl.sl.sw, by omega, fun q => ⟨q, _, _, rfl, rfl, (v_ 1).val ⟨true, cmp_neLI (.self _) (.self _) hu |>.eq (by rw [decide_eq_false hne]; rfl), .ok (hp N3 (by omega))⟩⟩⟩))))))))))))))
  | nil =>
    have cm := cmOk_v k2 k9 ok h60 hc
    refine as_cons (as_set 5 q__law_right.nd (ae_lam LM hr (by decide) ⟨c, TB, rfl⟩ (i := j) hj 9 (fun M2 R' PE => M2 = M ∧ R' (ftV CV (pIn vs) kn (rOf vs (pIn vs))) M) (fun A outer s H E f c' hr' po M2 R' PE ⟨eM, hb⟩ => ?lam) (by decide) ⟨rfl, ?_⟩ (L := by show lamSB (defScope s__law_right) _ = true; decide +kernel)))
    case lam =>
      subst eM
      exact ye_mkF ZV.gC IV hr' (by decide) ((v_ 1).val ((v_ 2).val fun p0 => ⟨p0, _, vs, kn, _, rfl, rfl, .l, ok, k2, k9, fun _ => ⟨rfl, p0, CV, _, _, rfl, rfl, hb⟩, fun a l h => by rw [hc] at h; cases h⟩))
    refine as_cons (as_if (at_cmpM (ae_cmp (v_ 5) n_ cmp_isN (ae_cmpM (ae_g GC hr (by decide) (aa_cons (ae_g GB hr (by decide) (aa_cons ((v_ 3).val (aa_cons ((v_ 4).val (aa_nil (ak_nil ⟨rfl, pIn vs, _, rfl, by omega, aa_cons ((v_ 2).val (aa_nil (ak_nil ⟨rfl, _, kn, rfl, k2, k9, by rw [bndL_len]; omega, (av_lst avs_nil szb).val ⟨_, cf_ne hu _, ⟨false, cmp_neB.eq (by rw [hc]; rfl), nft, fun _ => as_nil ?_⟩⟩⟩)))⟩)))))))))))))
    refine as_cons (as_ifp (tp_cmp (v_ 5) n_ cp_isN) (fun c => by cases c) (fun _ => as_nil ?_))
    refine as_cons (as_asg (ae_g GI hr (by decide) (aa_cons (ae_comp FV XCV hr (by decide) (v_ 5) cm (aa_nil (ak_nil ⟨rfl, _, rfl, cm.good, ag_tup rfl (ags_cons (ag_name 6 q__law_right.nd (ags_cons (ag_name 7 q__law_right.nd (ags_nil ?_)))))⟩))))))
    have eV := cm_vlL ok cm
    refine as_cons (as_if (at_w (aw_or (at_cmpM (ae_frz (ae_g GE hr (by decide) (aa_cons ((v_ 2).val (aa_cons ((v_ 6).val (aa_cons ((v_ 7).val (aa_cons ((av_lenSv B.len (v_ 1) .l).val (aa_nil (ak_nil ⟨rfl, kn, _, _, vs.length, rfl, k2, k9, cm.sw1, cm.sw2, by omega, fun q => ⟨q, _, _, rfl, rfl, (v_ 1).val ⟨false, cmp_neLI (.self _) (.self _) hu |>.eq (by rw [eV, decide_eq_true rfl]; rfl), nft, fun _ => ?_⟩⟩⟩))))))))))))))))
    refine aw_or1 (at_not (at_val (ae_g GN hr (by decide) (aa_cons (ae_comp FV XCV hr (by decide) (v_ 5) cm (aa_nil (ak_nil ⟨rfl, _, rfl, cm.good, fun i h _ => cm_z h, true, rfl, nft, fun _ => as_nil ?_⟩)))))))
    refine as_cons (as_if (at_not (at_val (ae_fitsV (ps := pIn vs) (kn := kn) (r := rOf vs (pIn vs)) FV XFV hr (by decide) (by omega) (v_ 5) (ae_comp FV XCV hr (by decide) (v_ 5) cm (.inl ⟨_, true, rfl, cm.good, ⟨fun _ => ⟨⟨rfl, cm.pls⟩, cm.next⟩, fun _ => rfl⟩, true, rfl, nft, fun _ => as_nil ?_⟩))))))
    refine as_cons (as_set 8 q__law_right.nd (ae_g GO hr (by decide) (aa_cons ((v_ 0).val (aa_cons ((av_lst (avs_cons i_ (avs_cons i_ (avs_cons i_ (avs_cons i_ avs_nil)))) szb).val (aa_nil (ak_nil ⟨rfl, p, i, N, [1, 1, 3, 1000], rfl, hi, by omega, by decide, by decide, fun sc hsc => ?_⟩))))))))
    have hs : 1 ≤ sc ∧ sc ≤ 1000 := (by decide : ∀ v ∈ ([1, 1, 3, 1000] : List Int), 1 ≤ v ∧ v ≤ 1000) sc hsc
    obtain ⟨cp, okp⟩ := cmOk_p ok h60 hs.1 hs.2 cm
    have hj2 : (M.set i (p, st6 p (N + 1)))[j]? = some (Pt, .b (.tb riLam)) := set_oth hi hj (by nofun)
    refine as_cons (as_set 9 q__law_right.nd (ae_lcP [("_law_place_here", 10)] (fun (i : Nat) => .int ((pIn vs).getD i 0 * sc)) rfl q__law_right.nd (blkOk_by (N := n__law_right) (sc := defScope s__law_right) (by decide +kernel)) (ai_lst (xs := (pIn vs).map .int) ((v_ 3).val ⟨rfl, rfl⟩)) ?_ (by rw [List.length_map]; omega) ?_))
    · intro i acc D hi' s1 H1 C1 cl fp
      rw [List.length_map] at hi'
      rw [gdI hi']
      have := pIn_rng hi'
      refine agw_name 10 q__law_right.nd fun s1 H1 C1 cl fp => ?_
      exact (av_mul (v_ 10) (v_ 8) (.inl ⟨by omega, by omega⟩)).val ⟨rfl, rfl⟩
    have ew : (List.range ((pIn vs).map Val.int).length).map (fun (i : Nat) => Val.int ((pIn vs).getD i 0 * sc)) = ((pIn vs).map (· * sc)).map .int := by
      have := plL_self ((pIn vs).map (· * sc))
      rw [List.length_map] at this
      unfold plL at this
      conv => rhs; rw [← this]
      rw [List.length_map, List.map_map]
      exact List.map_congr_left fun i _ => congrArg Val.int (getD_scale i).symm
    rw [ew]
    have hWl : ((pIn vs).map (· * sc)).length ≤ 60 := by rw [List.length_map]; omega
    generalize (pIn vs).map (· * sc) = W at *
    refine as_cons (as_set 5 q__law_right.nd (ae_lam LM hr (by decide) ⟨c, TB, rfl⟩ (i := j) hj2 9 (fun M2 R' PE => M2 = M.set i (p, st6 p (N + 1)) ∧ R' (ftV CP W kn (if W = [] then 0 else 1)) (M.set i (p, st6 p (N + 1)))) (fun A outer s H E f c' hr' po M2 R' PE ⟨eM, hb⟩ => ?lam) (by decide) ⟨rfl, ?_⟩ (L := by show lamSB (defScope s__law_right) _ = true; decide +kernel)))
    case lam =>
      subst eM
      have hcp := cfL_nil.mpr cp.hc
      exact ye_mkF ZP.gC IP hr' (by decide) ((v_ 9).val ((v_ 2).val fun p0 => ⟨p0, _, W, kn, _, rfl, rfl, .l, okp, k2, k9, fun _ => ⟨rfl, p0, CP, _, _, rfl, rfl, hb⟩, fun a l h => by rw [hcp] at h; cases h⟩))
    refine as_cons (as_ifp (tp_cmp (v_ 5) n_ cp_isN) (fun c => by cases c) (fun _ => as_nil ?_))
    refine as_cons (as_asg (ae_g GI hr (by decide) (aa_cons (ae_comp FP XCP hr (by decide) (v_ 5) cp (aa_nil (ak_nil ⟨rfl, _, rfl, cp.good, ag_tup rfl (ags_cons (ag_name 6 q__law_right.nd (ags_cons (ag_name 7 q__law_right.nd (ags_nil ?_)))))⟩))))))
    refine as_lcP 11 [("_law_number", 12)] (fun (i : Nat) => .int (PlS (cmSc W kn (if W = [] then 0 else 1)) i)) rfl q__law_right.nd (blkOk_by (N := n__law_right) (sc := defScope s__law_right) (by decide +kernel)) (ai_range1 (n := W.length) B.range ((av_lenSv B.len (v_ 9) .l).val ⟨_, rfl, by omega, by omega, by omega, rfl⟩)) ?_ (by omega) ?_
    · intro i acc D hi' s1 H1 C1 cl fp
      rw [Int.zero_add]
      refine agw_name 12 q__law_right.nd fun s1 H1 C1 cl fp => ?_
      rw [cm_P]
      exact ae_g GP hr (by decide) (aa_cons ((v_ 2).val (aa_cons ((v_ 6).val (aa_cons ((v_ 7).val (aa_cons ((av_add (v_ 12) i_).val (aa_nil (ak_nil ⟨rfl, kn, _, _, i, by rw [show (i : Int) + 1 = ((i + 1 : Nat) : Int) by omega], k2, k9, cp.sw1, cp.sw2, by omega, rfl, rfl⟩))))))))))
    have et : (List.range W.length).map (fun (i : Nat) => Val.int (PlS (cmSc W kn (if W = [] then 0 else 1)) i)) = W.map .int := by
      have := cp.pls
      unfold plL at this
      conv => rhs; rw [← this]
      rw [List.map_map]
      rfl
    rw [et]
    exact as_one (as_ret (ae_and (ae_cmp (v_ 11) (v_ 9) (cmp_eqLI (ns := W) (ms := W) (.self _) (.self _) hu |>.eq (decide_eq_true rfl)) ⟨true, rfl, fun _ => ae_one (ae_g GN hr (by decide) (aa_cons (ae_comp FP XCP hr (by decide) (v_ 5) cp (aa_nil (ak_nil ⟨rfl, _, rfl, cp.good, fun i h _ => cm_z h, .ok (hp _ (by omega))⟩))))), ntf⟩)))
abbrev GRt6 (P : Program) (w : World) (K : PySem.W.Frag) (mg : Str → Option Value) (base : Heap) (Pt : Addr) : Prop := Gd P w K mg base 13 "_law_right" [] fun ds _ => aRt6 Pt ds
end
end K43
namespace K43
open PySem L2 Ab LamX Sm
/-! ### 150 places of arity 2 -/
theorem hi150 : ∀ m < 150, 6 ≤ vE 2 (m + 1) → m = 63 ∨ m = 127 := by decide +kernel
theorem lo150 : ∀ m < 150, vR 2 (m + 1) ≠ 1 → vE 2 (m + 1) ≤ 5 := by decide +kernel
theorem e64 : vE 2 64 = 6 ∧ vE 2 128 = 7 ∧ vE 2 96 = 5 ∧ vR 2 96 ≠ 1 := by decide +kernel
theorem sf150 {bs : List Int} (hl : bs.length = 150) (hb : BdOk bs) : sfm (hgB 2 bs bs.length) 12 6 = min (bs.getD 63 0) (bs.getD 127 0) := by
  obtain ⟨e1, e2, e3, e4⟩ := e64
  have a1 := sfm_le (h := hgB 2 bs bs.length) (t := 12) (i := 6) (j := 0) (by decide) (by decide)
  have a2 := sfm_le (h := hgB 2 bs bs.length) (t := 12) (i := 6) (j := 1) (by decide) (by decide)
  have b1 := hgB_le (k := 2) (bs := bs) (i := bs.length) (j := 63) (by omega) (by omega)
  have b2 := hgB_le (k := 2) (bs := bs) (i := bs.length) (j := 127) (by omega) (by omega)
  rw [e1] at b1
  rw [e2] at b2
  obtain ⟨j, h1, h2, h3⟩ := sfm_mem (h := hgB 2 bs bs.length) (t := 12) (i := 6) (by decide)
  have c1 := (hb 63 (by omega)).2
  have c2 := (hb 127 (by omega)).2
  have : min (bs.getD 63 0) (bs.getD 127 0) ≤ sfm (hgB 2 bs bs.length) 12 6 := by
    rw [h3]
    rcases hgB_mem (k := 2) (bs := bs) (i := bs.length) (e := 6 + j) with z | ⟨m, hm, _, he, z⟩
    · rw [z]
      omega
    · rw [z]
      rcases hi150 m (by omega) (by omega) with rfl | rfl
      · exact Int.min_le_left _ _
      · exact Int.min_le_right _ _
  have a1 : sfm (hgB 2 bs bs.length) 12 6 ≤ hgB 2 bs bs.length 6 := a1
  have a2 : sfm (hgB 2 bs bs.length) 12 6 ≤ hgB 2 bs bs.length 7 := a2
  omega
theorem pm150 {bs : List Int} (hl : bs.length = 150) (hc : NoCf 2 bs) (hb : BdOk bs) : pmx (lwB 2 bs bs.length) 6 = bs.getD 95 0 := by
  obtain ⟨e1, e2, e3, e4⟩ := e64
  have a1 := lwB_ge (k := 2) (bs := bs) (i := bs.length) (j := 95) (by omega) e4
  rw [e3] at a1
  have a2 := pmx_ge (l := lwB 2 bs bs.length) (i := 6) (j := 5) (by decide)
  obtain ⟨j, h1, h2⟩ := pmx_mem (l := lwB 2 bs bs.length) 6
  have c1 := (hb 95 (by omega)).1
  have : lwB 2 bs bs.length j ≤ bs.getD 95 0 := by
    rcases lwB_mem (k := 2) (bs := bs) (i := bs.length) (e := j) with z | ⟨m, hm, hr, he, z⟩
    · rw [z]
      exact c1
    · rw [z]
      have := lo150 m (by omega) hr
      exact hc 95 m (by omega) (by omega) hr (by rw [e3]; exact this)
  omega
theorem kwI_d7 : KwI "d7" true 7 := ⟨by decide +kernel, by decide +kernel, by decide, ⟨("d7" : Str).cps.toList.getD 0 0, by decide +kernel, by decide +kernel⟩, by decide +kernel, fun h => nomatch h⟩
theorem cmOk_m {s l : Stm} (hs : Sr6 0 s) (hl : Sr6 1 l) : CmOk (plL (PlT 2 s l) 150) 2 1 := by
  have hI := PlT_inc (kn := 2) (by decide) hs.sl hl.sl
  have hlen : (plL (PlT 2 s l) 150).length = 150 := plL_len
  have hR : PsR (plL (PlT 2 s l) 150) 1000000 := by
    refine ⟨fun j hj => ?_, fun _ => ?_⟩
    · rw [hlen] at hj
      rw [plL_at hj, plL_at (show j < 150 by omega)]
      have h1 := PlT_step (kn := 2) (by decide) hs hl (show j ≤ 5000 by omega)
      have h2 := hI.st j
      show 1 ≤ PlT 2 s l (j + 1) - PlT 2 s l j ∧ PlT 2 s l (j + 1) - PlT 2 s l j ≤ 1000000
      have h2 : PlT 2 s l j < PlT 2 s l (j + 1) := h2
      omega
    · rw [plL_at (by decide)]
      have := PlT_top (kn := 2) (by decide) hs hl (show 0 ≤ 5000 by decide)
      omega
  have h0 : cm0 (plL (PlT 2 s l) 150) 1 = (plL (PlT 2 s l) 150).getD 0 0 := by
    unfold cm0
    rw [if_neg (List.length_pos_iff.mp (by rw [hlen]; decide))]
  have hz := hR.z (by rw [hlen]; decide)
  refine ⟨by decide, by decide, by rw [hlen]; decide, cfL_nil.mp (cf_own (by decide) (fun j => (hs.sl.it j).1) (fun j => (hl.sl.it j).1) fun m e => ?_), bnd_rng hR fun _ => by decide, by rw [h0]; exact hz.1, by rw [h0]; exact hz.2, by decide⟩
  have := hI.st m
  have : PlT 2 s l m < PlT 2 s l (m + 1) := this
  show 1 ≤ PlT 2 s l (m + 1) - PlT 2 s l m
  omega
section
variable {P : Program} {w : World} {K : PySem.W.Frag} {mg : Str → Option Value} {base : Heap} {k : Nat} {f C CP CV CE : Addr}
def aMy6 : ASp := fun ds M R => ∃ (s l : Stm), ds = [stV s, stV l] ∧ Sr6 0 s ∧ Sr6 1 l ∧ R (.bl true) M
theorem b__law_many_right (B : Bt mg) (T : Rs K mg C) (I : Mks P w K mg base C) (GP : GLpW P w K mg base) (GI : GIt6 P w K mg base C) (FP : FtX K CP) (ZP : FtC K mg CP "PlaceFit") (XP : OfX P w K mg base CP (aOfP C CP)) (XCP : MtF P w K mg base CP "completed" 6 (aCm0 C CP)) (XR : MtF P w K mg base CP "range_of" 4 (aRng CP)) : BodyOk P w K mg base 11 f n__law_many_right "_law_many_right" (defScope s__law_many_right) (defBody s__law_many_right) aMy6 := by
  rintro cdv A outer s0 H E hr ds M R ⟨s, l, rfl, hs, hl, hp⟩
  have hu := hr.u64
  have hS := mk_good (kn := 2) (by decide) (by decide) hs.sl hl.sl
  have eP := PlS_mk (kn := 2) hs.sl hl.sl
  have hI := PlT_inc (kn := 2) (by decide) hs.sl hl.sl
  have h0 : item l 0 ≠ 0 := by have := hl.lo; omega
  have ed : ∀ (Q : Nat → Int), (List.range 150).map (fun j => Val.int (Q j)) = (plL Q 150).map .int := fun Q => by unfold plL; rw [List.map_map]; rfl
  have cm := cmOk_m hs hl
  refine as_lcP 2 [("_law_number", 3)] (fun j => .int (PlT 2 s l j)) rfl q__law_many_right.nd (blkOk_by (N := n__law_many_right) (sc := defScope s__law_many_right) (by decide +kernel)) (ai_range1 (n := 150) B.range (i_.val ⟨_, rfl, rfl, by decide, by decide, rfl⟩)) ?_ (by decide) ?_
  · intro j acc D hj s1 H1 C1 cl fp
    rw [Int.zero_add]
    refine agw_name 3 q__law_many_right.nd fun s1 H1 C1 cl fp => ?_
    exact ae_g GP hr (by decide) (aa_cons (i_.val (aa_cons ((v_ 0).val (aa_cons ((v_ 1).val (aa_cons ((av_add (v_ 3) i_).val (aa_nil (ak_nil ⟨rfl, 2, s, l, j, rfl, by decide, by decide, hs.sl.sw, hl.sl.sw, by omega, rfl, rfl⟩))))))))))
  rw [ed]
  refine as_cons (as_set 4 q__law_many_right.nd (ae_ofF ZP XP hr (by decide) (ae_sch T I hr (by decide) (i_.val ((v_ 0).val ((v_ 1).val ⟨2, s, l, rfl, rfl, rfl, by decide, by decide, hs.lim, hl.lim, h0, i_.val ⟨mkS 2 s l, 150, rfl, hS, by rw [eP]; exact ok_pl (by decide) hs hl (by decide), ?_⟩⟩))))))
  rw [eP, mk_a, if_neg (List.length_pos_iff.mp (by rw [plL_len]; decide))]
  refine as_cons (as_asg (ae_g GI hr (by decide) (aa_cons (ae_comp FP XCP hr (by decide) (v_ 4) cm (aa_nil (ak_nil ⟨rfl, _, rfl, cm.good, ag_tup rfl (ags_cons (ag_name 5 q__law_many_right.nd (ags_cons (ag_name 6 q__law_many_right.nd (ags_nil ?_)))))⟩))))))
  have hpl := cm.pls
  rw [plL_len] at hpl
  refine as_cons (as_if (at_cmpM (ae_lcP [("_law_number", 3)] (fun j => .int (PlS (cmSc (plL (PlT 2 s l) 150) 2 1) j)) rfl q__law_many_right.nd (blkOk_by (N := n__law_many_right) (sc := defScope s__law_many_right) (by decide +kernel)) (ai_range1 (n := 150) B.range (i_.val ⟨_, rfl, rfl, by decide, by decide, rfl⟩)) ?_ (by decide) ?_)))
  · intro j acc D hj s1 H1 C1 cl fp
    rw [Int.zero_add]
    refine agw_name 3 q__law_many_right.nd fun s1 H1 C1 cl fp => ?_
    rw [cm_P]
    exact ae_g GP hr (by decide) (aa_cons (i_.val (aa_cons ((v_ 5).val (aa_cons ((v_ 6).val (aa_cons ((av_add (v_ 3) i_).val (aa_nil (ak_nil ⟨rfl, 2, _, _, j, rfl, by decide, by decide, cm.sw1, cm.sw2, by omega, rfl, rfl⟩))))))))))
  rw [ed, hpl]
  refine (v_ 2).val ⟨false, cmp_neLI (ns := plL (PlT 2 s l) 150) (ms := plL (PlT 2 s l) 150) (.self _) (.self _) hu |>.eq (by rw [decide_eq_true rfl]; rfl), nft, fun _ => as_nil ?_⟩
  have ix : ∀ {X : Cx} {Γ : Gam} {M : Mem} {a b : Expr} {pos : Pos} (j : Nat), j < 150 → aV X a Γ M (.lst ((plL (PlT 2 s l) 150).map .int)) → aV X b Γ M (.int (j : Int)) → PlainIx b → aV X (.Subscript a b pos) Γ M (.int (PlT 2 s l j)) := fun {X Γ M a b pos} j hj ha hb hx => by
    have := av_ixSv (pos := pos) ha hb (.l (ns := plL (PlT 2 s l) 150)) (by omega) (by rw [plL_len]; omega) hx
    rw [show at0 (plL (PlT 2 s l) 150) (j : Int) = PlT 2 s l j from plL_at hj] at this
    exact this
  refine as_cons (as_par 7 8 q__law_many_right.nd rfl (by decide) (aA.val (avs_cons (av_sub (ix 96 (by decide) (v_ 2) i_ fun _ _ => rfl) (ix 95 (by decide) (v_ 2) i_ fun _ _ => rfl)) (avs_cons (av_sub (ix 64 (by decide) (v_ 2) i_ fun _ _ => rfl) (ix 63 (by decide) (v_ 2) i_ fun _ _ => rfl)) avs_nil)) ⟨_, _, rfl, ?_⟩))
  refine as_cons (as_setv 9 q__law_many_right.nd (av_min2 B.min rfl (v_ 8) (av_sub (ix 128 (by decide) (v_ 2) i_ fun _ _ => rfl) (ix 127 (by decide) (v_ 2) i_ fun _ _ => rfl))) ?_)
  have hbl : (bndL (plL (PlT 2 s l) 150) 1).length = 150 := by rw [bndL_len, plL_len]
  have e1 := sf150 hbl cm.b8
  have e2 := pm150 hbl cm.hc cm.b8
  have bb : ∀ j, j + 1 < 150 → (bndL (plL (PlT 2 s l) 150) 1).getD j 0 = PlT 2 s l (j + 1) - PlT 2 s l j := fun j hj => bndL_in hj
  have er : rgD (plL (PlT 2 s l) 150) 2 1 7 = .tup [.int (PlT 2 s l 64 - PlT 2 s l 63 - min (PlT 2 s l 64 - PlT 2 s l 63) (PlT 2 s l 128 - PlT 2 s l 127)), .int (PlT 2 s l 64 - PlT 2 s l 63 - (PlT 2 s l 96 - PlT 2 s l 95))] := by
    unfold rgD
    rw [if_neg (by decide), show 7 - 1 = 6 by decide, show 2 ^ 6 = 64 by decide, if_pos (by rw [hbl]; decide), e1, e2, show 64 - 1 = 63 by decide, bb 63 (by decide), bb 127 (by decide), bb 95 (by decide)]
  refine as_one (as_ret (ae_cmpM (ae_mt1 FP.cl XR.ex hr (by decide) (v_ 4) (.im _) (s_.val ⟨_, 2, 1, "d7", 7, rfl, kwI_d7, by decide, by decide, by rw [plL_len]; decide, ?_⟩))))
  rw [er]
  exact (av_tup (avs_cons (av_sub (v_ 8) (v_ 9)) (avs_cons (av_sub (v_ 8) (v_ 7)) avs_nil)) szb).val ⟨true, cmp_eqV (.self _) (.self _) rfl ⟨trivial, trivial, trivial⟩ (Nat.le_of_ble_eq_true rfl) hu, .ok hp⟩
abbrev GMy6 (P : Program) (w : World) (K : PySem.W.Frag) (mg : Str → Option Value) (base : Heap) : Prop := Gd P w K mg base 12 "_law_many_right" [] fun ds _ => aMy6 ds
def aLawN (Pt : Addr) : ASp := fun ds M R => ∃ ns : List Int, ds = [.lst (ns.map .int)] ∧ ns.length ≤ 63 ∧ M = tbM [(Pt, riLam)] ∧ ∀ M', R (.bl true) M'
theorem b_law {Pt : Addr} (B : Bt mg) (GB : GBg6 P w K mg base) (GD : GDr6 P w K mg base) (GS : GSr6 P w K mg base) (GR : GRd6 P w K mg base) (GT : GRt6 P w K mg base Pt) (GM : GMy6 P w K mg base) : BodyOk P w K mg base 13 f n_law "law" (defScope s_law) (defBody s_law) (aLawN Pt) := by
  rintro cdv A outer s0 H E hr ds M R ⟨ns, rfl, hl, rfl, hp⟩
  refine as_cons (as_set 1 q_law.nd (ae_g GB hr (by decide) (aa_cons ((v_ 0).val (aa_nil (ak_nil ⟨rfl, ns, rfl, by omega, fun p => ?_⟩))))))
  refine as_cons (as_forL PassesOwn.never rfl (aj_range1 B.range ((av_add i_ (av_min2 B.min rfl i_ (av_lenSv B.len (v_ 0) .l))).val ⟨_, rfl, by omega, by omega, ?_⟩)))
  have h6 : ((3 : Int) + min 4 (ns.length : Int)).toNat ≤ 7 := by omega
  generalize ((3 : Int) + min 4 (ns.length : Int)).toNat = turns at *
  refine ⟨fun t Γ M' => ∃ N, N ≤ 300 * t ∧ M' = (p, st6 p N) :: tbM [(Pt, riLam)] ∧ Γ = [some (.lst (ns.map .int)), some (.ptr p), none, none], ⟨_, ⟨0, Nat.zero_le _, rfl, rfl⟩, (by repeat' first | exact le_nil | refine le_skip ?_ | refine le_keep rfl ?_)⟩, ?_, ?_⟩
  · rintro t Γ M' ht ⟨N, hN, rfl, rfl⟩
    refine ag_name 2 q_law.nd ?_
    refine as_cons (as_set 3 q_law.nd (ae_bin (i_.val (ae_g GD hr (by decide) (aa_cons ((v_ 1).val (aa_cons (i_.val (aa_nil (ak_nil ⟨rfl, p, 0, N, 8, rfl, rfl, by omega, by decide, by decide, fun v v0 v1 => bv_add ?_⟩))))))))))
    obtain ⟨kn, hk⟩ : ∃ kn : Nat, (2 : Int) + v = (kn : Int) := ⟨(2 + v).toNat, by omega⟩
    rw [hk]
    show aSs _ _ _ ((p, st6 p (N + 1)) :: tbM [(Pt, riLam)]) _
    refine as_one (as_if (at_not (at_val (ae_g GT hr (by decide) (aa_cons ((v_ 1).val (aa_cons (ae_g GR hr (by decide) (aa_cons ((v_ 1).val (aa_cons ((v_ 3).val (aa_cons (i_.val (aa_nil (ak_nil ⟨rfl, p, 0, N + 1, kn, rfl, rfl, by omega, by omega, by omega, fun vs N2 ok h60 hN2 => aa_cons ((v_ 3).val (aa_nil (ak_nil ⟨rfl, p, 0, N2, kn, 1, vs, rfl, rfl, by omega, ok, h60, by omega, by omega, rfl, fun N3 hN3 => ⟨true, rfl, nft, fun _ => as_nil ?_⟩⟩)))⟩))))))))))))))))
    exact ⟨_, ⟨N3, by omega, rfl, rfl⟩, (by repeat' first | exact le_nil | refine le_skip ?_ | refine le_keep rfl ?_)⟩
  · rintro Γ M' ⟨N, hN, rfl, rfl⟩
    refine as_one (as_ret (ae_g GM hr (by decide) (aa_cons (ae_g GS hr (by decide) (aa_cons ((v_ 1).val (aa_cons (i_.val (aa_nil (ak_nil ⟨rfl, p, 0, N, 0, rfl, rfl, by omega, by decide, by decide, fun s N1 hs hN1 => ?_⟩))))))))))
    refine aa_cons (ae_g GS hr (by decide) (aa_cons ((v_ 1).val (aa_cons (i_.val (aa_nil (ak_nil ⟨rfl, p, 0, N1, 1, rfl, rfl, by omega, by decide, by decide, fun l N2 hl' hN2 => aa_nil (ak_nil ⟨rfl, s, l, rfl, hs, hl', .ok (hp _)⟩)⟩)))))))
end
end K43
namespace K43
open PySem L2 Ab LamX
theorem gd_pos {P : Program} {w : World} {K : PySem.W.Frag} {mg : Str → Option Value} {base : Heap} {x x' qual : Str} {params : Arguments} {body : List Stmt} {sc : Scope} {kws : List (Str × V)} {N ps : List Str} {k : Nat} {s0 : ASp} {f : Addr} {fd : FuncData} (F : FunD K x qual params body sc [] kws f fd) (S : FnScope N ps sc)
    (h : ∀ (kV doc pm : Value) (an : Option Addr) (cdv ct : Value) (us : List Value), us.length = ps.length → bindArgs (PySem.W.fnOf x qual params body sc .none kV doc pm an cdv ct) ⟨us, []⟩ = pure (ps.zip us))
    (len : ∀ ds M R, s0 ds M R → ds.length = ps.length) (hb : BodyOk P w K mg base k f N qual sc body s0) (hm : mg x' = some (.ref f)) : Gd P w K mg base (k + 1) x' [] (fun ds _ => s0 ds) := ⟨⟨f, fnx_pos' F S h len hb, hm, F.kp⟩⟩
theorem allX {l : PySem.W.OpenLaw} {w : World} {K : PySem.W.Frag} {h : Heap} {mg : Str → Option Value} {fa : Addr} (X : K.In h) (G : h.Ns mainGlobals mg) (hfa : mg "law" = some (.ref fa)) (own : ∀ x ∈ (["_law_right"] : List Str), ∀ f, mg x = some (.ref f) → OwnTab K f h)
    {tt0 : Tok}
    {tt1 : Tok}
    {tt2 : Tok}
    {tt3 : Tok}
    {C : Addr}
    {D0 : Addr} {w1 w2 : Value}
    {fx1 : Addr} {odx1 anx1 : Option Addr} {slx1 : Array (Option Value)} {ocx1 dcx1 pmx1 cdx1 ctx1 : Value}
    {T2 : Addr} {tc2 : Value} {td2 : Option Addr} {tsl2 : Array (Option Value)} {k02 : Nat}
    {fx2 : Addr} {odx2 anx2 : Option Addr} {slx2 : Array (Option Value)} {ocx2 kVx2 dcx2 pmx2 cdx2 ctx2 : Value}
    {fx3 : Addr} {odx3 anx3 : Option Addr} {slx3 : Array (Option Value)} {ocx3 kVx3 dcx3 pmx3 cdx3 ctx3 : Value}
    {fx4 : Addr} {odx4 anx4 : Option Addr} {slx4 : Array (Option Value)} {ocx4 kVx4 dcx4 pmx4 cdx4 ctx4 : Value}
    {fx5 : Addr} {odx5 anx5 : Option Addr} {slx5 : Array (Option Value)} {ocx5 kVx5 dcx5 pmx5 cdx5 ctx5 : Value}
    {fx6 : Addr} {odx6 anx6 : Option Addr} {slx6 : Array (Option Value)} {ocx6 kVx6 dcx6 pmx6 cdx6 ctx6 : Value}
    {fx7 : Addr} {odx7 anx7 : Option Addr} {slx7 : Array (Option Value)} {ocx7 kVx7 dcx7 pmx7 cdx7 ctx7 : Value}
    {pSx7 : Addr} {rSx7 : List Value}
    {fx8 : Addr} {odx8 anx8 : Option Addr} {slx8 : Array (Option Value)} {ocx8 kVx8 dcx8 pmx8 cdx8 ctx8 : Value}
    {fx9 : Addr} {odx9 anx9 : Option Addr} {slx9 : Array (Option Value)} {ocx9 kVx9 dcx9 pmx9 cdx9 ctx9 : Value}
    {fx10 : Addr} {odx10 anx10 : Option Addr} {slx10 : Array (Option Value)} {ocx10 kVx10 dcx10 pmx10 cdx10 ctx10 : Value}
    {fx11 : Addr} {odx11 anx11 : Option Addr} {slx11 : Array (Option Value)} {ocx11 kVx11 dcx11 pmx11 cdx11 ctx11 : Value}
    {fx12 : Addr} {odx12 anx12 : Option Addr} {slx12 : Array (Option Value)} {ocx12 kVx12 dcx12 pmx12 cdx12 ctx12 : Value}
    {pNx12 : Addr} {rNx12 : List Value}
    {fx13 : Addr} {odx13 anx13 : Option Addr} {slx13 : Array (Option Value)} {ocx13 kVx13 dcx13 pmx13 cdx13 ctx13 : Value}
    {pNx13 : Addr} {rNx13 : List Value}
    {fx14 : Addr} {odx14 anx14 : Option Addr} {slx14 : Array (Option Value)} {ocx14 kVx14 dcx14 pmx14 cdx14 ctx14 : Value}
    {pNx14 : Addr} {rNx14 : List Value}
    {BStateError : Addr}
    {EConflict : Addr}
    {fx15 : Addr} {odx15 anx15 : Option Addr} {slx15 : Array (Option Value)} {ocx15 kVx15 dcx15 pmx15 cdx15 ctx15 : Value}
    {tt4 : Tok}
    {tt5 : Tok}
    {tt6 : Tok}
    {IXT : Addr} {ixo : Option Addr} {ixn : Nat} {ixs_ : Array (Option Value)} {ixt0 ixt1 ixt2 ixt3 ixt4 ixt5 ixt6 ixt7 ixt8 ixt9 ixt10 ixt11 : Tok}
    {fx16 : Addr} {odx16 anx16 : Option Addr} {slx16 : Array (Option Value)} {ocx16 kVx16 dcx16 pmx16 cdx16 ctx16 : Value}
    {fx17 : Addr} {odx17 anx17 : Option Addr} {slx17 : Array (Option Value)} {ocx17 kVx17 dcx17 pmx17 cdx17 ctx17 : Value}
    {fx18 : Addr} {odx18 anx18 : Option Addr} {slx18 : Array (Option Value)} {ocx18 kVx18 dcx18 pmx18 cdx18 ctx18 : Value}
    {fx19 : Addr} {odx19 anx19 : Option Addr} {slx19 : Array (Option Value)} {ocx19 kVx19 dcx19 pmx19 cdx19 ctx19 : Value}
    {fx20 : Addr} {odx20 anx20 : Option Addr} {slx20 : Array (Option Value)} {ocx20 kVx20 dcx20 pmx20 cdx20 ctx20 : Value}
    {fx21 : Addr} {odx21 anx21 : Option Addr} {slx21 : Array (Option Value)} {ocx21 kVx21 dcx21 pmx21 cdx21 ctx21 : Value}
    {fx22 : Addr} {odx22 anx22 : Option Addr} {slx22 : Array (Option Value)} {ocx22 kVx22 dcx22 pmx22 cdx22 ctx22 : Value}
    {fx23 : Addr} {odx23 anx23 : Option Addr} {slx23 : Array (Option Value)} {ocx23 kVx23 dcx23 pmx23 cdx23 ctx23 : Value}
    {fx24 : Addr} {odx24 anx24 : Option Addr} {slx24 : Array (Option Value)} {ocx24 kVx24 dcx24 pmx24 cdx24 ctx24 : Value}
    {fx25 : Addr} {odx25 anx25 : Option Addr} {slx25 : Array (Option Value)} {ocx25 kVx25 dcx25 pmx25 cdx25 ctx25 : Value}
    {fx26 : Addr} {odx26 anx26 : Option Addr} {slx26 : Array (Option Value)} {ocx26 kVx26 dcx26 pmx26 cdx26 ctx26 : Value}
    {fx27 : Addr} {odx27 anx27 : Option Addr} {slx27 : Array (Option Value)} {ocx27 kVx27 dcx27 pmx27 cdx27 ctx27 : Value}
    {fx28 : Addr} {odx28 anx28 : Option Addr} {slx28 : Array (Option Value)} {ocx28 kVx28 dcx28 pmx28 cdx28 ctx28 : Value}
    {CP : Addr}
    {tpCP tvCP : Tok}
    {CV : Addr}
    {tpCV tvCV : Tok}
    {fx29 : Addr} {odx29 anx29 : Option Addr} {slx29 : Array (Option Value)} {ocx29 kVx29 dcx29 pmx29 cdx29 ctx29 : Value}
    {fx30 : Addr} {odx30 anx30 : Option Addr} {slx30 : Array (Option Value)} {ocx30 kVx30 dcx30 pmx30 cdx30 ctx30 : Value}
    {fx31 : Addr} {odx31 anx31 : Option Addr} {slx31 : Array (Option Value)} {ocx31 kVx31 dcx31 pmx31 cdx31 ctx31 : Value}
    {fx32 pCx32 : Addr} {rCx32 : List Value} {odx32 anx32 : Option Addr} {slx32 : Array (Option Value)} {ocx32 dcx32 pmx32 cdx32 ctx32 kVx32 : Value}
    {fx33 : Addr} {odx33 anx33 : Option Addr} {slx33 : Array (Option Value)} {ocx33 kVx33 dcx33 pmx33 cdx33 ctx33 : Value}
    {fx34 ccx34 cdax34 : Addr} {odx34 cldx34 cddx34 : Option Addr} {slx34 cslx34 ccsx34 : Array (Option Value)} {ocx34 dcx34 pmx34 ctx34 c0x34 cclx34 : Value} {vsx34 : Array Value} {flx34 : Str} {tfx34 : Tok}
    {cdtCV : ClassData}
    {fx35 : Addr} {odx35 anx35 : Option Addr} {slx35 : Array (Option Value)} {ocx35 kVx35 dcx35 pmx35 cdx35 ctx35 : Value}
    {fx36 : Addr} {odx36 anx36 : Option Addr} {slx36 : Array (Option Value)} {ocx36 kVx36 dcx36 pmx36 cdx36 ctx36 : Value}
    {fx37 : Addr} {odx37 anx37 : Option Addr} {slx37 : Array (Option Value)} {ocx37 kVx37 dcx37 pmx37 cdx37 ctx37 : Value}
    {fx38 : Addr} {odx38 anx38 : Option Addr} {slx38 : Array (Option Value)} {ocx38 kVx38 dcx38 pmx38 cdx38 ctx38 : Value}
    {fx39 : Addr} {odx39 anx39 : Option Addr} {slx39 : Array (Option Value)} {ocx39 kVx39 dcx39 pmx39 cdx39 ctx39 : Value}
    {fx40 : Addr} {odx40 anx40 : Option Addr} {slx40 : Array (Option Value)} {ocx40 kVx40 dcx40 pmx40 cdx40 ctx40 : Value}
    {fx41 : Addr} {odx41 anx41 : Option Addr} {slx41 : Array (Option Value)} {ocx41 kVx41 dcx41 pmx41 cdx41 ctx41 : Value}
    {fx42 : Addr} {odx42 anx42 : Option Addr} {slx42 : Array (Option Value)} {ocx42 kVx42 dcx42 pmx42 cdx42 ctx42 : Value}
    {fx43 : Addr} {odx43 anx43 : Option Addr} {slx43 : Array (Option Value)} {ocx43 kVx43 dcx43 pmx43 cdx43 ctx43 : Value}
    {fx44 : Addr} {odx44 anx44 : Option Addr} {slx44 : Array (Option Value)} {ocx44 kVx44 dcx44 pmx44 cdx44 ctx44 : Value}
    {fx45 : Addr} {odx45 anx45 : Option Addr} {slx45 : Array (Option Value)} {ocx45 kVx45 dcx45 pmx45 cdx45 ctx45 : Value}
    {fx46 : Addr} {odx46 anx46 : Option Addr} {slx46 : Array (Option Value)} {ocx46 kVx46 dcx46 pmx46 cdx46 ctx46 : Value}
    {fx47 : Addr} {odx47 anx47 : Option Addr} {slx47 : Array (Option Value)} {ocx47 kVx47 dcx47 pmx47 cdx47 ctx47 : Value}
    {fx48 : Addr} {odx48 anx48 : Option Addr} {slx48 : Array (Option Value)} {ocx48 kVx48 dcx48 pmx48 cdx48 ctx48 : Value}
    {fx49 : Addr} {odx49 anx49 : Option Addr} {slx49 : Array (Option Value)} {ocx49 kVx49 dcx49 pmx49 cdx49 ctx49 : Value}
    {fx50 : Addr} {odx50 anx50 : Option Addr} {slx50 : Array (Option Value)} {ocx50 kVx50 dcx50 pmx50 cdx50 ctx50 : Value}
    {fx51 : Addr} {odx51 anx51 : Option Addr} {slx51 : Array (Option Value)} {ocx51 kVx51 dcx51 pmx51 cdx51 ctx51 : Value}
    {fx52 : Addr} {odx52 anx52 : Option Addr} {slx52 : Array (Option Value)} {ocx52 kVx52 dcx52 pmx52 cdx52 ctx52 : Value}
    {fx53 : Addr} {odx53 anx53 : Option Addr} {slx53 : Array (Option Value)} {ocx53 kVx53 dcx53 pmx53 cdx53 ctx53 : Value}
    {fx54 : Addr} {odx54 anx54 : Option Addr} {slx54 : Array (Option Value)} {ocx54 kVx54 dcx54 pmx54 cdx54 ctx54 : Value}
    {fx55 cdax55 Ptx55 : Addr} {odx55 anx55 cddx55 : Option Addr} {slx55 ccsx55 : Array (Option Value)} {ocx55 kVx55 dcx55 pmx55 ctx55 cclx55 : Value} {vsx55 : Array Value}
    {fx56 : Addr} {odx56 anx56 : Option Addr} {slx56 : Array (Option Value)} {ocx56 kVx56 dcx56 pmx56 cdx56 ctx56 : Value}
    {fx57 : Addr} {odx57 anx57 : Option Addr} {slx57 : Array (Option Value)} {ocx57 kVx57 dcx57 pmx57 cdx57 ctx57 : Value}
    (u0 : PySem.W.nsIn K mainGlobals "FRONT_LIMIT" = some (some (.int 12 tt0)))
    (u1 : PySem.W.nsIn K mainGlobals "LOOP_LIMIT" = some (some (.int 6 tt1)))
    (u2 : PySem.W.nsIn K mainGlobals "LABEL_LIMIT" = some (some (.int 1000000 tt2)))
    (u3 : PySem.W.nsIn K mainGlobals "ARITY_LIMIT" = some (some (.int 9 tt3)))
    (aC : PySem.W.nsIn K mainGlobals "Schedule" = some (some (.ref C)))
    (pgC : PySem.W.plainGet K C Str.empty = true)
    (hdC : PySem.W.hasDictIn K C = true)
    (poC : PySem.W.plainOver K C = true)
    (saC : PySem.W.findIn K (.ref C) "__setattr__" = some (some (.builtin "object.__setattr__")))
    (mkC : PySem.W.makesIn K C = true)
    (kcC : PySem.W.keepIn K (.ref C) = true)
    (nC0 : PySem.W.findIn K (.ref C) "own_arity" = some none)
    (nC1 : PySem.W.findIn K (.ref C) "own_spine" = some none)
    (nC2 : PySem.W.findIn K (.ref C) "own_levels" = some none)
    (e1C : PySem.W.findIn K (.ref C) "__class__" = some (some (.builtin "object.__class__")))
    (e2C : PySem.W.specialIn K (.builtin "object.__class__") "__get__" = some (some (.builtin "getset_descriptor.__get__")))
    (e3C : PySem.W.takesIn K (.builtin "object.__class__") = some true)
    (e4C : PySem.W.mroIn K C (.type "object") = some true)
    (e6C : PySem.W.findIn K (.ref C) "__ne__" = some (some (.builtin "object.__ne__")))
    (e7C : PySem.W.subIn K (.ref C) (.type "object") = some true)
    (ax1 : PySem.W.nsIn K mainGlobals "is_integer" = some (some (.ref fx1)))
    (lx1 : K.lookup fx1 = some ⟨ocx1, odx1, .func (PySem.W.fnOf "is_integer" "is_integer" (defArgs s_is_integer) (defBody s_is_integer) (defScope s_is_integer) .none (.ref D0) dcx1 pmx1 anx1 cdx1 ctx1), slx1⟩)
    (cx1 : PySem.W.codeIn K cdx1 "is_integer" = true)
    (kx1 : PySem.W.keepIn K (.ref fx1) = true)
    (d1 : PySem.W.nsIn K D0 "low" = some (some w1))
    (d2 : PySem.W.nsIn K D0 "high" = some (some w2))
    (ax2 : PySem.W.nsIn K mainGlobals "check_integer" = some (some (.ref fx2)))
    (lx2 : K.lookup fx2 = some ⟨ocx2, odx2, .func (PySem.W.fnOf "check_integer" "check_integer" (defArgs s_check_integer) (defBody s_check_integer) (defScope s_check_integer) (.ref T2) kVx2 dcx2 pmx2 anx2 cdx2 ctx2), slx2⟩)
    (cx2 : PySem.W.codeIn K cdx2 "check_integer" = true)
    (kx2 : PySem.W.keepIn K (.ref fx2) = true)
    (dx2 : K.lookup T2 = some ⟨tc2, td2, .seq #[.none] k02, tsl2⟩)
    (ax3 : PySem.W.nsIn K mainGlobals "are_items" = some (some (.ref fx3)))
    (lx3 : K.lookup fx3 = some ⟨ocx3, odx3, .func (PySem.W.fnOf "are_items" "are_items" (defArgs s_are_items) (defBody s_are_items) (defScope s_are_items) .none kVx3 dcx3 pmx3 anx3 cdx3 ctx3), slx3⟩)
    (cx3 : PySem.W.codeIn K cdx3 "are_items" = true)
    (kx3 : PySem.W.keepIn K (.ref fx3) = true)
    (ax4 : PySem.W.nsIn K mainGlobals "shortest_loop" = some (some (.ref fx4)))
    (lx4 : K.lookup fx4 = some ⟨ocx4, odx4, .func (PySem.W.fnOf "shortest_loop" "shortest_loop" (defArgs s_shortest_loop) (defBody s_shortest_loop) (defScope s_shortest_loop) .none kVx4 dcx4 pmx4 anx4 cdx4 ctx4), slx4⟩)
    (cx4 : PySem.W.codeIn K cdx4 "shortest_loop" = true)
    (kx4 : PySem.W.keepIn K (.ref fx4) = true)
    (ax5 : PySem.W.nsIn K mainGlobals "normal_form" = some (some (.ref fx5)))
    (lx5 : K.lookup fx5 = some ⟨ocx5, odx5, .func (PySem.W.fnOf "normal_form" "normal_form" (defArgs s_normal_form) (defBody s_normal_form) (defScope s_normal_form) .none kVx5 dcx5 pmx5 anx5 cdx5 ctx5), slx5⟩)
    (cx5 : PySem.W.codeIn K cdx5 "normal_form" = true)
    (kx5 : PySem.W.keepIn K (.ref fx5) = true)
    (ax6 : PySem.W.nsIn K mainGlobals "stream_item" = some (some (.ref fx6)))
    (lx6 : K.lookup fx6 = some ⟨ocx6, odx6, .func (PySem.W.fnOf "stream_item" "stream_item" (defArgs s_stream_item) (defBody s_stream_item) (defScope s_stream_item) .none kVx6 dcx6 pmx6 anx6 cdx6 ctx6), slx6⟩)
    (cx6 : PySem.W.codeIn K cdx6 "stream_item" = true)
    (kx6 : PySem.W.keepIn K (.ref fx6) = true)
    (rd : PySem.W.readsIn K C (.type "type") = true)
    (ga : PySem.W.specialIn K (.ref C) "__getattribute__" = some (some (.builtin "type.__getattribute__")))
    (ax7 : PySem.W.findCls K (.ref C) (.type "type") "is_stream" = some (.get (.builtin "staticmethod.__get__") (.ref pSx7) .none (.ref C)))
    (bx7 : PySem.W.recIn K pSx7 "staticmethod" = some (.ref fx7 :: rSx7))
    (lx7 : K.lookup fx7 = some ⟨ocx7, odx7, .func (PySem.W.fnOf "is_stream" "Schedule.is_stream" (defArgs c_Schedule_is_stream) (defBody c_Schedule_is_stream) (defScope c_Schedule_is_stream) .none kVx7 dcx7 pmx7 anx7 cdx7 ctx7), slx7⟩)
    (cx7 : PySem.W.codeIn K cdx7 "Schedule.is_stream" = true)
    (kx7 : PySem.W.keepIn K (.ref fx7) = true)
    (ax8 : PySem.W.findIn K (.ref C) "__init__" = some (some (.ref fx8)))
    (ix8 : PySem.W.isFn K (.ref fx8) = true)
    (lx8 : K.lookup fx8 = some ⟨ocx8, odx8, .func (PySem.W.fnOf "__init__" "Schedule.__init__" (defArgs c_Schedule___init__) (defBody c_Schedule___init__) (defScope c_Schedule___init__) .none kVx8 dcx8 pmx8 anx8 cdx8 ctx8), slx8⟩)
    (cx8 : PySem.W.codeIn K cdx8 "Schedule.__init__" = true)
    (kx8 : PySem.W.keepIn K (.ref fx8) = true)
    (ax9 : PySem.W.findIn K (.ref C) "spine_at" = some (some (.ref fx9)))
    (ix9 : PySem.W.isFn K (.ref fx9) = true)
    (lx9 : K.lookup fx9 = some ⟨ocx9, odx9, .func (PySem.W.fnOf "spine_at" "Schedule.spine_at" (defArgs c_Schedule_spine_at) (defBody c_Schedule_spine_at) (defScope c_Schedule_spine_at) .none kVx9 dcx9 pmx9 anx9 cdx9 ctx9), slx9⟩)
    (cx9 : PySem.W.codeIn K cdx9 "Schedule.spine_at" = true)
    (kx9 : PySem.W.keepIn K (.ref fx9) = true)
    (ax10 : PySem.W.findIn K (.ref C) "level_at" = some (some (.ref fx10)))
    (ix10 : PySem.W.isFn K (.ref fx10) = true)
    (lx10 : K.lookup fx10 = some ⟨ocx10, odx10, .func (PySem.W.fnOf "level_at" "Schedule.level_at" (defArgs c_Schedule_level_at) (defBody c_Schedule_level_at) (defScope c_Schedule_level_at) .none kVx10 dcx10 pmx10 anx10 cdx10 ctx10), slx10⟩)
    (cx10 : PySem.W.codeIn K cdx10 "Schedule.level_at" = true)
    (kx10 : PySem.W.keepIn K (.ref fx10) = true)
    (ax11 : PySem.W.findIn K (.ref C) "__eq__" = some (some (.ref fx11)))
    (ix11 : PySem.W.isFn K (.ref fx11) = true)
    (lx11 : K.lookup fx11 = some ⟨ocx11, odx11, .func (PySem.W.fnOf "__eq__" "Schedule.__eq__" (defArgs c_Schedule___eq__) (defBody c_Schedule___eq__) (defScope c_Schedule___eq__) .none kVx11 dcx11 pmx11 anx11 cdx11 ctx11), slx11⟩)
    (cx11 : PySem.W.codeIn K cdx11 "Schedule.__eq__" = true)
    (kx11 : PySem.W.keepIn K (.ref fx11) = true)
    (ax12 : PySem.W.findIn K (.ref C) "arity" = some (some (.ref pNx12)))
    (gx12 : PySem.W.specialIn K (.ref pNx12) "__get__" = some (some (.builtin "property.__get__")))
    (tx12 : PySem.W.takesIn K (.ref pNx12) = some true)
    (bx12 : PySem.W.recIn K pNx12 "property" = some (.ref fx12 :: rNx12))
    (lx12 : K.lookup fx12 = some ⟨ocx12, odx12, .func (PySem.W.fnOf "arity" "Schedule.arity" (defArgs c_Schedule_arity) (defBody c_Schedule_arity) (defScope c_Schedule_arity) .none kVx12 dcx12 pmx12 anx12 cdx12 ctx12), slx12⟩)
    (cx12 : PySem.W.codeIn K cdx12 "Schedule.arity" = true)
    (kx12 : PySem.W.keepIn K (.ref fx12) = true)
    (ax13 : PySem.W.findIn K (.ref C) "spine" = some (some (.ref pNx13)))
    (gx13 : PySem.W.specialIn K (.ref pNx13) "__get__" = some (some (.builtin "property.__get__")))
    (tx13 : PySem.W.takesIn K (.ref pNx13) = some true)
    (bx13 : PySem.W.recIn K pNx13 "property" = some (.ref fx13 :: rNx13))
    (lx13 : K.lookup fx13 = some ⟨ocx13, odx13, .func (PySem.W.fnOf "spine" "Schedule.spine" (defArgs c_Schedule_spine) (defBody c_Schedule_spine) (defScope c_Schedule_spine) .none kVx13 dcx13 pmx13 anx13 cdx13 ctx13), slx13⟩)
    (cx13 : PySem.W.codeIn K cdx13 "Schedule.spine" = true)
    (kx13 : PySem.W.keepIn K (.ref fx13) = true)
    (ax14 : PySem.W.findIn K (.ref C) "levels" = some (some (.ref pNx14)))
    (gx14 : PySem.W.specialIn K (.ref pNx14) "__get__" = some (some (.builtin "property.__get__")))
    (tx14 : PySem.W.takesIn K (.ref pNx14) = some true)
    (bx14 : PySem.W.recIn K pNx14 "property" = some (.ref fx14 :: rNx14))
    (lx14 : K.lookup fx14 = some ⟨ocx14, odx14, .func (PySem.W.fnOf "levels" "Schedule.levels" (defArgs c_Schedule_levels) (defBody c_Schedule_levels) (defScope c_Schedule_levels) .none kVx14 dcx14 pmx14 anx14 cdx14 ctx14), slx14⟩)
    (cx14 : PySem.W.codeIn K cdx14 "Schedule.levels" = true)
    (kx14 : PySem.W.keepIn K (.ref fx14) = true)
    (aBStateError : PySem.W.nsIn K mainGlobals "StateError" = some (some (.ref BStateError)))
    (rBStateError : PySem.W.readsIn K BStateError (.type "type") = true)
    (gBStateError : PySem.W.specialIn K (.ref BStateError) "__getattribute__" = some (some (.builtin "type.__getattribute__")))
    (vBStateError : PySem.W.findCls K (.ref BStateError) (.type "type") "__init__" = some (.val (.builtin "RuntimeError.__init__")))
    (sBStateError : PySem.W.subIn K (.ref BStateError) (.type "BaseException") = some true)
    (hBStateError : PySem.W.hasDictIn K BStateError = true)
    (tBStateError : PySem.W.typeIn K (.ref BStateError) = some (.type "type"))
    (xo1 : PySem.W.specialIn K (.builtin "object.__class__") "__get__" = some (some (.builtin "getset_descriptor.__get__")))
    (xo2 : PySem.W.takesIn K (.builtin "object.__class__") = some true)
    (aEConflict : PySem.W.nsIn K mainGlobals "Conflict" = some (some (.ref EConflict)))
    (iEConflict : PySem.W.excInitIn K EConflict [.type "RuntimeError", .type "Exception", .type "BaseException", .type "object"] "RuntimeError.__new__" = true)
    (oEConflict : PySem.W.excOver K EConflict [.type "RuntimeError", .type "Exception", .type "BaseException", .type "object"] = true)
    (hEConflict : PySem.W.hasDictIn K EConflict = true)
    (sEConflict : PySem.W.findIn K (.ref EConflict) "__setattr__" = some (some (.builtin "object.__setattr__")))
    (xEConflict : PySem.W.subIn K (.ref EConflict) (.type "BaseException") = some true)
    (tEConflict : PySem.W.typeIn K (.ref EConflict) = some (.type "type"))
    (kEConflict : PySem.W.keepIn K (.ref EConflict) = true)
    (nEConflict : PySem.W.findIn K (.ref EConflict) "first" = some none)
    (gEConflict : PySem.W.findIn K (.ref EConflict) "__getattribute__" = some (some (.builtin "BaseException.__getattribute__")))
    (qEConflict : PySem.W.findIn K (.ref EConflict) "__getattr__" = some none)
    (cEConflict : PySem.W.findIn K (.ref EConflict) "__class__" = some (some (.builtin "object.__class__")))
    (mEConflict : PySem.W.mroIn K EConflict (.type "object") = some true)
    (ax15 : PySem.W.findIn K (.ref EConflict) "__init__" = some (some (.ref fx15)))
    (ix15 : PySem.W.isFn K (.ref fx15) = true)
    (lx15 : K.lookup fx15 = some ⟨ocx15, odx15, .func (PySem.W.fnOf "__init__" "Conflict.__init__" (defArgs c_Conflict___init__) (defBody c_Conflict___init__) (defScope c_Conflict___init__) .none kVx15 dcx15 pmx15 anx15 cdx15 ctx15), slx15⟩)
    (cx15 : PySem.W.codeIn K cdx15 "Conflict.__init__" = true)
    (kx15 : PySem.W.keepIn K (.ref fx15) = true)
    (tyEConflict : PySem.W.typeIn K (.ref fx15) = some (.type "function"))
    (n2EConflict : PySem.W.findIn K (.ref EConflict) "second" = some none)
    (u4 : PySem.W.nsIn K mainGlobals "MOST_LABELS" = some (some (.int 1000000 tt4)))
    (u5 : PySem.W.nsIn K mainGlobals "ITEM_COUNT" = some (some (.int 12 tt5)))
    (u6 : PySem.W.nsIn K mainGlobals "UNLIMITED" = some (some (.int 100000000 tt6)))
    (ixg : PySem.W.nsIn K mainGlobals "INDEXES" = some (some (.ref IXT)))
    (ixl : K.lookup IXT = some ⟨.type "tuple", ixo, .seq (List.toArray [.str "0" ixt0, .str "1" ixt1, .str "2" ixt2, .str "3" ixt3, .str "4" ixt4, .str "5" ixt5, .str "6" ixt6, .str "7" ixt7, .str "8" ixt8, .str "9" ixt9, .str "10" ixt10, .str "11" ixt11]) ixn, ixs_⟩)
    (ixd : ixo = none)
    (ax16 : PySem.W.nsIn K mainGlobals "check_values" = some (some (.ref fx16)))
    (lx16 : K.lookup fx16 = some ⟨ocx16, odx16, .func (PySem.W.fnOf "check_values" "check_values" (defArgs s_check_values) (defBody s_check_values) (defScope s_check_values) .none kVx16 dcx16 pmx16 anx16 cdx16 ctx16), slx16⟩)
    (cx16 : PySem.W.codeIn K cdx16 "check_values" = true)
    (kx16 : PySem.W.keepIn K (.ref fx16) = true)
    (ax17 : PySem.W.nsIn K mainGlobals "check_places" = some (some (.ref fx17)))
    (lx17 : K.lookup fx17 = some ⟨ocx17, odx17, .func (PySem.W.fnOf "check_places" "check_places" (defArgs s_check_places) (defBody s_check_places) (defScope s_check_places) .none kVx17 dcx17 pmx17 anx17 cdx17 ctx17), slx17⟩)
    (cx17 : PySem.W.codeIn K cdx17 "check_places" = true)
    (kx17 : PySem.W.keepIn K (.ref fx17) = true)
    (ax18 : PySem.W.nsIn K mainGlobals "check_arity" = some (some (.ref fx18)))
    (lx18 : K.lookup fx18 = some ⟨ocx18, odx18, .func (PySem.W.fnOf "check_arity" "check_arity" (defArgs s_check_arity) (defBody s_check_arity) (defScope s_check_arity) .none kVx18 dcx18 pmx18 anx18 cdx18 ctx18), slx18⟩)
    (cx18 : PySem.W.codeIn K cdx18 "check_arity" = true)
    (kx18 : PySem.W.keepIn K (.ref fx18) = true)
    (ax19 : PySem.W.nsIn K mainGlobals "split_number" = some (some (.ref fx19)))
    (lx19 : K.lookup fx19 = some ⟨ocx19, odx19, .func (PySem.W.fnOf "split_number" "split_number" (defArgs s_split_number) (defBody s_split_number) (defScope s_split_number) .none kVx19 dcx19 pmx19 anx19 cdx19 ctx19), slx19⟩)
    (cx19 : PySem.W.codeIn K cdx19 "split_number" = true)
    (kx19 : PySem.W.keepIn K (.ref fx19) = true)
    (ax20 : PySem.W.nsIn K mainGlobals "power_of" = some (some (.ref fx20)))
    (lx20 : K.lookup fx20 = some ⟨ocx20, odx20, .func (PySem.W.fnOf "power_of" "power_of" (defArgs s_power_of) (defBody s_power_of) (defScope s_power_of) .none kVx20 dcx20 pmx20 anx20 cdx20 ctx20), slx20⟩)
    (cx20 : PySem.W.codeIn K cdx20 "power_of" = true)
    (kx20 : PySem.W.keepIn K (.ref fx20) = true)
    (ax21 : PySem.W.nsIn K mainGlobals "first_places" = some (some (.ref fx21)))
    (lx21 : K.lookup fx21 = some ⟨ocx21, odx21, .func (PySem.W.fnOf "first_places" "first_places" (defArgs s_first_places) (defBody s_first_places) (defScope s_first_places) .none kVx21 dcx21 pmx21 anx21 cdx21 ctx21), slx21⟩)
    (cx21 : PySem.W.codeIn K cdx21 "first_places" = true)
    (kx21 : PySem.W.keepIn K (.ref fx21) = true)
    (ax22 : PySem.W.nsIn K mainGlobals "places_in" = some (some (.ref fx22)))
    (lx22 : K.lookup fx22 = some ⟨ocx22, odx22, .func (PySem.W.fnOf "places_in" "places_in" (defArgs s_places_in) (defBody s_places_in) (defScope s_places_in) .none kVx22 dcx22 pmx22 anx22 cdx22 ctx22), slx22⟩)
    (cx22 : PySem.W.codeIn K cdx22 "places_in" = true)
    (kx22 : PySem.W.keepIn K (.ref fx22) = true)
    (ax23 : PySem.W.nsIn K mainGlobals "rest_of" = some (some (.ref fx23)))
    (lx23 : K.lookup fx23 = some ⟨ocx23, odx23, .func (PySem.W.fnOf "rest_of" "rest_of" (defArgs s_rest_of) (defBody s_rest_of) (defScope s_rest_of) .none kVx23 dcx23 pmx23 anx23 cdx23 ctx23), slx23⟩)
    (cx23 : PySem.W.codeIn K cdx23 "rest_of" = true)
    (kx23 : PySem.W.keepIn K (.ref fx23) = true)
    (ax24 : PySem.W.nsIn K mainGlobals "bounds_of" = some (some (.ref fx24)))
    (lx24 : K.lookup fx24 = some ⟨ocx24, odx24, .func (PySem.W.fnOf "bounds_of" "bounds_of" (defArgs s_bounds_of) (defBody s_bounds_of) (defScope s_bounds_of) .none kVx24 dcx24 pmx24 anx24 cdx24 ctx24), slx24⟩)
    (cx24 : PySem.W.codeIn K cdx24 "bounds_of" = true)
    (kx24 : PySem.W.keepIn K (.ref fx24) = true)
    (ax25 : PySem.W.nsIn K mainGlobals "plain_numbers" = some (some (.ref fx25)))
    (lx25 : K.lookup fx25 = some ⟨ocx25, odx25, .func (PySem.W.fnOf "plain_numbers" "plain_numbers" (defArgs s_plain_numbers) (defBody s_plain_numbers) (defScope s_plain_numbers) .none kVx25 dcx25 pmx25 anx25 cdx25 ctx25), slx25⟩)
    (cx25 : PySem.W.codeIn K cdx25 "plain_numbers" = true)
    (kx25 : PySem.W.keepIn K (.ref fx25) = true)
    (ax26 : PySem.W.nsIn K mainGlobals "relaxed" = some (some (.ref fx26)))
    (lx26 : K.lookup fx26 = some ⟨ocx26, odx26, .func (PySem.W.fnOf "relaxed" "relaxed" (defArgs s_relaxed) (defBody s_relaxed) (defScope s_relaxed) .none kVx26 dcx26 pmx26 anx26 cdx26 ctx26), slx26⟩)
    (cx26 : PySem.W.codeIn K cdx26 "relaxed" = true)
    (kx26 : PySem.W.keepIn K (.ref fx26) = true)
    (ax27 : PySem.W.nsIn K mainGlobals "is_item_name" = some (some (.ref fx27)))
    (lx27 : K.lookup fx27 = some ⟨ocx27, odx27, .func (PySem.W.fnOf "is_item_name" "is_item_name" (defArgs s_is_item_name) (defBody s_is_item_name) (defScope s_is_item_name) .none kVx27 dcx27 pmx27 anx27 cdx27 ctx27), slx27⟩)
    (cx27 : PySem.W.codeIn K cdx27 "is_item_name" = true)
    (kx27 : PySem.W.keepIn K (.ref fx27) = true)
    (ax28 : PySem.W.nsIn K mainGlobals "each_conflict" = some (some (.ref fx28)))
    (lx28 : K.lookup fx28 = some ⟨ocx28, odx28, .func (PySem.W.fnOf "each_conflict" "each_conflict" (defArgs s_each_conflict) (defBody s_each_conflict) (defScope s_each_conflict) .none kVx28 dcx28 pmx28 anx28 cdx28 ctx28), slx28⟩)
    (cx28 : PySem.W.codeIn K cdx28 "each_conflict" = true)
    (kx28 : PySem.W.keepIn K (.ref fx28) = true)
    (aCP : PySem.W.nsIn K mainGlobals "PlaceFit" = some (some (.ref CP)))
    (pgCP : PySem.W.plainGet K CP Str.empty = true)
    (hdCP : PySem.W.hasDictIn K CP = true)
    (poCP : PySem.W.plainOver K CP = true)
    (saCP : PySem.W.findIn K (.ref CP) "__setattr__" = some (some (.builtin "object.__setattr__")))
    (mkCP : PySem.W.makesIn K CP = true)
    (kcCP : PySem.W.keepIn K (.ref CP) = true)
    (nCP0 : PySem.W.findIn K (.ref CP) "own_places" = some none)
    (nCP1 : PySem.W.findIn K (.ref CP) "own_arity" = some none)
    (nCP2 : PySem.W.findIn K (.ref CP) "own_rest" = some none)
    (nCP3 : PySem.W.findIn K (.ref CP) "own_bounds" = some none)
    (e1CP : PySem.W.findIn K (.ref CP) "__class__" = some (some (.builtin "object.__class__")))
    (e2CP : PySem.W.specialIn K (.builtin "object.__class__") "__get__" = some (some (.builtin "getset_descriptor.__get__")))
    (e3CP : PySem.W.takesIn K (.builtin "object.__class__") = some true)
    (e4CP : PySem.W.mroIn K CP (.type "object") = some true)
    (rCP : PySem.W.readsIn K CP (.type "type") = true)
    (gCP : PySem.W.specialIn K (.ref CP) "__getattribute__" = some (some (.builtin "type.__getattribute__")))
    (vpCP : PySem.W.findCls K (.ref CP) (.type "type") "MAX_PLACES" = some (.val (.int 500 tpCP)))
    (vvCP : PySem.W.findCls K (.ref CP) (.type "type") "MAX_VALUES" = some (.val (.int 1000 tvCP)))
    (aCV : PySem.W.nsIn K mainGlobals "ValueFit" = some (some (.ref CV)))
    (pgCV : PySem.W.plainGet K CV Str.empty = true)
    (hdCV : PySem.W.hasDictIn K CV = true)
    (poCV : PySem.W.plainOver K CV = true)
    (saCV : PySem.W.findIn K (.ref CV) "__setattr__" = some (some (.builtin "object.__setattr__")))
    (mkCV : PySem.W.makesIn K CV = true)
    (kcCV : PySem.W.keepIn K (.ref CV) = true)
    (nCV0 : PySem.W.findIn K (.ref CV) "own_places" = some none)
    (nCV1 : PySem.W.findIn K (.ref CV) "own_arity" = some none)
    (nCV2 : PySem.W.findIn K (.ref CV) "own_rest" = some none)
    (nCV3 : PySem.W.findIn K (.ref CV) "own_bounds" = some none)
    (e1CV : PySem.W.findIn K (.ref CV) "__class__" = some (some (.builtin "object.__class__")))
    (e2CV : PySem.W.specialIn K (.builtin "object.__class__") "__get__" = some (some (.builtin "getset_descriptor.__get__")))
    (e3CV : PySem.W.takesIn K (.builtin "object.__class__") = some true)
    (e4CV : PySem.W.mroIn K CV (.type "object") = some true)
    (rCV : PySem.W.readsIn K CV (.type "type") = true)
    (gCV : PySem.W.specialIn K (.ref CV) "__getattribute__" = some (some (.builtin "type.__getattribute__")))
    (vpCV : PySem.W.findCls K (.ref CV) (.type "type") "MAX_PLACES" = some (.val (.int 500 tpCV)))
    (vvCV : PySem.W.findCls K (.ref CV) (.type "type") "MAX_VALUES" = some (.val (.int 1000 tvCV)))
    (ax29 : PySem.W.findIn K (.ref CP) "prepare" = some (some (.ref fx29)))
    (ix29 : PySem.W.isFn K (.ref fx29) = true)
    (lx29 : K.lookup fx29 = some ⟨ocx29, odx29, .func (PySem.W.fnOf "prepare" "PlaceFit.prepare" (defArgs c_PlaceFit_prepare) (defBody c_PlaceFit_prepare) (defScope c_PlaceFit_prepare) .none kVx29 dcx29 pmx29 anx29 cdx29 ctx29), slx29⟩)
    (cx29 : PySem.W.codeIn K cdx29 "PlaceFit.prepare" = true)
    (kx29 : PySem.W.keepIn K (.ref fx29) = true)
    (ax29CV : PySem.W.findIn K (.ref CV) "prepare" = some (some (.ref fx29)))
    (ax30 : PySem.W.findIn K (.ref CP) "__init__" = some (some (.ref fx30)))
    (ix30 : PySem.W.isFn K (.ref fx30) = true)
    (lx30 : K.lookup fx30 = some ⟨ocx30, odx30, .func (PySem.W.fnOf "__init__" "PlaceFit.__init__" (defArgs c_PlaceFit___init__) (defBody c_PlaceFit___init__) (defScope c_PlaceFit___init__) .none kVx30 dcx30 pmx30 anx30 cdx30 ctx30), slx30⟩)
    (cx30 : PySem.W.codeIn K cdx30 "PlaceFit.__init__" = true)
    (kx30 : PySem.W.keepIn K (.ref fx30) = true)
    (ax31 : PySem.W.findIn K (.ref CV) "__init__" = some (some (.ref fx31)))
    (ix31 : PySem.W.isFn K (.ref fx31) = true)
    (lx31 : K.lookup fx31 = some ⟨ocx31, odx31, .func (PySem.W.fnOf "__init__" "ValueFit.__init__" (defArgs c_ValueFit___init__) (defBody c_ValueFit___init__) (defScope c_ValueFit___init__) .none kVx31 dcx31 pmx31 anx31 cdx31 ctx31), slx31⟩)
    (cx31 : PySem.W.codeIn K cdx31 "ValueFit.__init__" = true)
    (kx31 : PySem.W.keepIn K (.ref fx31) = true)
    (ax32 : PySem.W.findCls K (.ref CP) (.type "type") "of" = some (.get (.builtin "classmethod.__get__") (.ref pCx32) .none (.ref CP)))
    (bx32 : PySem.W.recIn K pCx32 "classmethod" = some (.ref fx32 :: rCx32))
    (lx32 : K.lookup fx32 = some ⟨ocx32, odx32, .func (PySem.W.fnOf "of" "PlaceFit.of" (defArgs c_PlaceFit_of) (defBody c_PlaceFit_of) (defScope c_PlaceFit_of) .none kVx32 dcx32 pmx32 anx32 cdx32 ctx32), slx32⟩)
    (cx32 : PySem.W.codeIn K cdx32 "PlaceFit.of" = true)
    (kx32 : PySem.W.keepIn K (.ref fx32) = true)
    (nx32 : PySem.W.fnIn K fx32 = true)
    (ax33 : PySem.W.findIn K (.ref CP) "fits" = some (some (.ref fx33)))
    (ix33 : PySem.W.isFn K (.ref fx33) = true)
    (lx33 : K.lookup fx33 = some ⟨ocx33, odx33, .func (PySem.W.fnOf "fits" "PlaceFit.fits" (defArgs c_PlaceFit_fits) (defBody c_PlaceFit_fits) (defScope c_PlaceFit_fits) .none kVx33 dcx33 pmx33 anx33 cdx33 ctx33), slx33⟩)
    (cx33 : PySem.W.codeIn K cdx33 "PlaceFit.fits" = true)
    (kx33 : PySem.W.keepIn K (.ref fx33) = true)
    (ax34 : PySem.W.findIn K (.ref CV) "fits" = some (some (.ref fx34)))
    (ix34 : PySem.W.isFn K (.ref fx34) = true)
    (lx34 : K.lookup fx34 = some ⟨ocx34, odx34, .func (PySem.W.fnX "fits" "ValueFit.fits" (defArgs c_ValueFit_fits) (defBody c_ValueFit_fits) (defScope c_ValueFit_fits) [(("__class__" : Str), ccx34)] .none .none dcx34 pmx34 none (.ref cdax34) ctx34), slx34⟩)
    (cx34 : PySem.W.codeIn K (.ref cdax34) "ValueFit.fits" = true)
    (kx34 : PySem.W.keepIn K (.ref fx34) = true)
    (ex34 : K.lookup ccx34 = some ⟨c0x34, cldx34, .cell (some (.ref CV)), cslx34⟩)
    (dx34 : K.lookup cdax34 = some ⟨cclx34, cddx34, .fields vsx34, ccsx34⟩)
    (vx34 : vsx34[2]? = some (.str flx34 tfx34))
    (wx34 : ((l.prog.main.file : Str) == flx34) = true)
    (supt : (l.prog.main.scope.names.lookup ("super" : Str)).isSome = false)
    (supo : PySem.W.nsIn K cStatics "thirdparty.any" = some none)
    (cdCV : PySem.W.clsIn K CV = some cdtCV)
    (sbCV : PySem.W.mroIn K CV (.ref CV) = some true)
    (sux34fits : PySem.W.ks_superIn K CV CV "fits" = some (some (.ref fx33)))
    (tyx34fits : PySem.W.typeIn K (.ref fx33) = some (.type "function"))
    (fix34fits : PySem.W.fnIn K fx33 = true)
    (ax35 : PySem.W.findIn K (.ref CP) "limits" = some (some (.ref fx35)))
    (ix35 : PySem.W.isFn K (.ref fx35) = true)
    (lx35 : K.lookup fx35 = some ⟨ocx35, odx35, .func (PySem.W.fnOf "limits" "PlaceFit.limits" (defArgs c_PlaceFit_limits) (defBody c_PlaceFit_limits) (defScope c_PlaceFit_limits) .none kVx35 dcx35 pmx35 anx35 cdx35 ctx35), slx35⟩)
    (cx35 : PySem.W.codeIn K cdx35 "PlaceFit.limits" = true)
    (kx35 : PySem.W.keepIn K (.ref fx35) = true)
    (ax35CV : PySem.W.findIn K (.ref CV) "limits" = some (some (.ref fx35)))
    (ax36 : PySem.W.findIn K (.ref CP) "known_frequency" = some (some (.ref fx36)))
    (ix36 : PySem.W.isFn K (.ref fx36) = true)
    (lx36 : K.lookup fx36 = some ⟨ocx36, odx36, .func (PySem.W.fnOf "known_frequency" "PlaceFit.known_frequency" (defArgs c_PlaceFit_known_frequency) (defBody c_PlaceFit_known_frequency) (defScope c_PlaceFit_known_frequency) .none kVx36 dcx36 pmx36 anx36 cdx36 ctx36), slx36⟩)
    (cx36 : PySem.W.codeIn K cdx36 "PlaceFit.known_frequency" = true)
    (kx36 : PySem.W.keepIn K (.ref fx36) = true)
    (ax36CV : PySem.W.findIn K (.ref CV) "known_frequency" = some (some (.ref fx36)))
    (ax37 : PySem.W.findIn K (.ref CP) "range_of" = some (some (.ref fx37)))
    (ix37 : PySem.W.isFn K (.ref fx37) = true)
    (lx37 : K.lookup fx37 = some ⟨ocx37, odx37, .func (PySem.W.fnOf "range_of" "PlaceFit.range_of" (defArgs c_PlaceFit_range_of) (defBody c_PlaceFit_range_of) (defScope c_PlaceFit_range_of) .none kVx37 dcx37 pmx37 anx37 cdx37 ctx37), slx37⟩)
    (cx37 : PySem.W.codeIn K cdx37 "PlaceFit.range_of" = true)
    (kx37 : PySem.W.keepIn K (.ref fx37) = true)
    (ax37CV : PySem.W.findIn K (.ref CV) "range_of" = some (some (.ref fx37)))
    (ax38 : PySem.W.findIn K (.ref CP) "spine_item" = some (some (.ref fx38)))
    (ix38 : PySem.W.isFn K (.ref fx38) = true)
    (lx38 : K.lookup fx38 = some ⟨ocx38, odx38, .func (PySem.W.fnOf "spine_item" "PlaceFit.spine_item" (defArgs c_PlaceFit_spine_item) (defBody c_PlaceFit_spine_item) (defScope c_PlaceFit_spine_item) .none kVx38 dcx38 pmx38 anx38 cdx38 ctx38), slx38⟩)
    (cx38 : PySem.W.codeIn K cdx38 "PlaceFit.spine_item" = true)
    (kx38 : PySem.W.keepIn K (.ref fx38) = true)
    (ax38CV : PySem.W.findIn K (.ref CV) "spine_item" = some (some (.ref fx38)))
    (ax39 : PySem.W.findIn K (.ref CP) "completed" = some (some (.ref fx39)))
    (ix39 : PySem.W.isFn K (.ref fx39) = true)
    (lx39 : K.lookup fx39 = some ⟨ocx39, odx39, .func (PySem.W.fnOf "completed" "PlaceFit.completed" (defArgs c_PlaceFit_completed) (defBody c_PlaceFit_completed) (defScope c_PlaceFit_completed) .none kVx39 dcx39 pmx39 anx39 cdx39 ctx39), slx39⟩)
    (cx39 : PySem.W.codeIn K cdx39 "PlaceFit.completed" = true)
    (kx39 : PySem.W.keepIn K (.ref fx39) = true)
    (ax39CV : PySem.W.findIn K (.ref CV) "completed" = some (some (.ref fx39)))
    (ax40 : PySem.W.nsIn K mainGlobals "_law_begun" = some (some (.ref fx40)))
    (lx40 : K.lookup fx40 = some ⟨ocx40, odx40, .func (PySem.W.fnOf "_law_begun" "_law_begun" (defArgs s__law_begun) (defBody s__law_begun) (defScope s__law_begun) .none kVx40 dcx40 pmx40 anx40 cdx40 ctx40), slx40⟩)
    (cx40 : PySem.W.codeIn K cdx40 "_law_begun" = true)
    (kx40 : PySem.W.keepIn K (.ref fx40) = true)
    (ax41 : PySem.W.nsIn K mainGlobals "_law_draw" = some (some (.ref fx41)))
    (lx41 : K.lookup fx41 = some ⟨ocx41, odx41, .func (PySem.W.fnOf "_law_draw" "_law_draw" (defArgs s__law_draw) (defBody s__law_draw) (defScope s__law_draw) .none kVx41 dcx41 pmx41 anx41 cdx41 ctx41), slx41⟩)
    (cx41 : PySem.W.codeIn K cdx41 "_law_draw" = true)
    (kx41 : PySem.W.keepIn K (.ref fx41) = true)
    (ax42 : PySem.W.nsIn K mainGlobals "_law_of" = some (some (.ref fx42)))
    (lx42 : K.lookup fx42 = some ⟨ocx42, odx42, .func (PySem.W.fnOf "_law_of" "_law_of" (defArgs s__law_of) (defBody s__law_of) (defScope s__law_of) .none kVx42 dcx42 pmx42 anx42 cdx42 ctx42), slx42⟩)
    (cx42 : PySem.W.codeIn K cdx42 "_law_of" = true)
    (kx42 : PySem.W.keepIn K (.ref fx42) = true)
    (ax43 : PySem.W.nsIn K mainGlobals "_law_stream" = some (some (.ref fx43)))
    (lx43 : K.lookup fx43 = some ⟨ocx43, odx43, .func (PySem.W.fnOf "_law_stream" "_law_stream" (defArgs s__law_stream) (defBody s__law_stream) (defScope s__law_stream) .none kVx43 dcx43 pmx43 anx43 cdx43 ctx43), slx43⟩)
    (cx43 : PySem.W.codeIn K cdx43 "_law_stream" = true)
    (kx43 : PySem.W.keepIn K (.ref fx43) = true)
    (ax44 : PySem.W.nsIn K mainGlobals "_law_item" = some (some (.ref fx44)))
    (lx44 : K.lookup fx44 = some ⟨ocx44, odx44, .func (PySem.W.fnOf "_law_item" "_law_item" (defArgs s__law_item) (defBody s__law_item) (defScope s__law_item) .none kVx44 dcx44 pmx44 anx44 cdx44 ctx44), slx44⟩)
    (cx44 : PySem.W.codeIn K cdx44 "_law_item" = true)
    (kx44 : PySem.W.keepIn K (.ref fx44) = true)
    (ax45 : PySem.W.nsIn K mainGlobals "_law_place" = some (some (.ref fx45)))
    (lx45 : K.lookup fx45 = some ⟨ocx45, odx45, .func (PySem.W.fnOf "_law_place" "_law_place" (defArgs s__law_place) (defBody s__law_place) (defScope s__law_place) .none kVx45 dcx45 pmx45 anx45 cdx45 ctx45), slx45⟩)
    (cx45 : PySem.W.codeIn K cdx45 "_law_place" = true)
    (kx45 : PySem.W.keepIn K (.ref fx45) = true)
    (ax46 : PySem.W.nsIn K mainGlobals "_law_seen" = some (some (.ref fx46)))
    (lx46 : K.lookup fx46 = some ⟨ocx46, odx46, .func (PySem.W.fnOf "_law_seen" "_law_seen" (defArgs s__law_seen) (defBody s__law_seen) (defScope s__law_seen) .none kVx46 dcx46 pmx46 anx46 cdx46 ctx46), slx46⟩)
    (cx46 : PySem.W.codeIn K cdx46 "_law_seen" = true)
    (kx46 : PySem.W.keepIn K (.ref fx46) = true)
    (ax47 : PySem.W.nsIn K mainGlobals "_law_known" = some (some (.ref fx47)))
    (lx47 : K.lookup fx47 = some ⟨ocx47, odx47, .func (PySem.W.fnOf "_law_known" "_law_known" (defArgs s__law_known) (defBody s__law_known) (defScope s__law_known) .none kVx47 dcx47 pmx47 anx47 cdx47 ctx47), slx47⟩)
    (cx47 : PySem.W.codeIn K cdx47 "_law_known" = true)
    (kx47 : PySem.W.keepIn K (.ref fx47) = true)
    (ax48 : PySem.W.nsIn K mainGlobals "_law_split" = some (some (.ref fx48)))
    (lx48 : K.lookup fx48 = some ⟨ocx48, odx48, .func (PySem.W.fnOf "_law_split" "_law_split" (defArgs s__law_split) (defBody s__law_split) (defScope s__law_split) .none kVx48 dcx48 pmx48 anx48 cdx48 ctx48), slx48⟩)
    (cx48 : PySem.W.codeIn K cdx48 "_law_split" = true)
    (kx48 : PySem.W.keepIn K (.ref fx48) = true)
    (ax49 : PySem.W.nsIn K mainGlobals "_law_bounds" = some (some (.ref fx49)))
    (lx49 : K.lookup fx49 = some ⟨ocx49, odx49, .func (PySem.W.fnOf "_law_bounds" "_law_bounds" (defArgs s__law_bounds) (defBody s__law_bounds) (defScope s__law_bounds) .none kVx49 dcx49 pmx49 anx49 cdx49 ctx49), slx49⟩)
    (cx49 : PySem.W.codeIn K cdx49 "_law_bounds" = true)
    (kx49 : PySem.W.keepIn K (.ref fx49) = true)
    (ax50 : PySem.W.nsIn K mainGlobals "_law_conflicts" = some (some (.ref fx50)))
    (lx50 : K.lookup fx50 = some ⟨ocx50, odx50, .func (PySem.W.fnOf "_law_conflicts" "_law_conflicts" (defArgs s__law_conflicts) (defBody s__law_conflicts) (defScope s__law_conflicts) .none kVx50 dcx50 pmx50 anx50 cdx50 ctx50), slx50⟩)
    (cx50 : PySem.W.codeIn K cdx50 "_law_conflicts" = true)
    (kx50 : PySem.W.keepIn K (.ref fx50) = true)
    (ax51 : PySem.W.nsIn K mainGlobals "_law_random" = some (some (.ref fx51)))
    (lx51 : K.lookup fx51 = some ⟨ocx51, odx51, .func (PySem.W.fnOf "_law_random" "_law_random" (defArgs s__law_random) (defBody s__law_random) (defScope s__law_random) .none kVx51 dcx51 pmx51 anx51 cdx51 ctx51), slx51⟩)
    (cx51 : PySem.W.codeIn K cdx51 "_law_random" = true)
    (kx51 : PySem.W.keepIn K (.ref fx51) = true)
    (zcc : PySem.W.subIn K (.ref EConflict) (.ref EConflict) = some true)
    (ax52 : PySem.W.nsIn K mainGlobals "_law_made" = some (some (.ref fx52)))
    (lx52 : K.lookup fx52 = some ⟨ocx52, odx52, .func (PySem.W.fnOf "_law_made" "_law_made" (defArgs s__law_made) (defBody s__law_made) (defScope s__law_made) .none kVx52 dcx52 pmx52 anx52 cdx52 ctx52), slx52⟩)
    (cx52 : PySem.W.codeIn K cdx52 "_law_made" = true)
    (kx52 : PySem.W.keepIn K (.ref fx52) = true)
    (ax53 : PySem.W.nsIn K mainGlobals "_law_items" = some (some (.ref fx53)))
    (lx53 : K.lookup fx53 = some ⟨ocx53, odx53, .func (PySem.W.fnOf "_law_items" "_law_items" (defArgs s__law_items) (defBody s__law_items) (defScope s__law_items) .none kVx53 dcx53 pmx53 anx53 cdx53 ctx53), slx53⟩)
    (cx53 : PySem.W.codeIn K cdx53 "_law_items" = true)
    (kx53 : PySem.W.keepIn K (.ref fx53) = true)
    (ax54 : PySem.W.nsIn K mainGlobals "_law_ends" = some (some (.ref fx54)))
    (lx54 : K.lookup fx54 = some ⟨ocx54, odx54, .func (PySem.W.fnOf "_law_ends" "_law_ends" (defArgs s__law_ends) (defBody s__law_ends) (defScope s__law_ends) .none kVx54 dcx54 pmx54 anx54 cdx54 ctx54), slx54⟩)
    (cx54 : PySem.W.codeIn K cdx54 "_law_ends" = true)
    (kx54 : PySem.W.keepIn K (.ref fx54) = true)
    (ax55 : PySem.W.nsIn K mainGlobals "_law_right" = some (some (.ref fx55)))
    (lx55 : K.lookup fx55 = some ⟨ocx55, odx55, .func (PySem.W.fnOf "_law_right" "_law_right" (defArgs s__law_right) (defBody s__law_right) (defScope s__law_right) .none kVx55 dcx55 pmx55 anx55 (.ref cdax55) ctx55), slx55⟩)
    (cx55 : PySem.W.codeIn K (.ref cdax55) "_law_right" = true)
    (kx55 : PySem.W.keepIn K (.ref fx55) = true)
    (dx55 : K.lookup cdax55 = some ⟨cclx55, cddx55, .fields vsx55, ccsx55⟩)
    (vx55 : vsx55[11]? = some (.ref Ptx55))
    (npx55 : K.lookup Ptx55 = none)
    (chx55 : PySem.W.codeHdIn K cdax55 Ptx55 = true)
    (ax56 : PySem.W.nsIn K mainGlobals "_law_many_right" = some (some (.ref fx56)))
    (lx56 : K.lookup fx56 = some ⟨ocx56, odx56, .func (PySem.W.fnOf "_law_many_right" "_law_many_right" (defArgs s__law_many_right) (defBody s__law_many_right) (defScope s__law_many_right) .none kVx56 dcx56 pmx56 anx56 cdx56 ctx56), slx56⟩)
    (cx56 : PySem.W.codeIn K cdx56 "_law_many_right" = true)
    (kx56 : PySem.W.keepIn K (.ref fx56) = true)
    (ax57 : PySem.W.nsIn K mainGlobals "law" = some (some (.ref fx57)))
    (lx57 : K.lookup fx57 = some ⟨ocx57, odx57, .func (PySem.W.fnOf "law" "law" (defArgs s_law) (defBody s_law) (defScope s_law) .none kVx57 dcx57 pmx57 anx57 cdx57 ctx57), slx57⟩)
    (cx57 : PySem.W.codeIn K cdx57 "law" = true)
    (kx57 : PySem.W.keepIn K (.ref fx57) = true)
    (z0 : PySem.W.nsIn K mainGlobals "isinstance" = some none)
    (z1 : PySem.W.nsIn K mainGlobals "int" = some none)
    (z2 : PySem.W.nsIn K mainGlobals "bool" = some none)
    (z3 : PySem.W.nsIn K mainGlobals "tuple" = some none)
    (z4 : PySem.W.nsIn K mainGlobals "len" = some none)
    (z5 : PySem.W.nsIn K mainGlobals "enumerate" = some none)
    (z6 : PySem.W.nsIn K mainGlobals "range" = some none)
    (z7 : PySem.W.nsIn K mainGlobals "all" = some none)
    (z8 : PySem.W.nsIn K mainGlobals "list" = some none)
    (z9 : PySem.W.nsIn K mainGlobals "min" = some none)
    (z10 : PySem.W.nsIn K mainGlobals "max" = some none)
    (z11 : PySem.W.nsIn K mainGlobals "sum" = some none)
    (z12 : PySem.W.nsIn K mainGlobals "zip" = some none)
    (z13 : PySem.W.nsIn K mainGlobals "str" = some none)
    (z14 : PySem.W.nsIn K mainGlobals "super" = some none)
    (y1 : RelV .non w1)
    (y2 : RelV .non w2)
    : ∃ cs : List (Addr × Addr × Str), (∀ p ∈ cs, h.get? p.2.1 = some { cls := .none, data := .fields #[] }) ∧ (∀ p ∈ cs, K.lookup p.2.1 = none) ∧ (∀ p ∈ cs, PySem.W.codeHdIn K p.1 p.2.1 = true) ∧ (cs.map (·.2.1)).Nodup ∧
        ∀ base : Heap, K.In base → base.Ns mainGlobals mg → (∀ p ∈ cs, TabB base mg p.1 p.2.1) → FnX l.prog w K mg base 14 fa [] (spX K (aLawT (cs.map (·.2)))) := by
  refine ⟨[(cdax55, Ptx55, ("_law_right.<locals>.<lambda>" : Str))], List.forall_mem_cons.mpr ⟨own "_law_right" List.mem_cons_self fx55 (PySem.W.mg_of X G ax55) _ _ _ _ _ _ _ _ lx55 rfl rfl dx55 vx55, List.forall_mem_nil _⟩, List.forall_mem_cons.mpr ⟨npx55, List.forall_mem_nil _⟩, List.forall_mem_cons.mpr ⟨chx55, List.forall_mem_nil _⟩, List.nodup_cons.mpr ⟨List.not_mem_nil, List.nodup_nil⟩, ?_⟩
  intro base _ _ tbs
  have TBx55 : TabB base mg cdax55 Ptx55 := tbs (cdax55, Ptx55, ("_law_right.<locals>.<lambda>" : Str)) List.mem_cons_self
  have B : Bt mg := ⟨(PySem.W.mg_none_of X G z0), (PySem.W.mg_none_of X G z1), (PySem.W.mg_none_of X G z2), (PySem.W.mg_none_of X G z3), (PySem.W.mg_none_of X G z4), (PySem.W.mg_none_of X G z5), (PySem.W.mg_none_of X G z6), (PySem.W.mg_none_of X G z7), (PySem.W.mg_none_of X G z8), (PySem.W.mg_none_of X G z9), (PySem.W.mg_none_of X G z10), (PySem.W.mg_none_of X G z11)⟩
  have T : Rs K mg C := ⟨⟨pgC, hdC, poC, saC⟩, nC0, nC1, nC2, PySem.W.mg_of X G aC⟩
  have L : Lm mg tt0 tt1 tt2 tt3 := ⟨PySem.W.mg_of X G u0, PySem.W.mg_of X G u1, PySem.W.mg_of X G u2, PySem.W.mg_of X G u3⟩
  have LE_ : LmE mg := ⟨⟨_, PySem.W.mg_of X G u0⟩, ⟨_, PySem.W.mg_of X G u1⟩, ⟨_, PySem.W.mg_of X G u2⟩, ⟨_, PySem.W.mg_of X G u3⟩⟩
  have e5 : PySem.W.kitOne K (.ref C) (.ref C) = some true := if_pos (by simp)
  have IS : Isi K C := ⟨e1C, e2C, e3C, e4C, e5⟩
  have Fx1 := fd_kw2 (st := s_is_integer) lx1 cx1 kx1 d1 d2 y1 y2
  have GA : GInt l.prog w K mg base := by
    obtain ⟨mv, kb⟩ := FunD.kbinds0 (ps := ["value", "low", "high"]) Fx1 1 ["low", "high"] [] (fun us _ ws => us ++ ws) (by simp) (fun _ h => nomatch h) (fun r1 _ r2 => r1.append r2)
      (fun D doc pm an cdv ct us mv ws h1 h2 h3 => match us, mv, ws, h1, h2, h3 with | [_], [], [_, _], _, _, _ => rfl)
    exact ⟨⟨fx1, fnx_kbn (k := 0) (fun ds es => ds ++ es) Fx1 q_is_integer kb (fun H ds vs es zs r1 r2 _ _ => r1.append r2) (fun ds M R ⟨n, lo, hi, e, _⟩ => by rw [e]; rfl) (b_is_integer (PySem.W.mg_none_of X G z0) (PySem.W.mg_none_of X G z1) (PySem.W.mg_none_of X G z2)), (PySem.W.mg_of X G ax1), kx1⟩⟩
  have Fx2 : FunD K "check_integer" "check_integer" (defArgs s_check_integer) (defBody s_check_integer) (defScope s_check_integer) [.non] [] fx2 _ := ⟨⟨ocx2, odx2, .ref T2, kVx2, dcx2, pmx2, anx2, cdx2, ctx2, slx2, rfl, lx2, cx2, .inr ⟨List.cons_ne_nil _ _, T2, _, [.none], k02, rfl, dx2, rfl, .cons rfl .nil⟩, .inl rfl⟩, kx2⟩
  have GB3 : GChk3 l.prog w K mg base := ⟨⟨fx2, (fnx_dflG (n := 3) (ks := []) (fun us _ _ => us) Fx2 q_check_integer (List.cons_ne_nil _ _) [.non] (fun H => .cons .non .nil) (fun T' kV doc pm an cdv ct us ws its h1 h2 h3 => match us, ws, its, h1, h2, h3 with | [_, _, _], [], [_], _, _, _ => ⟨_, rfl, rfl⟩) (fun r1 _ _ => r1) (fun r1 _ _ => r1) (fun ds M R h => by obtain ⟨n, lo, hi, rfl, _⟩ := h; rfl) (b_check_integer3 GA)).imp (fun ds es M R h => ⟨by obtain ⟨n, lo, hi, rfl, _⟩ := h; rfl, h⟩), (PySem.W.mg_of X G ax2), kx2⟩⟩
  have GB : GChk l.prog w K mg base := ⟨⟨fx2, fnx_dfl (n := 2) (dd := [.non]) Fx2 q_check_integer (List.cons_ne_nil _ _) (fun H => .cons .non .nil) (fun T' kV doc pm an cdv ct us its h1 h2 => match us, its, h1, h2 with | [_, _], [_], _, _ => ⟨_, rfl, rfl⟩) (fun ds M R h => by obtain ⟨n, lo, rfl, _⟩ := h; rfl) (b_check_integer GA), (PySem.W.mg_of X G ax2), kx2⟩⟩
  have Fx3 := fd_mk (st := s_are_items) lx3 cx3 kx3
  have GC : GItems l.prog w K mg base := gd_pos Fx3 q_are_items (fun _ _ _ _ _ _ us hl => match us, hl with | [_, _, _], _ => rfl) (fun ds M R h => by obtain ⟨x, a, b, rfl, _⟩ := h <;> rfl) (b_are_items GA L.b (PySem.W.mg_none_of X G z0) (PySem.W.mg_none_of X G z3) (PySem.W.mg_none_of X G z4) (PySem.W.mg_none_of X G z7)) (PySem.W.mg_of X G ax3)
  have Fx4 := fd_mk (st := s_shortest_loop) lx4 cx4 kx4
  have GD : GSl l.prog w K mg base := gd_pos Fx4 q_shortest_loop (fun _ _ _ _ _ _ us hl => match us, hl with | [_], _ => rfl) (fun ds M R h => by obtain ⟨x, rfl, _⟩ := h <;> rfl) (b_shortest_loop (PySem.W.mg_none_of X G z6) (PySem.W.mg_none_of X G z4)) (PySem.W.mg_of X G ax4)
  have Fx5 := fd_mk (st := s_normal_form) lx5 cx5 kx5
  have GE : GNf l.prog w K mg base := gd_pos Fx5 q_normal_form (fun _ _ _ _ _ _ us hl => match us, hl with | [_, _], _ => rfl) (fun ds M R h => by obtain ⟨x, rfl, _⟩ := h <;> rfl) (b_normal_form GD) (PySem.W.mg_of X G ax5)
  have Fx6 := fd_mk (st := s_stream_item) lx6 cx6 kx6
  have GF : GItem l.prog w K mg base := gd_pos Fx6 q_stream_item (fun _ _ _ _ _ _ us hl => match us, hl with | [_, _], _ => rfl) (fun ds M R h => by obtain ⟨x, i, rfl, _⟩ := h <;> rfl) (b_stream_item (PySem.W.mg_none_of X G z4)) (PySem.W.mg_of X G ax6)
  have Fx7 := fd_mk (st := c_Schedule_is_stream) lx7 cx7 kx7
  have XJ : FX l.prog w K mg base 3 fx7 fun ds _ => aIss ds := fnx_pos' Fx7 q_Schedule_is_stream (fun _ _ _ _ _ _ us hl => match us, hl with | [_], _ => rfl) (fun ds M R h => by obtain ⟨x, rfl, _⟩ := h; rfl) (b_is_stream L GC (PySem.W.mg_none_of X G z0) (PySem.W.mg_none_of X G z3) (PySem.W.mg_none_of X G z4))
  have CS : Cs l.prog w K mg base C pSx7 fx7 := ⟨⟨rd, ga⟩, ⟨ax7, ⟨_, bx7⟩, kx7⟩, XJ⟩
  have Fx8 := fd_mk (st := c_Schedule___init__) lx8 cx8 kx8
  have MK : Mks l.prog w K mg base C := ⟨⟨fx8, ⟨mkC, ax8, ix8, kcC⟩, fnx_kw Fx8 q_Schedule___init__ (fun _ _ _ _ _ _ us ws h1 h2 => match us, ws, h1, h2 with | [_, _], [_, _], _, _ => rfl) (fun ds M R h => by obtain ⟨p, a, sp, lv, M0, rfl, _⟩ := h; rfl) (b_init T L GA CS GF GE)⟩⟩
  have Fx9 := fd_mk (st := c_Schedule_spine_at) lx9 cx9 kx9
  have XE : FX l.prog w K mg base 3 fx9 fun ds _ => aSat C ds := fnx_pos' Fx9 q_Schedule_spine_at (fun _ _ _ _ _ _ us hl => match us, hl with | [_, _], _ => rfl) (fun ds M R h => by obtain ⟨x, i, rfl, _⟩ := h; rfl) (b_spine_at T GB GF)
  have Fx10 := fd_mk (st := c_Schedule_level_at) lx10 cx10 kx10
  have XF : FX l.prog w K mg base 3 fx10 fun ds _ => aLat C ds := fnx_pos' Fx10 q_Schedule_level_at (fun _ _ _ _ _ _ us hl => match us, hl with | [_, _], _ => rfl) (fun ds M R h => by obtain ⟨x, i, rfl, _⟩ := h; rfl) (b_level_at T GB GF)
  have SM : Sm2 l.prog w K mg base C := ⟨⟨fx9, ⟨ax9, ix9, kx9⟩, XE⟩, ⟨fx10, ⟨ax10, ix10, kx10⟩, XF⟩⟩
  have Fx11 := fd_mk (st := c_Schedule___eq__) lx11 cx11 kx11
  have XI : FX l.prog w K mg base 1 fx11 fun ds _ => aEqS C ds := fnx_pos' Fx11 q_Schedule___eq__ (fun _ _ _ _ _ _ us hl => match us, hl with | [_, _], _ => rfl) (fun ds M R h => by obtain ⟨x, i, rfl, _⟩ := h; rfl) (b_eq T IS (PySem.W.mg_none_of X G z0))
  have OS : OwnS l.prog w K mg base C fx11 := ⟨XI, ax11, ix11, e6C, e7C⟩
  have Fx12 := fd_mk (st := c_Schedule_arity) lx12 cx12 kx12
  have YPA : FX l.prog w K mg base 1 fx12 fun ds _ => aAri C ds := fnx_pos' Fx12 q_Schedule_arity (fun _ _ _ _ _ _ us hl => match us, hl with | [_], _ => rfl) (fun ds M R h => by obtain ⟨x, rfl, _⟩ := h; rfl) (b_arity T)
  have PA : PrA l.prog w K mg base C := ⟨⟨pNx12, fx12, ⟨ax12, gx12, tx12, _, bx12⟩, YPA⟩⟩
  have Fx13 := fd_mk (st := c_Schedule_spine) lx13 cx13 kx13
  have YPS_ : FX l.prog w K mg base 1 fx13 fun ds _ => aSpi C ds := fnx_pos' Fx13 q_Schedule_spine (fun _ _ _ _ _ _ us hl => match us, hl with | [_], _ => rfl) (fun ds M R h => by obtain ⟨x, rfl, _⟩ := h; rfl) (b_spine T)
  have PS_ : PrS l.prog w K mg base C := ⟨⟨pNx13, fx13, ⟨ax13, gx13, tx13, _, bx13⟩, YPS_⟩⟩
  have Fx14 := fd_mk (st := c_Schedule_levels) lx14 cx14 kx14
  have YPL_ : FX l.prog w K mg base 1 fx14 fun ds _ => aLev C ds := fnx_pos' Fx14 q_Schedule_levels (fun _ _ _ _ _ _ us hl => match us, hl with | [_], _ => rfl) (fun ds M R h => by obtain ⟨x, rfl, _⟩ := h; rfl) (b_levels T)
  have PL_ : PrL l.prog w K mg base C := ⟨⟨pNx14, fx14, ⟨ax14, gx14, tx14, _, bx14⟩, YPL_⟩⟩
  have XBStateError : XBase K mg "StateError" "RuntimeError.__init__" := ⟨⟨BStateError, ⟨rBStateError, gBStateError⟩, vBStateError, PySem.W.mg_of X G aBStateError⟩, by decide +kernel⟩
  have Fx15 := fd_mk (st := c_Conflict___init__) lx15 cx15 kx15
  have TEConflict : XCl K EConflict "RuntimeError" "RuntimeError.__new__" "RuntimeError.__init__" [.type "RuntimeError", .type "Exception", .type "BaseException", .type "object"] := ⟨PySem.F.excBase_RuntimeError, PySem.F.store_RuntimeError, iEConflict, oEConflict, hEConflict, sEConflict, xEConflict, tEConflict, kEConflict⟩
  have XKConflict : XMk l.prog w K mg base "Conflict" EConflict 2 (g2 "first" "second") := ⟨⟨_, _, _, _, _, g2V "first" "second", TEConflict, ax15, tyEConflict, xi_Conflict Fx15 TEConflict XBStateError nEConflict n2EConflict, PySem.W.mg_of X G aEConflict, g2_rel⟩, by decide⟩
  have ECConflict : L2.ExcC K EConflict := ⟨gEConflict, qEConflict, xEConflict, hEConflict, cEConflict, xo1, xo2, mEConflict⟩
  have XFConflict : XfC K EConflict := ⟨gEConflict, qEConflict, xEConflict, hEConflict⟩
  have ITConflict : PySem.W.kitOne K (.ref EConflict) (.ref EConflict) = some true := if_pos (by simp)
  have L6 : Lm6 mg := ⟨⟨_, PySem.W.mg_of X G u4⟩, ⟨_, PySem.W.mg_of X G u5⟩⟩
  have L7 : Lm7 mg := ⟨⟨_, PySem.W.mg_of X G u6⟩⟩
  subst ixd
  have IX : IxK K mg IXT := ⟨PySem.W.mg_of X G ixg, ⟨_, ixl, rfl, rfl⟩, fun H => by rw [show ixS = (["0", "1", "2", "3", "4", "5", "6", "7", "8", "9", "10", "11"] : List Str) by decide +kernel]; exact .inr ⟨_, _, _, ixl, rfl, rfl, Nat.le_of_ble_eq_true rfl, (.cons ⟨_, rfl⟩ (.cons ⟨_, rfl⟩ (.cons ⟨_, rfl⟩ (.cons ⟨_, rfl⟩ (.cons ⟨_, rfl⟩ (.cons ⟨_, rfl⟩ (.cons ⟨_, rfl⟩ (.cons ⟨_, rfl⟩ (.cons ⟨_, rfl⟩ (.cons ⟨_, rfl⟩ (.cons ⟨_, rfl⟩ (.cons ⟨_, rfl⟩ .nil))))))))))))⟩⟩
  have Fx16 := fd_mk (st := s_check_values) lx16 cx16 kx16
  have HCV : GCkv l.prog w K mg base := gd_pos Fx16 q_check_values (fun _ _ _ _ _ _ us hl => match us, hl with | [_], _ => rfl) (fun ds M R h => by obtain ⟨d, vs, rfl, _⟩ := h <;> rfl) (b_check_values B GA) (PySem.W.mg_of X G ax16)
  have Fx17 := fd_mk (st := s_check_places) lx17 cx17 kx17
  have HCP : GCkp l.prog w K mg base := gd_pos Fx17 q_check_places (fun _ _ _ _ _ _ us hl => match us, hl with | [_], _ => rfl) (fun ds M R h => by obtain ⟨d, ps, rfl, _⟩ := h <;> rfl) (b_check_places B L6 GA) (PySem.W.mg_of X G ax17)
  have Fx18 := fd_mk (st := s_check_arity) lx18 cx18 kx18
  have HCA : GCka l.prog w K mg base := gd_pos Fx18 q_check_arity (fun _ _ _ _ _ _ us hl => match us, hl with | [_], _ => rfl) (fun ds M R h => by obtain ⟨kn, rfl, _⟩ := h <;> rfl) (b_check_arity GB3) (PySem.W.mg_of X G ax18)
  have Fx19 := fd_mk (st := s_split_number) lx19 cx19 kx19
  have HSP : GSpn l.prog w K mg base := gd_pos Fx19 q_split_number (fun _ _ _ _ _ _ us hl => match us, hl with | [_, _], _ => rfl) (fun ds M R h => by obtain ⟨n, kn, rfl, _⟩ := h <;> rfl) (b_split_number (k := 0)) (PySem.W.mg_of X G ax19)
  have Fx20 := fd_mk (st := s_power_of) lx20 cx20 kx20
  have HPW : GPwr l.prog w K mg base := gd_pos Fx20 q_power_of (fun _ _ _ _ _ _ us hl => match us, hl with | [_, _], _ => rfl) (fun ds M R h => by obtain ⟨kn, e, rfl, _⟩ := h <;> rfl) (b_power_of (k := 0) B) (PySem.W.mg_of X G ax20)
  have Fx21 := fd_mk (st := s_first_places) lx21 cx21 kx21
  have HFP : GFpl l.prog w K mg base C := gd_pos Fx21 q_first_places (fun _ _ _ _ _ _ us hl => match us, hl with | [_, _], _ => rfl) (fun ds M R h => by obtain ⟨S, c, rfl, _⟩ := h <;> rfl) (b_first_places B T SM PA HSP) (PySem.W.mg_of X G ax21)
  have Fx22 := fd_mk (st := s_places_in) lx22 cx22 kx22
  have HPI : GPin6 l.prog w K mg base := gd_pos Fx22 q_places_in (fun _ _ _ _ _ _ us hl => match us, hl with | [_], _ => rfl) (fun ds M R h => by obtain ⟨d, vs, rfl, _⟩ := h <;> rfl) (b_places_in (k := 0) B) (PySem.W.mg_of X G ax22)
  have Fx23 := fd_mk (st := s_rest_of) lx23 cx23 kx23
  have HRO : GRof l.prog w K mg base := gd_pos Fx23 q_rest_of (fun _ _ _ _ _ _ us hl => match us, hl with | [_, _], _ => rfl) (fun ds M R h => by obtain ⟨d, vs, ps, rfl, _⟩ := h <;> rfl) (b_rest_of (k := 0) B) (PySem.W.mg_of X G ax23)
  have Fx24 := fd_mk (st := s_bounds_of) lx24 cx24 kx24
  have HBO : GBof l.prog w K mg base := gd_pos Fx24 q_bounds_of (fun _ _ _ _ _ _ us hl => match us, hl with | [_, _], _ => rfl) (fun ds M R h => by obtain ⟨ps, r, rfl, _⟩ := h <;> rfl) (b_bounds_of (k := 0) B (PySem.W.mg_none_of X G z12)) (PySem.W.mg_of X G ax24)
  have Fx25 := fd_mk (st := s_plain_numbers) lx25 cx25 kx25
  have HPN : GPln l.prog w K mg base := gd_pos Fx25 q_plain_numbers (fun _ _ _ _ _ _ us hl => match us, hl with | [_, _], _ => rfl) (fun ds M R h => by obtain ⟨bs, kn, rfl, _⟩ := h <;> rfl) (b_plain_numbers B HSP) (PySem.W.mg_of X G ax25)
  have Fx26 := fd_mk (st := s_relaxed) lx26 cx26 kx26
  have HRL : GRlx l.prog w K mg base := gd_pos Fx26 q_relaxed (fun _ _ _ _ _ _ us hl => match us, hl with | [_, _, _], _ => rfl) (fun ds M R h => by obtain ⟨p, q, g, l, h, M0, rfl, _⟩ := h <;> rfl) (b_relaxed (k := 0) B L6 (PySem.W.mg_none_of X G z12)) (PySem.W.mg_of X G ax26)
  have Fx27 := fd_mk (st := s_is_item_name) lx27 cx27 kx27
  have HII : GIin l.prog w K mg base := gd_pos Fx27 q_is_item_name (fun _ _ _ _ _ _ us hl => match us, hl with | [_], _ => rfl) (fun ds M R h => by obtain ⟨x, b, n, rfl, _⟩ := h <;> rfl) (b_is_item_name (k := 0) B (PySem.W.mg_none_of X G z13) IX) (PySem.W.mg_of X G ax27)
  have Fx28 := fd_mk (st := s_each_conflict) lx28 cx28 kx28
  have HEC : GEcf l.prog w K mg base := ⟨⟨fx28, gnx_kw (n := 2) (ks := []) Fx28 q_each_conflict (fun _ _ _ _ _ _ us ws h1 h2 => match us, ws, h1, h2 with | [_, _], [], _, _ => rfl) (fun ds x h => by obtain ⟨bs, kn, rfl, _⟩ := h; rfl) (b_each_conflict B L6 HSP HPN), (PySem.W.mg_of X G ax28), kx28⟩⟩
  have FXCP : FtX K CP := ⟨⟨pgCP, hdCP, poCP, saCP⟩, nCP0, nCP1, nCP2, nCP3⟩
  have ZCP : FtC K mg CP "PlaceFit" := ⟨PySem.W.mg_of X G aCP, ⟨rCP, gCP⟩, ⟨_, vpCP, ⟨_, rfl⟩⟩, ⟨_, vvCP, ⟨_, rfl⟩⟩⟩
  have FXCV : FtX K CV := ⟨⟨pgCV, hdCV, poCV, saCV⟩, nCV0, nCV1, nCV2, nCV3⟩
  have ZCV : FtC K mg CV "ValueFit" := ⟨PySem.W.mg_of X G aCV, ⟨rCV, gCV⟩, ⟨_, vpCV, ⟨_, rfl⟩⟩, ⟨_, vvCV, ⟨_, rfl⟩⟩⟩
  have Fx29 := fd_mk (st := c_PlaceFit_prepare) lx29 cx29 kx29
  have YXPCP : FX l.prog w K mg base 7 fx29 fun ds _ => aPrp CP ds := fnx_pos' Fx29 q_PlaceFit_prepare (fun _ _ _ _ _ _ us hl => match us, hl with | [_, _, _, _], _ => rfl) (fun ds M R h => by obtain ⟨p, ps, kn, r, M0, rfl, _⟩ := h; rfl) (b_prepare FXCP HBO HEC)
  have XPCP : MtF l.prog w K mg base CP "prepare" 7 (aPrp CP) := ⟨⟨fx29, ⟨ax29, ix29, kx29⟩, YXPCP⟩⟩
  have YXPCV : FX l.prog w K mg base 7 fx29 fun ds _ => aPrp CV ds := fnx_pos' Fx29 q_PlaceFit_prepare (fun _ _ _ _ _ _ us hl => match us, hl with | [_, _, _, _], _ => rfl) (fun ds M R h => by obtain ⟨p, ps, kn, r, M0, rfl, _⟩ := h; rfl) (b_prepare FXCV HBO HEC)
  have XPCV : MtF l.prog w K mg base CV "prepare" 7 (aPrp CV) := ⟨⟨fx29, ⟨ax29CV, ix29, kx29⟩, YXPCV⟩⟩
  have XECP : MtE l.prog w K mg base CP 7 "prepare" [] (fun ds _ => aPrpE CP EConflict ds) := ⟨fx29, ⟨ax29, ix29, kx29⟩, fne_pos Fx29 q_PlaceFit_prepare (fun _ _ _ _ _ _ us hl => match us, hl with | [_, _, _, _], _ => rfl) (fun ds M R PE h => by obtain ⟨p, ps, kn, r, M0, rfl, _⟩ := h; rfl) (e_prepare FXCP HBO HEC XKConflict)⟩
  have XECV : MtE l.prog w K mg base CV 7 "prepare" [] (fun ds _ => aPrpE CV EConflict ds) := ⟨fx29, ⟨ax29CV, ix29, kx29⟩, fne_pos Fx29 q_PlaceFit_prepare (fun _ _ _ _ _ _ us hl => match us, hl with | [_, _, _, _], _ => rfl) (fun ds M R PE h => by obtain ⟨p, ps, kn, r, M0, rfl, _⟩ := h; rfl) (e_prepare FXCV HBO HEC XKConflict)⟩
  have Fx30 := fd_mk (st := c_PlaceFit___init__) lx30 cx30 kx30
  have YIP : FX l.prog w K mg base 8 fx30 fun ds _ => aPfi CP ds := fnx_pos' Fx30 q_PlaceFit___init__ (fun _ _ _ _ _ _ us hl => match us, hl with | [_, _, _], _ => rfl) (fun ds M R h => by obtain ⟨p, d, ps, kn, M0, rfl, _⟩ := h; rfl) (b_pfit B FXCP HCP HCA XPCP)
  have IP : MkF l.prog w K mg base CP (aPfi CP) := ⟨⟨fx30, ⟨mkCP, ax30, ix30, kcCP⟩, YIP⟩⟩
  have IPE : MkFE l.prog w K mg base CP (aPfiE CP EConflict) := ⟨⟨fx30, ⟨mkCP, ax30, ix30, kcCP⟩, fne_pos Fx30 q_PlaceFit___init__ (fun _ _ _ _ _ _ us hl => match us, hl with | [_, _, _], _ => rfl) (fun ds M R PE h => by obtain ⟨p, d, ps, kn, M0, rfl, _⟩ := h; rfl) (e_pfit B FXCP HCP HCA XECP)⟩⟩
  have Fx31 := fd_mk (st := c_ValueFit___init__) lx31 cx31 kx31
  have IVE : MkFE l.prog w K mg base CV (aVfiE CV EConflict) := ⟨⟨fx31, ⟨mkCV, ax31, ix31, kcCV⟩, fne_pos Fx31 q_ValueFit___init__ (fun _ _ _ _ _ _ us hl => match us, hl with | [_, _, _], _ => rfl) (fun ds M R PE h => by obtain ⟨p, d, vs, kn, M0, rfl, _⟩ := h; rfl) (e_vfit FXCV HCV HCA HPI HRO XECV)⟩⟩
  have Fx32 := fd_mk (st := c_PlaceFit_of) lx32 cx32 kx32
  have YOCP : FX l.prog w K mg base 10 fx32 fun ds _ => aOfP C CP ds := fnx_pos' Fx32 q_PlaceFit_of (fun _ _ _ _ _ _ us hl => match us, hl with | [_, _, _], _ => rfl) (fun ds M R h => by obtain ⟨S, c, rfl, _⟩ := h; rfl) (b_ofP B T IS PA ZCP GB3 HFP IP)
  have XOCP : OfX l.prog w K mg base CP (aOfP C CP) := ⟨⟨pCx32, fx32, ⟨ax32, ⟨_, bx32⟩, nx32⟩, YOCP⟩⟩
  have Fx33 := fd_mk (st := c_PlaceFit_fits) lx33 cx33 kx33
  have YFCV : FX l.prog w K mg base 6 fx33 fun ds _ => aFit K C CV ds := fnx_pos' Fx33 q_PlaceFit_fits (fun _ _ _ _ _ _ us hl => match us, hl with | [_, _], _ => rfl) (fun ds M R h => by obtain ⟨ps, kn, r, d, rfl, _⟩ := h; rfl) (b_fits B T IS PA FXCV HFP)
  have SUPF : Sup K l.prog fx34 cdax34 ccx34 CV CV fx33 "fits" := ⟨⟨_, _, _, _, _, lx34, rfl, rfl⟩, ⟨_, _, _, _, _, _, dx34, vx34, wx34⟩, ⟨_, _, _, ex34⟩, ⟨_, cdCV⟩, sbCV, supt, supo, sux34fits, tyx34fits, fix34fits⟩
  have XFCV : MtF l.prog w K mg base CV "fits" 7 (aFiv K C CV) := ⟨⟨fx34, ⟨ax34, ix34, kx34⟩, fnx_sup (F := nfF c_ValueFit_fits "fits" "ValueFit.fits" ccx34 cdax34) rfl lx34 cx34 ex34 q_ValueFit_fits (fun us hl => match us, hl with | [_, _], _ => rfl) (fun ds M R h => by obtain ⟨ps, kn, r, d, rfl, _⟩ := h; rfl) (z_vfits B (PySem.W.mg_none_of X G z14) FXCV HFP SUPF YFCV)⟩⟩
  have Fx35 := fd_mk (st := c_PlaceFit_limits) lx35 cx35 kx35
  have YXLCP : FX l.prog w K mg base 3 fx35 fun ds _ => aLmt CP ds := fnx_pos' Fx35 q_PlaceFit_limits (fun _ _ _ _ _ _ us hl => match us, hl with | [_, _], _ => rfl) (fun ds M R h => by obtain ⟨ps, kn, r, g, i, rfl, _⟩ := h; rfl) (b_limits B L6 L7 FXCP HSP)
  have XLCP : MtF l.prog w K mg base CP "limits" 3 (aLmt CP) := ⟨⟨fx35, ⟨ax35, ix35, kx35⟩, YXLCP⟩⟩
  have YXLCV : FX l.prog w K mg base 3 fx35 fun ds _ => aLmt CV ds := fnx_pos' Fx35 q_PlaceFit_limits (fun _ _ _ _ _ _ us hl => match us, hl with | [_, _], _ => rfl) (fun ds M R h => by obtain ⟨ps, kn, r, g, i, rfl, _⟩ := h; rfl) (b_limits B L6 L7 FXCV HSP)
  have XLCV : MtF l.prog w K mg base CV "limits" 3 (aLmt CV) := ⟨⟨fx35, ⟨ax35CV, ix35, kx35⟩, YXLCV⟩⟩
  have Fx36 := fd_mk (st := c_PlaceFit_known_frequency) lx36 cx36 kx36
  have YXK_CP : FX l.prog w K mg base 2 fx36 fun ds _ => aKnf CP ds := fnx_pos' Fx36 q_PlaceFit_known_frequency (fun _ _ _ _ _ _ us hl => match us, hl with | [_, _], _ => rfl) (fun ds M R h => by obtain ⟨ps, kn, r, e, rfl, _⟩ := h; rfl) (b_knf B FXCP HPW)
  have XK_CP : MtF l.prog w K mg base CP "known_frequency" 2 (aKnf CP) := ⟨⟨fx36, ⟨ax36, ix36, kx36⟩, YXK_CP⟩⟩
  have YXK_CV : FX l.prog w K mg base 2 fx36 fun ds _ => aKnf CV ds := fnx_pos' Fx36 q_PlaceFit_known_frequency (fun _ _ _ _ _ _ us hl => match us, hl with | [_, _], _ => rfl) (fun ds M R h => by obtain ⟨ps, kn, r, e, rfl, _⟩ := h; rfl) (b_knf B FXCV HPW)
  have XK_CV : MtF l.prog w K mg base CV "known_frequency" 2 (aKnf CV) := ⟨⟨fx36, ⟨ax36CV, ix36, kx36⟩, YXK_CV⟩⟩
  have Fx37 := fd_mk (st := c_PlaceFit_range_of) lx37 cx37 kx37
  have YXRCP : FX l.prog w K mg base 4 fx37 fun ds _ => aRng CP ds := fnx_pos' Fx37 q_PlaceFit_range_of (fun _ _ _ _ _ _ us hl => match us, hl with | [_, _], _ => rfl) (fun ds M R h => by obtain ⟨ps, kn, r, x, n, rfl, _⟩ := h; rfl) (b_range_of B L6 IX FXCP HII HRL XLCP XK_CP)
  have XRCP : MtF l.prog w K mg base CP "range_of" 4 (aRng CP) := ⟨⟨fx37, ⟨ax37, ix37, kx37⟩, YXRCP⟩⟩
  have YXRCV : FX l.prog w K mg base 4 fx37 fun ds _ => aRng CV ds := fnx_pos' Fx37 q_PlaceFit_range_of (fun _ _ _ _ _ _ us hl => match us, hl with | [_, _], _ => rfl) (fun ds M R h => by obtain ⟨ps, kn, r, x, n, rfl, _⟩ := h; rfl) (b_range_of B L6 IX FXCV HII HRL XLCV XK_CV)
  have XRCV : MtF l.prog w K mg base CV "range_of" 4 (aRng CV) := ⟨⟨fx37, ⟨ax37CV, ix37, kx37⟩, YXRCV⟩⟩
  have Fx38 := fd_mk (st := c_PlaceFit_spine_item) lx38 cx38 kx38
  have YXSCP : FX l.prog w K mg base 3 fx38 fun ds _ => aSpi6 CP ds := fnx_pos' Fx38 q_PlaceFit_spine_item (fun _ _ _ _ _ _ us hl => match us, hl with | [_, _, _], _ => rfl) (fun ds M R h => by obtain ⟨ps, kn, r, e, i, p, W, rfl, _⟩ := h; rfl) (b_spine_item B FXCP HPW XK_CP)
  have XSCP : MtF l.prog w K mg base CP "spine_item" 3 (aSpi6 CP) := ⟨⟨fx38, ⟨ax38, ix38, kx38⟩, YXSCP⟩⟩
  have YXSCV : FX l.prog w K mg base 3 fx38 fun ds _ => aSpi6 CV ds := fnx_pos' Fx38 q_PlaceFit_spine_item (fun _ _ _ _ _ _ us hl => match us, hl with | [_, _, _], _ => rfl) (fun ds M R h => by obtain ⟨ps, kn, r, e, i, p, W, rfl, _⟩ := h; rfl) (b_spine_item B FXCV HPW XK_CV)
  have XSCV : MtF l.prog w K mg base CV "spine_item" 3 (aSpi6 CV) := ⟨⟨fx38, ⟨ax38CV, ix38, kx38⟩, YXSCV⟩⟩
  have Fx39 := fd_mk (st := c_PlaceFit_completed) lx39 cx39 kx39
  have XCCP : MtF l.prog w K mg base CP "completed" 6 (aCm0 C CP) := ⟨⟨fx39, ⟨ax39, ix39, kx39⟩, (fnx_kwd0 (ps := ["self"]) (pd := "items") (ks := []) Fx39 q_PlaceFit_completed 1 rfl (fun kV doc pm an cdv ct us ws h1 h2 => match us, ws, h1, h2 with | [_], [], _, _ => rfl) (b_completed B L6 (PySem.W.mg_none_of X G z12) FXCP T MK HRL XRCP XLCP XSCP)).impL fun ds es M R he h => aCm0.cmp he h⟩⟩
  have XCCV : MtF l.prog w K mg base CV "completed" 6 (aCm0 C CV) := ⟨⟨fx39, ⟨ax39CV, ix39, kx39⟩, (fnx_kwd0 (ps := ["self"]) (pd := "items") (ks := []) Fx39 q_PlaceFit_completed 1 rfl (fun kV doc pm an cdv ct us ws h1 h2 => match us, ws, h1, h2 with | [_], [], _, _ => rfl) (b_completed B L6 (PySem.W.mg_none_of X G z12) FXCV T MK HRL XRCV XLCV XSCV)).impL fun ds es M R he h => aCm0.cmp he h⟩⟩
  have Fx40 := fd_mk (st := s__law_begun) lx40 cx40 kx40
  have GBg : GBg6 l.prog w K mg base := gd_pos Fx40 q__law_begun (fun _ _ _ _ _ _ us hl => match us, hl with | [_], _ => rfl) (fun ds M R h => by obtain ⟨ns, rfl, _⟩ := h <;> rfl) (b__law_begun6 (k := 0) B) (PySem.W.mg_of X G ax40)
  have Fx41 := fd_mk (st := s__law_draw) lx41 cx41 kx41
  have GDr : GDr6 l.prog w K mg base := gd_pos Fx41 q__law_draw (fun _ _ _ _ _ _ us hl => match us, hl with | [_, _], _ => rfl) (fun ds M R h => by obtain ⟨p, i, N, n, rfl, _⟩ := h <;> rfl) (b__law_draw6 (k := 0) B) (PySem.W.mg_of X G ax41)
  have Fx42 := fd_mk (st := s__law_of) lx42 cx42 kx42
  have GO : GOf6 l.prog w K mg base := gd_pos Fx42 q__law_of (fun _ _ _ _ _ _ us hl => match us, hl with | [_, _], _ => rfl) (fun ds M R h => by obtain ⟨p, i, N, xs, rfl, _⟩ := h <;> rfl) (b__law_of6 B GDr) (PySem.W.mg_of X G ax42)
  have Fx43 := fd_mk (st := s__law_stream) lx43 cx43 kx43
  have GSr : GSr6 l.prog w K mg base := gd_pos Fx43 q__law_stream (fun _ _ _ _ _ _ us hl => match us, hl with | [_, _], _ => rfl) (fun ds M R h => by obtain ⟨p, i, N, lo, rfl, _⟩ := h <;> rfl) (b__law_stream6 B GDr GO) (PySem.W.mg_of X G ax43)
  have Fx44 := fd_mk (st := s__law_item) lx44 cx44 kx44
  have GIt : GLit l.prog w K mg base := gd_pos Fx44 q__law_item (fun _ _ _ _ _ _ us hl => match us, hl with | [_, _], _ => rfl) (fun ds M R h => by obtain ⟨s, i, rfl, _⟩ := h <;> rfl) (b__law_itemS (k := 0) B) (PySem.W.mg_of X G ax44)
  have Fx45 := fd_mk (st := s__law_place) lx45 cx45 kx45
  have GPl : GLpW l.prog w K mg base := gd_pos Fx45 q__law_place (fun _ _ _ _ _ _ us hl => match us, hl with | [_, _, _, _], _ => rfl) (fun ds M R h => by obtain ⟨kn, s, l, b, rfl, _⟩ := h <;> rfl) (b__law_placeW GIt) (PySem.W.mg_of X G ax45)
  have Fx46 := fd_mk (st := s__law_seen) lx46 cx46 kx46
  have GSe : GSeW l.prog w K mg base := gd_pos Fx46 q__law_seen (fun _ _ _ _ _ _ us hl => match us, hl with | [_, _, _, _], _ => rfl) (fun ds M R h => by obtain ⟨kn, s, l, c, rfl, _⟩ := h <;> rfl) (b__law_seenW B GPl) (PySem.W.mg_of X G ax46)
  have Fx47 := fd_mk (st := s__law_known) lx47 cx47 kx47
  have GKw : GKw6 l.prog w K mg base := gd_pos Fx47 q__law_known (fun _ _ _ _ _ _ us hl => match us, hl with | [_], _ => rfl) (fun ds M R h => by obtain ⟨vs, rfl, _⟩ := h <;> rfl) (b__law_known (k := 0) B) (PySem.W.mg_of X G ax47)
  have Fx48 := fd_mk (st := s__law_split) lx48 cx48 kx48
  have GSp : GSp6 l.prog w K mg base := gd_pos Fx48 q__law_split (fun _ _ _ _ _ _ us hl => match us, hl with | [_, _], _ => rfl) (fun ds M R h => by obtain ⟨n, kn, rfl, _⟩ := h <;> rfl) (b__law_split (k := 0)) (PySem.W.mg_of X G ax48)
  have Fx49 := fd_mk (st := s__law_bounds) lx49 cx49 kx49
  have GBn : GBn6 l.prog w K mg base := gd_pos Fx49 q__law_bounds (fun _ _ _ _ _ _ us hl => match us, hl with | [_, _], _ => rfl) (fun ds M R h => by obtain ⟨ps, r, rfl, _⟩ := h <;> rfl) (b__law_bounds (k := 0) B) (PySem.W.mg_of X G ax49)
  have Fx50 := fd_mk (st := s__law_conflicts) lx50 cx50 kx50
  have GCf : GCf6 l.prog w K mg base := gd_pos Fx50 q__law_conflicts (fun _ _ _ _ _ _ us hl => match us, hl with | [_, _], _ => rfl) (fun ds M R h => by obtain ⟨bs, kn, rfl, _⟩ := h <;> rfl) (b__law_conflicts B GSp) (PySem.W.mg_of X G ax50)
  have Fx51 := fd_mk (st := s__law_random) lx51 cx51 kx51
  have GRd : GRd6 l.prog w K mg base := gd_pos Fx51 q__law_random (fun _ _ _ _ _ _ us hl => match us, hl with | [_, _, _], _ => rfl) (fun ds M R h => by obtain ⟨p, i, N, kn, rfl, _⟩ := h <;> rfl) (b__law_random B GDr GSr GSe) (PySem.W.mg_of X G ax51)
  have Fx52 := fd_mk (st := s__law_made) lx52 cx52 kx52
  have LMd : LMd6 l.prog w K mg base EConflict := LGd.mono (k := 1) ⟨⟨fx52, "_law_made", _, _, _, n__law_made, "_law_call", _, Fx52, q__law_made, .inl rfl, rfl, fun kV doc pm an cdv ct u => rfl, rfl, rfl, (PySem.W.mg_of X G ax52), kx52, b__law_made (PySem.W.mg_of X G aEConflict) (PySem.W.exm_ref xEConflict hEConflict tEConflict zcc)⟩⟩ (by decide)
  have Fx53 := fd_mk (st := s__law_items) lx53 cx53 kx53
  have GIs : GIt6 l.prog w K mg base C := gd_pos Fx53 q__law_items (fun _ _ _ _ _ _ us hl => match us, hl with | [_], _ => rfl) (fun ds M R h => by obtain ⟨S, rfl, _⟩ := h <;> rfl) (b__law_items B T SM) (PySem.W.mg_of X G ax53)
  have Fx54 := fd_mk (st := s__law_ends) lx54 cx54 kx54
  have GEn : GEn6 l.prog w K mg base C := gd_pos Fx54 q__law_ends (fun _ _ _ _ _ _ us hl => match us, hl with | [_], _ => rfl) (fun ds M R h => by obtain ⟨S, rfl, _⟩ := h <;> rfl) (b__law_ends B T SM) (PySem.W.mg_of X G ax54)
  have GRt : Gd l.prog w K mg base 13 "_law_right" [] fun ds _ => aRt6 Ptx55 ds := ⟨⟨fx55, fnx_posT lx55 cx55 q__law_right (fun us hl => match us, hl with | [_, _, _], _ => rfl) (fun ds M R h => by obtain ⟨p, i, N, kn, j, vs, rfl, _⟩ := h; rfl) (b__law_right B T SM GO GSr GPl GSe GKw GBn GCf LMd GIs GEn FXCV ZCV IVE XCCV XFCV FXCP ZCP IPE XCCP TBx55), (PySem.W.mg_of X G ax55), kx55⟩⟩
  have Fx56 := fd_mk (st := s__law_many_right) lx56 cx56 kx56
  have GMy : GMy6 l.prog w K mg base := gd_pos Fx56 q__law_many_right (fun _ _ _ _ _ _ us hl => match us, hl with | [_, _], _ => rfl) (fun ds M R h => by obtain ⟨s, l, rfl, _⟩ := h <;> rfl) (b__law_many_right B T MK GPl GIs FXCP ZCP XOCP XCCP XRCP) (PySem.W.mg_of X G ax56)
  have Fx57 := fd_mk (st := s_law) lx57 cx57 kx57
  have e := hfa.symm.trans (PySem.W.mg_of X G ax57)
  cases e
  exact fnx_pos' (s0 := aLawN Ptx55) Fx57 q_law (fun _ _ _ _ _ _ us hl => match us, hl with | [_], _ => rfl) (fun ds M R h => by obtain ⟨ns, rfl, _⟩ := h; rfl) (b_law B GBg GDr GSr GRd GRt GMy)
end K43
/-! Ab113: the head by one kernel run, where tables of code objects are looked at as well -/
open PySem PySem.W PyProof.Rows in
set_option maxHeartbeats 0 in
theorem PySem.Challenge.cw_nestcount_k43_whole_no_conflict_no_obsta_holds : PySem.Challenge.rw_nestcount_k43_whole_no_conflict_no_obsta.Holds := by
  refine HD43 ?_
  k_fill
  refine Ab.walk_xT (l := PySem.Challenge.rw_nestcount_k43_whole_no_conflict_no_obsta) (k := 14) rfl rfl ⟨rfl, by decide, by decide⟩ (fun w h Y => PySem.W.km_in_of Y) ["_law_right"] (by kernel_rfl) ?F
  case F =>
    intro w mg fa h KX G hmg own
    refine' K43.allX KX G hmg own ?u0 ?u1 ?u2 ?u3 ?aC ?pgC ?hdC ?poC ?saC ?mkC ?kcC ?nC0 ?nC1 ?nC2 ?e1C ?e2C ?e3C ?e4C ?e6C ?e7C ?ax1 ?lx1 ?cx1 ?kx1 ?d1 ?d2 ?ax2 ?lx2 ?cx2 ?kx2 ?dx2 ?ax3 ?lx3 ?cx3 ?kx3 ?ax4 ?lx4 ?cx4 ?kx4 ?ax5 ?lx5 ?cx5 ?kx5 ?ax6 ?lx6 ?cx6 ?kx6 ?rd ?ga ?ax7 ?bx7 ?lx7 ?cx7 ?kx7 ?ax8 ?ix8 ?lx8 ?cx8 ?kx8 ?ax9 ?ix9 ?lx9 ?cx9 ?kx9 ?ax10 ?ix10 ?lx10 ?cx10 ?kx10 ?ax11 ?ix11 ?lx11 ?cx11 ?kx11 ?ax12 ?gx12 ?tx12 ?bx12 ?lx12 ?cx12 ?kx12 ?ax13 ?gx13 ?tx13 ?bx13 ?lx13 ?cx13 ?kx13 ?ax14 ?gx14 ?tx14 ?bx14 ?lx14 ?cx14 ?kx14 ?aBStateError ?rBStateError ?gBStateError ?vBStateError ?sBStateError ?hBStateError ?tBStateError ?xo1 ?xo2 ?aEConflict ?iEConflict ?oEConflict ?hEConflict ?sEConflict ?xEConflict ?tEConflict ?kEConflict ?nEConflict ?gEConflict ?qEConflict ?cEConflict ?mEConflict ?ax15 ?ix15 ?lx15 ?cx15 ?kx15 ?tyEConflict ?n2EConflict ?u4 ?u5 ?u6 ?ixg ?ixl ?ixd ?ax16 ?lx16 ?cx16 ?kx16 ?ax17 ?lx17 ?cx17 ?kx17 ?ax18 ?lx18 ?cx18 ?kx18 ?ax19 ?lx19 ?cx19 ?kx19 ?ax20 ?lx20 ?cx20 ?kx20 ?ax21 ?lx21 ?cx21 ?kx21 ?ax22 ?lx22 ?cx22 ?kx22 ?ax23 ?lx23 ?cx23 ?kx23 ?ax24 ?lx24 ?cx24 ?kx24 ?ax25 ?lx25 ?cx25 ?kx25 ?ax26 ?lx26 ?cx26 ?kx26 ?ax27 ?lx27 ?cx27 ?kx27 ?ax28 ?lx28 ?cx28 ?kx28 ?aCP ?pgCP ?hdCP ?poCP ?saCP ?mkCP ?kcCP ?nCP0 ?nCP1 ?nCP2 ?nCP3 ?e1CP ?e2CP ?e3CP ?e4CP ?rCP ?gCP ?vpCP ?vvCP ?aCV ?pgCV ?hdCV ?poCV ?saCV ?mkCV ?kcCV ?nCV0 ?nCV1 ?nCV2 ?nCV3 ?e1CV ?e2CV ?e3CV ?e4CV ?rCV ?gCV ?vpCV ?vvCV ?ax29 ?ix29 ?lx29 ?cx29 ?kx29 ?ax29CV ?ax30 ?ix30 ?lx30 ?cx30 ?kx30 ?ax31 ?ix31 ?lx31 ?cx31 ?kx31 ?ax32 ?bx32 ?lx32 ?cx32 ?kx32 ?nx32 ?ax33 ?ix33 ?lx33 ?cx33 ?kx33 ?ax34 ?ix34 ?lx34 ?cx34 ?kx34 ?ex34 ?dx34 ?vx34 ?wx34 ?supt ?supo ?cdCV ?sbCV ?sux34fits ?tyx34fits ?fix34fits ?ax35 ?ix35 ?lx35 ?cx35 ?kx35 ?ax35CV ?ax36 ?ix36 ?lx36 ?cx36 ?kx36 ?ax36CV ?ax37 ?ix37 ?lx37 ?cx37 ?kx37 ?ax37CV ?ax38 ?ix38 ?lx38 ?cx38 ?kx38 ?ax38CV ?ax39 ?ix39 ?lx39 ?cx39 ?kx39 ?ax39CV ?ax40 ?lx40 ?cx40 ?kx40 ?ax41 ?lx41 ?cx41 ?kx41 ?ax42 ?lx42 ?cx42 ?kx42 ?ax43 ?lx43 ?cx43 ?kx43 ?ax44 ?lx44 ?cx44 ?kx44 ?ax45 ?lx45 ?cx45 ?kx45 ?ax46 ?lx46 ?cx46 ?kx46 ?ax47 ?lx47 ?cx47 ?kx47 ?ax48 ?lx48 ?cx48 ?kx48 ?ax49 ?lx49 ?cx49 ?kx49 ?ax50 ?lx50 ?cx50 ?kx50 ?ax51 ?lx51 ?cx51 ?kx51 ?zcc ?ax52 ?lx52 ?cx52 ?kx52 ?ax53 ?lx53 ?cx53 ?kx53 ?ax54 ?lx54 ?cx54 ?kx54 ?ax55 ?lx55 ?cx55 ?kx55 ?dx55 ?vx55 ?npx55 ?chx55 ?ax56 ?lx56 ?cx56 ?kx56 ?ax57 ?lx57 ?cx57 ?kx57 ?z0 ?z1 ?z2 ?z3 ?z4 ?z5 ?z6 ?z7 ?z8 ?z9 ?z10 ?z11 ?z12 ?z13 ?z14 ?y1 ?y2
    (case u0 => k_is)
    (case u1 => k_is)
    (case u2 => k_is)
    (case u3 => k_is)
    (case aC => k_is)
    (case pgC => k_is)
    (case hdC => k_is)
    (case poC => k_is)
    (case saC => k_is)
    (case mkC => k_is)
    (case kcC => k_is)
    (case nC0 => k_is)
    (case nC1 => k_is)
    (case nC2 => k_is)
    (case e1C => k_is)
    (case e2C => k_is)
    (case e3C => k_is)
    (case e4C => k_is)
    (case e6C => k_is)
    (case e7C => k_is)
    (case ax1 => k_is)
    (case lx1 => k_is)
    (case cx1 => k_is)
    (case kx1 => k_is)
    (case d1 => k_is)
    (case d2 => k_is)
    (case ax2 => k_is)
    (case lx2 => k_is)
    (case cx2 => k_is)
    (case kx2 => k_is)
    (case dx2 => k_is)
    (case ax3 => k_is)
    (case lx3 => k_is)
    (case cx3 => k_is)
    (case kx3 => k_is)
    (case ax4 => k_is)
    (case lx4 => k_is)
    (case cx4 => k_is)
    (case kx4 => k_is)
    (case ax5 => k_is)
    (case lx5 => k_is)
    (case cx5 => k_is)
    (case kx5 => k_is)
    (case ax6 => k_is)
    (case lx6 => k_is)
    (case cx6 => k_is)
    (case kx6 => k_is)
    (case rd => k_is)
    (case ga => k_is)
    (case ax7 => k_is)
    (case bx7 => k_is)
    (case lx7 => k_is)
    (case cx7 => k_is)
    (case kx7 => k_is)
    (case ax8 => k_is)
    (case ix8 => k_is)
    (case lx8 => k_is)
    (case cx8 => k_is)
    (case kx8 => k_is)
    (case ax9 => k_is)
    (case ix9 => k_is)
    (case lx9 => k_is)
    (case cx9 => k_is)
    (case kx9 => k_is)
    (case ax10 => k_is)
    (case ix10 => k_is)
    (case lx10 => k_is)
    (case cx10 => k_is)
    (case kx10 => k_is)
    (case ax11 => k_is)
    (case ix11 => k_is)
    (case lx11 => k_is)
    (case cx11 => k_is)
    (case kx11 => k_is)
    (case ax12 => k_is)
    (case gx12 => k_is)
    (case tx12 => k_is)
    (case bx12 => k_is)
    (case lx12 => k_is)
    (case cx12 => k_is)
    (case kx12 => k_is)
    (case ax13 => k_is)
    (case gx13 => k_is)
    (case tx13 => k_is)
    (case bx13 => k_is)
    (case lx13 => k_is)
    (case cx13 => k_is)
    (case kx13 => k_is)
    (case ax14 => k_is)
    (case gx14 => k_is)
    (case tx14 => k_is)
    (case bx14 => k_is)
    (case lx14 => k_is)
    (case cx14 => k_is)
    (case kx14 => k_is)
    (case aBStateError => k_is)
    (case rBStateError => k_is)
    (case gBStateError => k_is)
    (case vBStateError => k_is)
    (case sBStateError => k_is)
    (case hBStateError => k_is)
    (case tBStateError => k_is)
    (case xo1 => k_is)
    (case xo2 => k_is)
    (case aEConflict => k_is)
    (case iEConflict => kx_is)
    (case oEConflict => kx_is)
    (case hEConflict => k_is)
    (case sEConflict => k_is)
    (case xEConflict => k_is)
    (case tEConflict => k_is)
    (case kEConflict => k_is)
    (case nEConflict => k_is)
    (case gEConflict => k_is)
    (case qEConflict => k_is)
    (case cEConflict => k_is)
    (case mEConflict => k_is)
    (case ax15 => k_is)
    (case ix15 => k_is)
    (case lx15 => k_is)
    (case cx15 => k_is)
    (case kx15 => k_is)
    (case tyEConflict => k_is)
    (case n2EConflict => k_is)
    (case u4 => k_is)
    (case u5 => k_is)
    (case u6 => k_is)
    (case ixg => k_is)
    (case ixl => k_is)
    (case ixd => exact rfl)
    (case ax16 => k_is)
    (case lx16 => k_is)
    (case cx16 => k_is)
    (case kx16 => k_is)
    (case ax17 => k_is)
    (case lx17 => k_is)
    (case cx17 => k_is)
    (case kx17 => k_is)
    (case ax18 => k_is)
    (case lx18 => k_is)
    (case cx18 => k_is)
    (case kx18 => k_is)
    (case ax19 => k_is)
    (case lx19 => k_is)
    (case cx19 => k_is)
    (case kx19 => k_is)
    (case ax20 => k_is)
    (case lx20 => k_is)
    (case cx20 => k_is)
    (case kx20 => k_is)
    (case ax21 => k_is)
    (case lx21 => k_is)
    (case cx21 => k_is)
    (case kx21 => k_is)
    (case ax22 => k_is)
    (case lx22 => k_is)
    (case cx22 => k_is)
    (case kx22 => k_is)
    (case ax23 => k_is)
    (case lx23 => k_is)
    (case cx23 => k_is)
    (case kx23 => k_is)
    (case ax24 => k_is)
    (case lx24 => k_is)
    (case cx24 => k_is)
    (case kx24 => k_is)
    (case ax25 => k_is)
    (case lx25 => k_is)
    (case cx25 => k_is)
    (case kx25 => k_is)
    (case ax26 => k_is)
    (case lx26 => k_is)
    (case cx26 => k_is)
    (case kx26 => k_is)
    (case ax27 => k_is)
    (case lx27 => k_is)
    (case cx27 => k_is)
    (case kx27 => k_is)
    (case ax28 => k_is)
    (case lx28 => k_is)
    (case cx28 => k_is)
    (case kx28 => k_is)
    (case aCP => k_is)
    (case pgCP => k_is)
    (case hdCP => k_is)
    (case poCP => k_is)
    (case saCP => k_is)
    (case mkCP => k_is)
    (case kcCP => k_is)
    (case nCP0 => k_is)
    (case nCP1 => k_is)
    (case nCP2 => k_is)
    (case nCP3 => k_is)
    (case e1CP => k_is)
    (case e2CP => k_is)
    (case e3CP => k_is)
    (case e4CP => k_is)
    (case rCP => k_is)
    (case gCP => k_is)
    (case vpCP => k_is)
    (case vvCP => k_is)
    (case aCV => k_is)
    (case pgCV => k_is)
    (case hdCV => k_is)
    (case poCV => k_is)
    (case saCV => k_is)
    (case mkCV => k_is)
    (case kcCV => k_is)
    (case nCV0 => k_is)
    (case nCV1 => k_is)
    (case nCV2 => k_is)
    (case nCV3 => k_is)
    (case e1CV => k_is)
    (case e2CV => k_is)
    (case e3CV => k_is)
    (case e4CV => k_is)
    (case rCV => k_is)
    (case gCV => k_is)
    (case vpCV => k_is)
    (case vvCV => k_is)
    (case ax29 => k_is)
    (case ix29 => k_is)
    (case lx29 => k_is)
    (case cx29 => k_is)
    (case kx29 => k_is)
    (case ax29CV => k_is)
    (case ax30 => k_is)
    (case ix30 => k_is)
    (case lx30 => k_is)
    (case cx30 => k_is)
    (case kx30 => k_is)
    (case ax31 => k_is)
    (case ix31 => k_is)
    (case lx31 => k_is)
    (case cx31 => k_is)
    (case kx31 => k_is)
    (case ax32 => k_is)
    (case bx32 => k_is)
    (case lx32 => k_is)
    (case cx32 => k_is)
    (case kx32 => k_is)
    (case nx32 => k_is)
    (case ax33 => k_is)
    (case ix33 => k_is)
    (case lx33 => k_is)
    (case cx33 => k_is)
    (case kx33 => k_is)
    (case ax34 => k_is)
    (case ix34 => k_is)
    (case lx34 => k_is)
    (case cx34 => k_is)
    (case kx34 => k_is)
    (case ex34 => k_is)
    (case dx34 => k_is)
    (case vx34 => exact rfl)
    (case wx34 => first | rfl | decide +kernel)
    (case supt => decide +kernel)
    (case supo => k_is)
    (case cdCV => k_is)
    (case sbCV => k_is)
    (case sux34fits => ks_is)
    (case tyx34fits => k_is)
    (case fix34fits => k_is)
    (case ax35 => k_is)
    (case ix35 => k_is)
    (case lx35 => k_is)
    (case cx35 => k_is)
    (case kx35 => k_is)
    (case ax35CV => k_is)
    (case ax36 => k_is)
    (case ix36 => k_is)
    (case lx36 => k_is)
    (case cx36 => k_is)
    (case kx36 => k_is)
    (case ax36CV => k_is)
    (case ax37 => k_is)
    (case ix37 => k_is)
    (case lx37 => k_is)
    (case cx37 => k_is)
    (case kx37 => k_is)
    (case ax37CV => k_is)
    (case ax38 => k_is)
    (case ix38 => k_is)
    (case lx38 => k_is)
    (case cx38 => k_is)
    (case kx38 => k_is)
    (case ax38CV => k_is)
    (case ax39 => k_is)
    (case ix39 => k_is)
    (case lx39 => k_is)
    (case cx39 => k_is)
    (case kx39 => k_is)
    (case ax39CV => k_is)
    (case ax40 => k_is)
    (case lx40 => k_is)
    (case cx40 => k_is)
    (case kx40 => k_is)
    (case ax41 => k_is)
    (case lx41 => k_is)
    (case cx41 => k_is)
    (case kx41 => k_is)
    (case ax42 => k_is)
    (case lx42 => k_is)
    (case cx42 => k_is)
    (case kx42 => k_is)
    (case ax43 => k_is)
    (case lx43 => k_is)
    (case cx43 => k_is)
    (case kx43 => k_is)
    (case ax44 => k_is)
    (case lx44 => k_is)
    (case cx44 => k_is)
    (case kx44 => k_is)
    (case ax45 => k_is)
    (case lx45 => k_is)
    (case cx45 => k_is)
    (case kx45 => k_is)
    (case ax46 => k_is)
    (case lx46 => k_is)
    (case cx46 => k_is)
    (case kx46 => k_is)
    (case ax47 => k_is)
    (case lx47 => k_is)
    (case cx47 => k_is)
    (case kx47 => k_is)
    (case ax48 => k_is)
    (case lx48 => k_is)
    (case cx48 => k_is)
    (case kx48 => k_is)
    (case ax49 => k_is)
    (case lx49 => k_is)
    (case cx49 => k_is)
    (case kx49 => k_is)
    (case ax50 => k_is)
    (case lx50 => k_is)
    (case cx50 => k_is)
    (case kx50 => k_is)
    (case ax51 => k_is)
    (case lx51 => k_is)
    (case cx51 => k_is)
    (case kx51 => k_is)
    (case zcc => k_is)
    (case ax52 => k_is)
    (case lx52 => k_is)
    (case cx52 => k_is)
    (case kx52 => k_is)
    (case ax53 => k_is)
    (case lx53 => k_is)
    (case cx53 => k_is)
    (case kx53 => k_is)
    (case ax54 => k_is)
    (case lx54 => k_is)
    (case cx54 => k_is)
    (case kx54 => k_is)
    (case ax55 => k_is)
    (case lx55 => k_is)
    (case cx55 => k_is)
    (case kx55 => k_is)
    (case dx55 => k_is)
    (case vx55 => exact rfl)
    (case npx55 => first | kernel_rfl | exact rfl)
    (case chx55 => first | kernel_rfl | exact rfl)
    (case ax56 => k_is)
    (case lx56 => k_is)
    (case cx56 => k_is)
    (case kx56 => k_is)
    (case ax57 => k_is)
    (case lx57 => k_is)
    (case cx57 => k_is)
    (case kx57 => k_is)
    (case z0 => k_is)
    (case z1 => k_is)
    (case z2 => k_is)
    (case z3 => k_is)
    (case z4 => k_is)
    (case z5 => k_is)
    (case z6 => k_is)
    (case z7 => k_is)
    (case z8 => k_is)
    (case z9 => k_is)
    (case z10 => k_is)
    (case z11 => k_is)
    (case z12 => k_is)
    (case z13 => k_is)
    (case z14 => k_is)
    (case y1 => exact rfl)
    (case y2 => exact rfl)
